import PyProof.Rows.All
import Wide.All
import OpenK.AllK
import Wide.FinOn
import HandS.ForMost
import HandS.Wide
import HandS.IsInst
import HandS.EndBits
import HandS.Deep
import HandS.More
import HandS.Conv
import HandS.TupLen
import HandS.Style
import HandS.Walk
import HandS.SortKw
import HandS.RaiseMore
import HandS.Defaults
import HandS.DictTup
import HandS.ListItems
import KE.SortData
import KE.KDictList
import HandS.ForExc
import HandS.ExcIs
import HandS.CallSlots
import KE.KEqDict
import KE.KDictKeyed
import KE.KeyNested
import HandS.ReplaceLit
import PySem.Challenge.RW_manygoings_k57_texts_of_no_program
set_option Elab.async false
set_option linter.all false
set_option maxRecDepth 100000
set_option maxHeartbeats 4000000
namespace G
open PySem L2
/-! ### one's own defs, called by name -/
section
variable (P : Program) (w : World) (K : PySem.W.Frag) (mg : Str → Option Value) (base : Heap)
/-- the def that the module's name x holds keeps the promise sp -/
structure Cal (CX : CXT) (k : Nat) (x : Str) (ps : List Str) (sp : Sp) : Prop where
  ex : ∃ (f : Addr) (fd : FuncData), FnOk P w K mg base CX k f fd ps sp ∧ Binds K fd ps [] ∧ PySem.W.keepIn K (.ref f) = true ∧ mg x = some (.ref f)
end
section
variable {X : Cx} {e : Expr} {es : List Expr} {pos p : Pos} {t : TA} {CX : CXT} {k j : Nat} {x : Str} {ps : List Str} {sp : Sp} {E : XK}
def tCal (sp : Sp) (E : XK) (t : TA) : TE := fun σ H Q => t σ H fun vs H1 => sp vs H1 Q E
theorem pe_cal (C : Cal X.prog X.w X.K X.mg X.base CX j x ps sp) (hr : Room j X.A) (hg : Gl X x) (hx : Passes CX X E) (ha : PA X (e :: es) t)
    (hdb : (x == ("__debug__" : Str)) = false := by decide) (he : starEach (e :: es) X.env = (false, eval e X.env) :: starEach es X.env := by rfl) (hpl : (backTo pos (starEach es X.env)).any (·.1) = false := by rfl) :
    PE X (.Call (.Name x p) (e :: es) [] pos) (tCal sp E t) := by
  obtain ⟨f, fd, F, b, kp, hm⟩ := C.ex
  have q := pe_call (p := p) (pos := pos) F hr hg hm kp b .nil hx ha hdb he hpl
  have z : tCall sp [] E t = tCal sp E t := by
    funext σ H Q
    unfold tCall tCal
    simp only [List.append_nil]
  rw [z] at q
  exact q
theorem pe_cal0 (C : Cal X.prog X.w X.K X.mg X.base CX j x ps sp) (hr : Room j X.A) (hg : Gl X x) (hx : Passes CX X E)
    (hdb : (x == ("__debug__" : Str)) = false := by decide) : PE X (.Call (.Name x p) [] [] pos) (tCal sp E tNil) := by
  obtain ⟨f, fd, F, b, kp, hm⟩ := C.ex
  have q := pe_call0 (p := p) (pos := pos) F hr hg hm kp b .nil hx hdb
  have z : tCall sp [] E tNil = tCal sp E tNil := by
    funext σ H Q
    unfold tCall tCal
    simp only [List.append_nil]
  rw [z] at q
  exact q
theorem Cal.of {P : Program} {w : World} {K : PySem.W.Frag} {mg : Str → Option Value} {base : Heap} {f : Addr} {fd : FuncData} (F : FnOk P w K mg base CX j f fd ps sp) (b : Binds K fd ps []) (kp : PySem.W.keepIn K (.ref f) = true) (hm : mg x = some (.ref f)) :
    Cal P w K mg base CX j x ps sp := ⟨f, fd, F, b, kp, hm⟩
end
/-! ### errors of one's own classes -/
/-- what the written part says of an error's class -/
structure XOk (K : PySem.W.Frag) (mg : Str → Option Value) (x : Str) (C : Addr) : Prop where
  g : mg x = some (.ref C)
  x : PySem.W.excIn K C [.type "ValueError", .type "Exception", .type "BaseException", .type "object"] "ValueError.__new__" = true
  k : PySem.W.keepIn K (.ref C) = true
  b : PySem.W.subIn K (.ref C) (.type "BaseException") = some true
  t : PySem.W.typeIn K (.ref C) = some (.type "type")
theorem passF {X : Cx} : Passes (L2.CX X.prog X.w) X E0 := fun _ _ _ _ _ _ _ h => by
  obtain ⟨_, _, _, _, _, _, _, _, _, _, _, _, z⟩ := h
  exact z.elim
theorem takesF {X : Cx} : Takes X (fun _ _ _ _ => False) := fun _ _ x => by
  obtain ⟨_, _, _, _, _, _, _, _, _, _, _, _, _, _, _, _, z⟩ := x
  exact z.elim
section
variable {X : Cx} {e : Expr} {es : List Expr} {pos p : Pos} {t : TA} {ta : TE} {CX : CXT} {k j : Nat} {x : Str} {ps : List Str} {sp : Sp} {E : St → XK}
theorem pe_calS (C : Cal X.prog X.w X.K X.mg X.base CX j x ps sp) (hr : Room j X.A) (hg : Gl X x) (hx : ∀ σ, PassesAt CX X σ (E σ)) (ha : PA X (e :: es) t)
    (hdb : (x == ("__debug__" : Str)) = false := by decide) (he : starEach (e :: es) X.env = (false, eval e X.env) :: starEach es X.env := by rfl) (hpl : (backTo pos (starEach es X.env)).any (·.1) = false := by rfl) :
    PE X (.Call (.Name x p) (e :: es) [] pos) (tCallS sp E t) := by
  obtain ⟨f, fd, F, b, kp, hm⟩ := C.ex
  exact pe_callS (p := p) (pos := pos) F hr hg hm kp b hx ha hdb he hpl
/-- raise X('..') -/
def tRaise (C : Addr) (W : WX) : TS := fun _ σ H => W (.ref C) none σ H
theorem ps_raiseO {C : Addr} {W : WX} {m : Str} {jj : Nat} {p2 pos' : Pos} (hc : X.calm = true) (tk : Takes X W) (T : XOk X.K X.mg x C) (hg : Gl X x) (hdb : (x == ("__debug__" : Str)) = false := by decide) : PS X (.Raise (some (.Call (.Name x p) [.Constant (.str m) jj p2] [] pos')) none pos) (tRaise C W) :=
  ps_raise hc tk (pmk_own PySem.F.excBase_ValueError T.x T.g T.k (raises_own T.b T.t) hg hdb)
/-- try: .. except X: .. -/
def tTry1 (K : PySem.W.Frag) (c : Value) (tb : WX → TS) (ts : Addr → Value → Option Addr → TS) (Wout : WX) : TS := fun D σ H => tb (wOnly K c ts Wout D) D σ H
theorem ps_try1 {c : Value} {body suite : List Stmt} {b₀ : Stmt} {np pos' : Pos} {tb : WX → TS} {ts : Addr → Value → Option Addr → TS} {Wout : WX} (hs : X.stack = X.env :: X.outer) (hf : X.env.frame = some X.env.locals) (hc : Names X x c) (tk : Takes X Wout)
    (hb : ∀ (W : WX) (pn : List (Addr × Obj)) (xe : Value → Shared → Prop), Takes (X.tr pn xe) W → PassesOwn (model X.prog X.w) X.A X.env xe → PSs (X.tr pn xe) body (tb W))
    (hsu : ∀ (a : Addr) (oe : Obj) (cls : Value) (d : Option Addr) (pn : List (Addr × Obj)), Zc cls d oe → (∃ vs, oe.data = .fields vs) → PSs (X.suite a ((a, oe) :: pn)) (b₀ :: suite) (ts a cls d)) :
    PS X (.Try body [.ExceptHandler (some (.Name x np)) none (b₀ :: suite) pos'] [] [] pos) (tTry1 X.K c tb ts Wout) := ps_try_only hs hf hc tk hb hsu
end
/-! ### classes of one's own -/
structure ClsOk (K : PySem.W.Frag) (C : Addr) (fs : List Str) : Prop where
  cl : Cls K C
  no : ∀ f ∈ fs, NoAttr K C f
section
variable (P : Program) (w : World) (K : PySem.W.Frag) (mg : Str → Option Value) (base : Heap)
/-- the method m of the class keeps the promise sp; dvs fill up behind the given ones -/
structure CalM (CX : CXT) (k : Nat) (C : Addr) (m : Str) (ps : List Str) (dvs : List V) (sp : Sp) : Prop where
  ex : ∃ (f : Addr) (fd : FuncData) (ds : List Value), FnOk P w K mg base CX k f fd ps sp ∧ Binds K fd ps ds ∧ Vals dvs ds ∧ Meth K C m f ∧ Cls K C
/-- the class that the module's name x holds is made by an __init__ that keeps the promise sp -/
structure CalK (CX : CXT) (k : Nat) (C : Addr) (x : Str) (ps : List Str) (sp : Sp) : Prop where
  ex : ∃ (f : Addr) (fd : FuncData), FnOk P w K mg base CX k f fd ps sp ∧ Binds K fd ps [] ∧ Mk K C f ∧ mg x = some (.ref C)
end
section
variable {X : Cx} {o e : Expr} {es : List Expr} {pos apos p : Pos} {t : TA} {ta : TE} {CX : CXT} {k j : Nat} {m x : Str} {ps : List Str} {dvs : List V} {sp : Sp} {E : XK} {C : Addr} {pl : Sem Bool}
theorem pe_calM (M : CalM X.prog X.w X.K X.mg X.base CX j C m ps dvs sp) (hr : Room j X.A) (hx : Passes CX X E) (he : PE X o ta) (ha : PA X (e :: es) t)
    (hst : starEach (e :: es) X.env = (false, eval e X.env) :: starEach es X.env := by rfl) (hpl : (backTo pos (starEach es X.env)).any (·.1) = false := by rfl)
    (ht : eval (.Call (.Attribute o m apos) (e :: es) [] pos) X.env = (do
      let ov ← eval o X.env
      standAt apos.atName
      let (f, first) ← holding [ov] (getMethod ov m pl)
      callWith pos f first (backTo pos (starEach (e :: es) X.env)) (backToKw pos (keywordEach [] X.env))) := by rfl) :
    PE X (.Call (.Attribute o m apos) (e :: es) [] pos) (tMeth C m sp dvs E ta t) := by
  obtain ⟨f, fd, ds, F, b, v, me, c⟩ := M.ex
  exact pe_meth (pl := pl) he c me F hr b v hx ha hst hpl ht
theorem pe_calM0 (M : CalM X.prog X.w X.K X.mg X.base CX j C m ps dvs sp) (hr : Room j X.A) (hx : Passes CX X E) (he : PE X o ta)
    (ht : eval (.Call (.Attribute o m apos) [] [] pos) X.env = (do
      let ov ← eval o X.env
      standAt apos.atName
      let (f, first) ← holding [ov] (getMethod ov m pl)
      callWith pos f first (backTo pos (starEach [] X.env)) (backToKw pos (keywordEach [] X.env))) := by rfl) :
    PE X (.Call (.Attribute o m apos) [] [] pos) (tMeth C m sp dvs E ta tNil) := by
  obtain ⟨f, fd, ds, F, b, v, me, c⟩ := M.ex
  exact pe_meth0 (pl := pl) he c me F hr b v hx ht
theorem pe_calK0 (M : CalK X.prog X.w X.K X.mg X.base CX j C x ps sp) (hr : Room (j + 1) X.A) (hg : Gl X x) (hx : Passes CX X E) (hdb : (x == ("__debug__" : Str)) = false := by decide) :
    PE X (.Call (.Name x p) [] [] pos) (tMake C sp [] E tNil) := by
  obtain ⟨f, fd, F, b, mk, hm⟩ := M.ex
  exact pe_make0 mk F hr hg hm b .nil hx hdb
theorem pe_calK (M : CalK X.prog X.w X.K X.mg X.base CX j C x ps sp) (hr : Room (j + 1) X.A) (hg : Gl X x) (hx : Passes CX X E) (ha : PA X (e :: es) t)
    (hdb : (x == ("__debug__" : Str)) = false := by decide) (he : starEach (e :: es) X.env = (false, eval e X.env) :: starEach es X.env := by rfl) (hpl : (backTo pos (starEach es X.env)).any (·.1) = false := by rfl) :
    PE X (.Call (.Name x p) (e :: es) [] pos) (tMake C sp [] E t) := by
  obtain ⟨f, fd, F, b, mk, hm⟩ := M.ex
  exact pe_make mk F hr hg hm b .nil hx ha hdb he hpl
end
/-! ### methods that may raise -/
def tMethS (C : Addr) (m : Str) (sp : Sp) (dvs : List V) (E : L2.St → XK) (ta : TE) (t : TA) : TE := fun σ H Q => ta σ H fun x H1 => ∃ a dx fs, x = .ref a ∧ H1 a = some (.ins C dx fs) ∧ fs.lookup m = none ∧
  t σ H1 fun vs H2 => sp (x :: (vs ++ dvs)) H2 Q (E σ)
section
variable {X : Cx} {o e : Expr} {es : List Expr} {pos apos p : Pos} {t : TA} {ta : TE} {CX : CXT} {k j : Nat} {m x : Str} {ps : List Str} {dvs : List V} {sp : Sp} {E : L2.St → XK} {C : Addr} {pl : Sem Bool}
theorem pe_calMS (M : CalM X.prog X.w X.K X.mg X.base CX j C m ps dvs sp) (hr : Room j X.A) (hx : ∀ σ, PassesAt CX X σ (E σ)) (he : PE X o ta) (ha : PA X (e :: es) t)
    (hst : starEach (e :: es) X.env = (false, eval e X.env) :: starEach es X.env := by rfl) (hpl : (backTo pos (starEach es X.env)).any (·.1) = false := by rfl)
    (ht : eval (.Call (.Attribute o m apos) (e :: es) [] pos) X.env = (do
      let ov ← eval o X.env
      standAt apos.atName
      let (f, first) ← holding [ov] (getMethod ov m pl)
      callWith pos f first (backTo pos (starEach (e :: es) X.env)) (backToKw pos (keywordEach [] X.env))) := by rfl) :
    PE X (.Call (.Attribute o m apos) (e :: es) [] pos) (tMethS C m sp dvs E ta t) := by
  obtain ⟨f, fd, ds, F, b, v, me, c⟩ := M.ex
  refine ⟨fun pins s σ H Q I h => ?_⟩
  refine PySem.W.methodCall_KW (pl := pl) (thn (he.run pins s σ H _ I h) fun u s1 ⟨x, H1, I1, rx, a, dx, fs, ex, ea, l, q⟩ => ?_) ht
  subst ex
  obtain rfl : u = Value.ref a := rx
  refine getmeth_ok I1 ea c me l ?_
  refine PySem.W.callWith_K (first := [.ref a]) (h₀ := X.base) I.ok.mod.kin me.kp (thn (ha.run pos pins s1 σ H1 _ I1 q) fun us s2 ⟨vs, H2, I2, r, q2⟩ => ⟨I2.kIn, ?_⟩) hst hpl
  exact L2.run_fnSD (us := .ref a :: us) (vs := .ref a :: vs) F hr b v (hx σ) I2 (.cons rfl r) q2
theorem pe_calMS0 (M : CalM X.prog X.w X.K X.mg X.base CX j C m ps dvs sp) (hr : Room j X.A) (hx : ∀ σ, PassesAt CX X σ (E σ)) (he : PE X o ta)
    (ht : eval (.Call (.Attribute o m apos) [] [] pos) X.env = (do
      let ov ← eval o X.env
      standAt apos.atName
      let (f, first) ← holding [ov] (getMethod ov m pl)
      callWith pos f first (backTo pos (starEach [] X.env)) (backToKw pos (keywordEach [] X.env))) := by rfl) :
    PE X (.Call (.Attribute o m apos) [] [] pos) (tMethS C m sp dvs E ta tNil) := by
  obtain ⟨f, fd, ds, F, b, v, me, c⟩ := M.ex
  refine ⟨fun pins s σ H Q I h => ?_⟩
  refine PySem.W.methodCall_KW (pl := pl) (thn (he.run pins s σ H _ I h) fun u s1 ⟨x, H1, I1, rx, a, dx, fs, ex, ea, l, q⟩ => ?_) ht
  subst ex
  obtain rfl : u = Value.ref a := rx
  refine getmeth_ok I1 ea c me l ?_
  exact PySem.W.callWith_K0 (first := [.ref a]) I1.kIn me.kp (L2.run_fnSD (us := [.ref a]) (vs := [.ref a]) F hr b v (hx σ) I1 (.cons rfl .nil) q)
end
/-! ### a rule's reading told with another K that is the same -/
section
variable {X : Cx} {e : Expr} {tg : Expr}
theorem kPE {t : TE} (t' : TE) (h : PE X e t) (q : t = t') : PE X e t' := q ▸ h
theorem kPI {t : TI} (t' : TI) (h : PI X tg e t) (q : t = t') : PI X tg e t' := q ▸ h
theorem kPG {t : TG} (t' : TG) (h : PG X e t) (q : t = t') : PG X e t' := q ▸ h
theorem kPT {t : TT} (t' : TT) (h : PT X e t) (q : t = t') : PT X e t' := q ▸ h
theorem kIxR {r : V → V → Hp → VK → Prop} (r' : V → V → Hp → VK → Prop) (h : IxR X r) (q : r = r') : IxR X r' := q ▸ h
theorem kSlR {r : V → Option Int → Option Int → Hp → VK → Prop} (r' : V → Option Int → Option Int → Hp → VK → Prop) (h : SlR X r) (q : r = r') : SlR X r' := q ▸ h
theorem kOpR {o : Value → Value → Sem Value} {r : R2} (r' : R2) (h : OpR X o r) (q : r = r') : OpR X o r' := q ▸ h
theorem kCallR {f : Value} {r : List V → Hp → VK → Prop} (r' : List V → Hp → VK → Prop) (h : CallR X f r) (q : r = r') : CallR X f r' := q ▸ h
end
abbrev rLenK (K : PySem.W.Frag) : List V → Hp → VK → Prop := fun xs H Q => ∃ x n, xs = [x] ∧ LenV K x H n ∧ Q (.int ↑n) H
abbrev rListOf (K : PySem.W.Frag) : List V → Hp → VK → Prop := fun xs H Q => ∃ p ys, xs = [V.ref p] ∧ (SqL K H p ys ∨ SqT K H p ys) ∧ ∀ (l : Addr), H l = none → Q (V.ref l) (upd H l (HO.lst ys))
abbrev rTupOf (K : PySem.W.Frag) : List V → Hp → VK → Prop := fun xs H Q => ∃ p ys, xs = [V.ref p] ∧ ((SqL K H p ys ∧ ∀ (l : Addr), H l = none → Q (V.ref l) (upd H l (HO.tup ys))) ∨ SqT K H p ys ∧ Q (V.ref p) H)
abbrev rJoin (K : PySem.W.Frag) : V → List V → Hp → VK → Prop := fun x xs H Q => ∃ a p, ∃ ys : List Str, x = .str a ∧ xs = [.ref p] ∧ (SqL K H p (ys.map V.str) ∨ SqT K H p (ys.map V.str)) ∧ (ys.map (·.length)).sum + ys.length * a.length ≤ 16777216 ∧ Q (.str (Txt.join a ys)) H
abbrev tTru (K : PySem.W.Frag) (ta : TE) : TT := fun σ H Q => ta σ H fun x H' => ∃ k, TruV K x H' k ∧ Q k H'
abbrev NewT (xs : List V) (H : Hp) (Q : VK) : Prop := xs.length ≤ sizeLine ∧ ∀ p, H p = none → Q (.ref p) (upd H p (.tup xs))
abbrev NewL (xs : List V) (H : Hp) (Q : VK) : Prop := xs.length ≤ sizeLine ∧ ∀ p, H p = none → Q (.ref p) (upd H p (.lst xs))
abbrev DGet2G (d : Addr) (y z : V) (H : Hp) (Q : VK) : Prop := ∃ o, DGet H d y o ∧ Q (o.getD z) H
abbrev DAugG (x y : V) (H : Hp) (R : Addr → V → Prop) : Prop := ∃ a v, x = .ref a ∧ DGet H a y (some v) ∧ R a v
abbrev DPopG (d : Addr) (y : V) (H : Hp) (Q : VK) : Prop := ∃ kvs k v, H d = some (.dK kvs) ∧ y = kV k ∧ valV kvs k = some v ∧ Q v (upd H d (.dK (dropK kvs k)))
abbrev DInG (x y : V) (H : Hp) (Q : VK) : Prop := ∃ a o, x = .ref a ∧ DGet H a y o ∧ Q (.bl o.isSome) H
abbrev DNinG (x y : V) (H : Hp) (Q : VK) : Prop := ∃ a o, x = .ref a ∧ DGet H a y o ∧ Q (.bl (!o.isSome)) H
abbrev DGetG (x y : V) (H : Hp) (Q : VK) : Prop := ∃ a v, x = .ref a ∧ DGet H a y (some v) ∧ Q v H
abbrev RevG (K : PySem.W.Frag) (x : V) (H : Hp) (Q : VK) : Prop := ∃ a xs, x = .ref a ∧ SqL K H a xs ∧ ∀ p, H p = none → Q (.ref p) (upd H p (.lst xs.reverse))
abbrev rInsert : V → List V → Hp → VK → Prop := fun x vs H Q => ∃ (l : Addr) (xs : List V) (i : Int) (y : V), x = .ref l ∧ vs = [.int i, y] ∧ H l = some (.lst xs) ∧ xs.length < sizeLine ∧ 0 ≤ i ∧ i < 2 ^ 63 ∧ Q .non (upd H l (.lst (xs.take i.toNat ++ [y] ++ xs.drop i.toNat)))
/-- the built-in names that no module's name hides -/
structure Tx (mg : Str → Option Value) : Prop where
  n_len : mg "len" = none
  n_isinstance : mg "isinstance" = none
  range : mg "range" = none
  n_max : mg "max" = none
  n_min : mg "min" = none
  n_int : mg "int" = none
  n_bool : mg "bool" = none
  n_str : mg "str" = none
  n_list : mg "list" = none
  n_tuple : mg "tuple" = none
  n_dict : mg "dict" = none
  n_sorted : mg "sorted" = none
  n_sum : mg "sum" = none
  n_all : mg "all" = none
  n_any : mg "any" = none
  enumerate : mg "enumerate" = none
  zip : mg "zip" = none
  reversed : mg "reversed" = none
  n_ValueError : mg "ValueError" = none

/-! ### readings, one step at a time -/
section
variable {σ : L2.St} {H : Hp} {Q : VK} {nx : L2.St → Hp → Prop} {rt : VK} {bk ct : L2.St → Hp → Prop} {t u : TS} {te ta tb tv : TE} {tt tc : TT} {tl : TA} {g : TG} {v x y : V} {i : Nat} {K : PySem.W.Frag}
theorem r_seq (h : t ⟨u ⟨nx, rt, bk, ct⟩, rt, bk, ct⟩ σ H) : tSeq t u ⟨nx, rt, bk, ct⟩ σ H := h
theorem r_asg (h : te σ H fun x H1 => g x σ H1 nx) : tAsg te g ⟨nx, rt, bk, ct⟩ σ H := h
theorem r_name {Q : L2.St → Hp → Prop} {σ' : L2.St} (e : σ.set i (some v) = σ') (h : Q σ' H) : gName i v σ H Q := by
  subst e
  exact h
theorem r_begin {D : Ends} {σ' : L2.St} (e : σ = σ') (h : t D σ' H) : t D σ H := by
  subst e
  exact h
theorem r_ret (h : te σ H rt) : tRet te ⟨nx, rt, bk, ct⟩ σ H := h
theorem r_retN (h : rt .non H) : tRetN ⟨nx, rt, bk, ct⟩ σ H := h
theorem r_next (h : nx σ H) : tNext ⟨nx, rt, bk, ct⟩ σ H := h
theorem r_brk (h : bk σ H) : tBreak ⟨nx, rt, bk, ct⟩ σ H := h
theorem r_cont (h : ct σ H) : tCont ⟨nx, rt, bk, ct⟩ σ H := h
theorem r_drop (h : te σ H fun _ H1 => nx σ H1) : tDrop te ⟨nx, rt, bk, ct⟩ σ H := h
theorem r_if (h : tc σ H fun b H1 => if b = true then t ⟨nx, rt, bk, ct⟩ σ H1 else u ⟨nx, rt, bk, ct⟩ σ H1) : tIfS tc t u ⟨nx, rt, bk, ct⟩ σ H := h
theorem r_var (e : σ[i]? = some (some v)) (h : Q v H) : tVar i σ H Q := ⟨v, e, h⟩
theorem r_c (h : Q v H) : tC v σ H Q := h
theorem r_op {r : R2} (h : ta σ H fun x H1 => tb σ H1 fun y H2 => r x y H2 Q) : tOp r ta tb σ H Q := h
theorem r_un {r : V → Hp → VK → Prop} (h : ta σ H fun x H1 => r x H1 Q) : tUn r ta σ H Q := h
theorem r_i0 {f : Int → Int → V} {a b : Int} (h : Q (f a b) H) : rI0 f (.int a) (.int b) H Q := ⟨a, b, rfl, rfl, h⟩
theorem r_i {C : Int → Int → Prop} {f : Int → Int → V} {a b : Int} (c : C a b) (h : Q (f a b) H) : rI C f (.int a) (.int b) H Q := ⟨a, b, rfl, rfl, c, h⟩
theorem r_u {f : Int → V} {a : Int} (h : Q (f a) H) : rU f (.int a) H Q := ⟨a, rfl, h⟩
theorem r_eq (s : scal x y = true) (h : Q (.bl (decide (x = y))) H) : rEq x y H Q := ⟨s, h⟩
theorem r_ne (s : scal x y = true) (h : Q (.bl (!decide (x = y))) H) : rNe x y H Q := ⟨s, h⟩
theorem r_test {Q : Bool → Hp → Prop} (h : te σ H fun x H' => ∃ k, x = .bl k ∧ Q k H') : tTest te σ H Q := h
theorem r_tB {Q : Bool → Hp → Prop} (h : te σ H fun x H' => ∃ k, x = .bl k ∧ Q k H') : tB te σ H Q := h
theorem r_bl {Q : Bool → Prop} {b : Bool} (h : Q b) : ∃ k, V.bl b = .bl k ∧ Q k := ⟨b, rfl, h⟩
theorem r_and {Q : Bool → Hp → Prop} (h : tt σ H fun c H1 => if c = true then tc σ H1 Q else Q false H1) : tAnd tt tc σ H Q := h
theorem r_or {Q : Bool → Hp → Prop} (h : tt σ H fun c H1 => if c = true then Q true H1 else tc σ H1 Q) : tOr tt tc σ H Q := h
theorem r_not {Q : Bool → Hp → Prop} (h : tt σ H fun c H1 => Q (!c) H1) : tNot tt σ H Q := h
theorem r_andV (h : ta σ H fun x H1 => ∃ c, x = .bl c ∧ if c = true then tb σ H1 Q else Q (.bl false) H1) : tAndV ta tb σ H Q := h
theorem r_orV (h : ta σ H fun x H1 => ∃ c, x = .bl c ∧ if c = true then Q (.bl true) H1 else tb σ H1 Q) : tOrV ta tb σ H Q := h
theorem r_notV (h : ta σ H fun x H1 => ∃ c, x = .bl c ∧ Q (.bl (!c)) H1) : tNotV ta σ H Q := h
theorem r_ifE (h : tt σ H fun c H1 => if c = true then ta σ H1 Q else tb σ H1 Q) : tIf tt ta tb σ H Q := h
theorem r_cb {r : List V → Hp → VK → Prop} (h : tl σ H fun vs H1 => r vs H1 Q) : tCB r tl σ H Q := h
theorem r_meth {C : Addr} {m : Str} {sp : Sp} {dvs : List V} {E : XK} (h : ta σ H fun x H1 => ∃ a dx fs, x = .ref a ∧ H1 a = some (.ins C dx fs) ∧ fs.lookup m = none ∧ tl σ H1 fun vs H2 => sp (x :: (vs ++ dvs)) H2 Q E) : tMeth C m sp dvs E ta tl σ H Q := h
theorem r_methS {C : Addr} {m : Str} {sp : Sp} {dvs : List V} {E : L2.St → XK} (h : ta σ H fun x H1 => ∃ a dx fs, x = .ref a ∧ H1 a = some (.ins C dx fs) ∧ fs.lookup m = none ∧ tl σ H1 fun vs H2 => sp (x :: (vs ++ dvs)) H2 Q (E σ)) : tMethS C m sp dvs E ta tl σ H Q := h
theorem r_mfld {a C dx : Addr} {fs : List (Str × V)} {m : Str} {R : Prop} (e : H a = some (.ins C dx fs)) (l : fs.lookup m = none) (h : R) : ∃ b dx fs, V.ref a = .ref b ∧ H b = some (.ins C dx fs) ∧ fs.lookup m = none ∧ R := ⟨a, dx, fs, rfl, e, l, h⟩
theorem r_make {C : Addr} {sp : Sp} {dvs : List V} {E : XK} (h : tl σ H fun vs H1 => ∀ x dx, H1 x = none → H1 dx = none → dx ≠ x → sp (.ref x :: (vs ++ dvs)) (upd (upd H1 dx (.own x)) x (.ins C dx [])) (fun v H2 => v = .non ∧ Q (.ref x) H2) E) : tMake C sp dvs E tl σ H Q := h
theorem r_fld {f : Str} (h : ta σ H fun x H1 => ∃ a C dx fs v, x = .ref a ∧ H1 a = some (.ins C dx fs) ∧ Cls K C ∧ NoAttr K C f ∧ fs.lookup f = some v ∧ Q v H1) : tFld K ta f σ H Q := h
theorem r_fldv {a C dx : Addr} {fs : List (Str × V)} {f : Str} {ks : List Str} {R : V → Prop} (T : ClsOk K C ks) (e : H a = some (.ins C dx fs)) (m : f ∈ ks) (l : fs.lookup f = some v) (h : R v) : ∃ b C dx fs v, V.ref a = .ref b ∧ H b = some (.ins C dx fs) ∧ Cls K C ∧ NoAttr K C f ∧ fs.lookup f = some v ∧ R v := ⟨a, C, dx, fs, v, rfl, e, T.cl, T.no f m, l, h⟩
theorem r_sfld {f : Str} (h : tb σ H fun y H1 => ta σ H1 fun x H2 => ∃ a C dx fs, x = .ref a ∧ H2 a = some (.ins C dx fs) ∧ Cls K C ∧ NoAttr K C f ∧ fs.length < 1000 ∧ nx σ (upd H2 a (.ins C dx (putF f y fs)))) : sFld K ta tb f ⟨nx, rt, bk, ct⟩ σ H := h
theorem r_sfldv {a C dx : Addr} {fs fs' : List (Str × V)} {f : Str} {ks : List Str} {R : Hp → Prop} {y : V} (T : ClsOk K C ks) (e : H a = some (.ins C dx fs)) (m : f ∈ ks) (l : fs.length < 1000) (p : putF f y fs = fs') (h : R (upd H a (.ins C dx fs'))) : ∃ b C dx fs, V.ref a = .ref b ∧ H b = some (.ins C dx fs) ∧ Cls K C ∧ NoAttr K C f ∧ fs.length < 1000 ∧ R (upd H b (.ins C dx (putF f y fs))) := ⟨a, C, dx, fs, rfl, e, T.cl, T.no f m, l, by rw [p]; exact h⟩
theorem r_chain {r r' : R2} {tc : TE} (h : ta σ H fun x H1 => tb σ H1 fun y H2 => r x y H2 fun z H3 => ∃ k, z = .bl k ∧ (if k = true then tc σ H3 fun w' H4 => r' y w' H4 Q else Q (.bl false) H3)) : tChain r r' ta tb tc σ H Q := h
theorem r_cbk {r : List V → List V → Hp → VK → Prop} {tk : TA} (h : tl σ H fun vs H1 => tk σ H1 fun zs H2 => r vs zs H2 Q) : tCKw r tl tk σ H Q := h
theorem r_cal {sp : Sp} {E : XK} (h : tl σ H fun vs H1 => sp vs H1 Q E) : tCal sp E tl σ H Q := h
theorem r_calS {sp : Sp} {E : L2.St → XK} (h : tl σ H fun vs H1 => sp vs H1 Q (E σ)) : tCallS sp E tl σ H Q := h
theorem r_raise {C : Addr} {W : WX} (h : W (.ref C) none σ H) : tRaise C W ⟨nx, rt, bk, ct⟩ σ H := h
theorem r_try1 {c : Value} {tb : WX → TS} {ts : Addr → Value → Option Addr → TS} {Wout : WX} (h : tb (wOnly K c ts Wout ⟨nx, rt, bk, ct⟩) ⟨nx, rt, bk, ct⟩ σ H) : tTry1 K c tb ts Wout ⟨nx, rt, bk, ct⟩ σ H := h
theorem r_nil {Q : List V → Hp → Prop} (h : Q [] H) : tNil σ H Q := h
theorem r_cons {Q : List V → Hp → Prop} (h : te σ H fun x H1 => tl σ H1 fun xs H2 => Q (x :: xs) H2) : tCons te tl σ H Q := h
theorem r_tup (h : tl σ H fun xs H1 => NewT xs H1 Q) : tTup tl σ H Q := h
theorem r_lst (h : tl σ H fun xs H1 => NewL xs H1 Q) : tLst tl σ H Q := h
theorem r_ixL {p : Addr} {xs : List V} {i : Int} (hs : SqL K H p xs) (e : atI xs i = some v) (h : Q v H) : rIxL K (.ref p) (.int i) H Q := ⟨p, xs, i, v, rfl, rfl, hs, e, h⟩
theorem r_ixT {p : Addr} {xs : List V} {i : Int} (hs : SqT K H p xs) (e : atI xs i = some v) (h : Q v H) : rIxT K (.ref p) (.int i) H Q := ⟨p, xs, i, v, rfl, rfl, hs, e, h⟩
theorem r_ixl {p : Addr} {xs : List V} {i : Int} (hs : H p = some (.lst xs)) (e : atI xs i = some v) (h : Q v H) : rIxL K (.ref p) (.int i) H Q := ⟨p, xs, i, v, rfl, rfl, .inl (.inl hs), e, h⟩
theorem r_ixt {p : Addr} {xs : List V} {i : Int} (hs : H p = some (.tup xs)) (e : atI xs i = some v) (h : Q v H) : rIxT K (.ref p) (.int i) H Q := ⟨p, xs, i, v, rfl, rfl, .inl (.inl hs), e, h⟩
theorem r_ixS {z : Str} {i : Int} {c : Nat} (hz : z.length ≤ sizeLine) (e : atI z.cps.toList i = some c) (h : Q (.str ⟨#[c]⟩) H) : rIxS (.str z) (.int i) H Q := ⟨z, i, c, rfl, rfl, hz, e, h⟩
theorem r_ix {r : V → V → Hp → VK → Prop} (h : r x y H Q) : (fun x y H Q => r x y H Q) x y H Q := h
theorem r_sub {o j : TE} {ts : TSet} {Q : L2.St → Hp → Prop} (h : o σ H fun a H1 => j σ H1 fun b H2 => ts a b v H2 fun H3 => Q σ H3) : gSub o j ts v σ H Q := h
theorem r_setL {p : Addr} {xs ys : List V} {k : Int} {j : Nat} {Q : Hp → Prop} (hs : H p = some (.lst xs)) (e : ixN xs.length k = some j) (e2 : xs.set j v = ys) (h : Q (upd H p (.lst ys))) : rSetL (.ref p) (.int k) v H Q := by
  subst e2
  exact ⟨p, xs, k, j, rfl, rfl, hs, e, h⟩
theorem r_gtup {p : Addr} {xs : List V} {n : Nat} {ts : TGs} {Q : L2.St → Hp → Prop} (hs : H p = some (.tup xs)) (hn : xs.length = n) (h : ts xs σ H Q) : gTup K n ts (.ref p) σ H Q := ⟨p, xs, rfl, .inl (.inl hs), hn, h⟩
theorem r_gcons {ts : TGs} {vs : List V} {Q : L2.St → Hp → Prop} (h : g v σ H fun σ' H' => ts vs σ' H' Q) : gCons g ts (v :: vs) σ H Q := ⟨v, vs, rfl, h⟩
theorem r_gnil {Q : L2.St → Hp → Prop} (h : Q σ H) : gNil [] σ H Q := ⟨rfl, h⟩
theorem r_bm {T : String} {r : V → List V → Hp → VK → Prop} (h : ta σ H fun x H1 => tyV K T x H1 ∧ tl σ H1 fun xs H2 => r x xs H2 Q) : tBM K T r ta tl σ H Q := h
theorem r_bm0 {T : String} {r : V → List V → Hp → VK → Prop} (h : ta σ H fun x H1 => tyV K T x H1 ∧ r x [] H1 Q) : tBM0 K T r ta σ H Q := h
theorem r_tyL {p : Addr} {xs : List V} {R : Prop} (hs : H p = some (.lst xs)) (h : R) : tyV K "list" (.ref p) H ∧ R := ⟨.inl ⟨rfl, _, .inl (.inl hs)⟩, h⟩
theorem r_app {p : Addr} {xs : List V} (hs : H p = some (.lst xs)) (hz : xs.length < sizeLine) (h : Q .non (upd H p (.lst (xs ++ [v])))) : rAppend (.ref p) [v] H Q := ⟨p, xs, v, rfl, rfl, hs, hz, h⟩
theorem r_rev {p : Addr} {xs : List V} (hs : H p = some (.lst xs)) (h : Q .non (upd H p (.lst xs.reverse))) : rReverse (.ref p) [] H Q := ⟨p, xs, rfl, rfl, hs, h⟩
theorem r_cat {p q : Addr} {xs ys : List V} (h1 : H p = some (.lst xs)) (h2 : H q = some (.lst ys)) (hz : xs.length + ys.length ≤ sizeLine) (h : ∀ c, H c = none → Q (.ref c) (upd H c (.lst (xs ++ ys)))) : rCat (.ref p) (.ref q) H Q := ⟨p, q, xs, ys, rfl, rfl, h1, h2, hz, h⟩
theorem r_revL (h : te σ H fun x H1 => RevG K x H1 Q) : tRevL K te σ H Q := h
theorem r_ext {p q : Addr} {xs ys : List V} (h1 : H p = some (.lst xs)) (h2 : H q = some (.lst ys)) (hz : xs.length + ys.length ≤ sizeLine) (h : Q .non (upd H p (.lst (xs ++ ys)))) : rExtend (.ref p) [.ref q] H Q := ⟨p, q, xs, ys, rfl, rfl, h1, h2, hz, h⟩
theorem r_dget {td ty : TE} (h : td σ H fun x H1 => ty σ H1 fun y H2 => DGetG x y H2 Q) : tDGet td ty σ H Q := h
theorem r_din {td ty : TE} (h : ty σ H fun y H1 => td σ H1 fun x H2 => DInG x y H2 Q) : tDIn ty td σ H Q := h
theorem r_dnin {td ty : TE} (h : ty σ H fun y H1 => td σ H1 fun x H2 => DNinG x y H2 Q) : tDNotIn ty td σ H Q := h
theorem r_slc {r : V → Option Int → Option Int → Hp → VK → Prop} {to th : TO} (h : te σ H fun x H1 => to σ H1 fun l H2 => th σ H2 fun u H3 => r x l u H3 Q) : tSl r te to th σ H Q := h
theorem r_nop {Q : Option Int → Hp → Prop} (h : Q none H) : tNoPart σ H Q := h
theorem r_part {Q : Option Int → Hp → Prop} (h : te σ H fun x H1 => ∃ i, x = .int i ∧ Q (some i) H1) : tPart te σ H Q := h
theorem r_int {Q : Int → Prop} {a : Int} (h : Q a) : ∃ k, V.int a = .int k ∧ Q k := ⟨a, rfl, h⟩
theorem r_isi {T C : String} {b : Bool} (h : TyX K H x (.type T)) (e : kitB T C = some b) (q : Q (.bl b) H) : rIsi K [x, .ty C] H Q := ⟨x, .ty C, _, _, b, rfl, .ty C, h, kit_ty e, q⟩
theorem r_disp {trs : List (TE × TE)} (h : ∀ p, H p = none → tPairs trs σ (upd H p (.dK [])) fun ps H2 => H2 p = some (.dK []) ∧ ∃ kvs : List (Key × V), ps = kvs.map (fun kv => (kV kv.1, kv.2)) ∧ kvs.length ≤ 15 ∧ Q (.ref p) (upd H2 p (.dK (mergeK [] kvs)))) : tDisp trs σ H Q := h
theorem r_pcons {r : List (TE × TE)} {Q : List (V × V) → Hp → Prop} (h : ta σ H fun x H1 => tb σ H1 fun y H2 => tPairs r σ H2 fun ps H3 => Q ((x, y) :: ps) H3) : tPairs ((ta, tb) :: r) σ H Q := h
theorem r_pnil {Q : List (V × V) → Hp → Prop} (h : Q [] H) : tPairs [] σ H Q := h
theorem r_slS {z : Str} {lo hi : Option Int} (hz : z.length ≤ sizeLine) (q : Q (.str (cutS z lo hi)) H) : rSlS (.str z) lo hi H Q := ⟨z, rfl, hz, q⟩
theorem r_dg1 {td ty : TE} (h : td σ H fun x H1 => ∃ a, x = .ref a ∧ IsD H1 a ∧ ty σ H1 fun y H2 => ∃ o, DGet H2 a y o ∧ Q (o.getD .non) H2) : tDGet1 td ty σ H Q := h
theorem r_dg2 {td ty tx : TE} (h : td σ H fun x H1 => ∃ a, x = .ref a ∧ IsD H1 a ∧ ty σ H1 fun y H2 => tx σ H2 fun z H3 => DGet2G a y z H3 Q) : tDGet2 td ty tx σ H Q := h
theorem r_dp1 {td ty : TE} (h : td σ H fun x H1 => ∃ a, x = .ref a ∧ IsD H1 a ∧ ty σ H1 fun y H2 => DPopG a y H2 Q) : tDPop1 td ty σ H Q := h
theorem r_daug {td ty ty2 : TE} {rd : V → V → Hp → VK → Prop} (h : td σ H fun x H1 => ty σ H1 fun y H2 => DAugG x y H2 fun a v => ty2 σ H2 fun y2 H3 => rd v y2 H3 fun z H4 => ∃ H5, DPut H4 a y z H5 ∧ nx σ H5) : sDAug td ty ty2 rd ⟨nx, rt, bk, ct⟩ σ H := h
theorem r_dput {td ty : TE} {tz : TE} (h : tz σ H fun v H1 => td σ H1 fun x H2 => ty σ H2 fun y H3 => ∃ a H4, x = .ref a ∧ DPut H3 a y v H4 ∧ nx σ H4) : sDPut td ty tz ⟨nx, rt, bk, ct⟩ σ H := h
theorem r_dki {R : Option V → Prop} {a : Addr} {kvs : List (Key × V)} {k : Int} (e : H a = some (.dK kvs)) (h : R (valV kvs (.inl k))) : ∃ b o, V.ref a = .ref b ∧ DGet H b (.int k) o ∧ R o := ⟨a, _, rfl, DGet.k (k := .inl k) e, h⟩
theorem r_gki {R : V → Prop} {a : Addr} {kvs : List (Key × V)} {k : Int} {v : V} (e : H a = some (.dK kvs)) (e2 : valV kvs (.inl k) = some v) (h : R v) : ∃ b v, V.ref a = .ref b ∧ DGet H b (.int k) (some v) ∧ R v := ⟨a, v, rfl, e2 ▸ DGet.k (k := .inl k) e, h⟩
theorem r_pki {R : Hp → Prop} {a : Addr} {kvs : List (Key × V)} {k : Int} {v : V} (e : H a = some (.dK kvs)) (hl : kvs.length < sizeLine) (h : R (upd H a (.dK (putK kvs (.inl k) v)))) : ∃ b H', V.ref a = .ref b ∧ DPut H b (.int k) v H' ∧ R H' := ⟨a, _, rfl, DPut.k (k := .inl k) e hl, h⟩
theorem r_gkR {R : V → Prop} {a : Addr} {kvs : List (Key × V)} {k : Key} {v y : V} (e : Rd H a (.dK kvs)) (ey : y = kV k) (e2 : valV kvs k = some v) (h : R v) : ∃ b v, V.ref a = .ref b ∧ DGet H b y (some v) ∧ R v := ⟨a, v, rfl, by rw [ey, ← e2]; exact .inl ⟨kvs, k, e, rfl, rfl⟩, h⟩
theorem r_lockE {t : TE} {d : Addr} {u : HO} (e : H d = some u) (m : Mut (some u)) (h : ∀ od, t σ (upd H d (.frz od u)) fun v H' => H' d = some (.frz od u) ∧ Q v (upd H' d u)) : tLockE t σ H Q := ⟨d, u, e, m, h⟩
theorem r_dks {R : Option V → Prop} {a : Addr} {kvs : List (Key × V)} {k : Str} (e : H a = some (.dK kvs)) (h : R (valV kvs (.inr k))) : ∃ b o, V.ref a = .ref b ∧ DGet H b (.str k) o ∧ R o := ⟨a, _, rfl, DGet.k (k := .inr k) e, h⟩
theorem r_gks {R : V → Prop} {a : Addr} {kvs : List (Key × V)} {k : Str} {v : V} (e : H a = some (.dK kvs)) (e2 : valV kvs (.inr k) = some v) (h : R v) : ∃ b v, V.ref a = .ref b ∧ DGet H b (.str k) (some v) ∧ R v := ⟨a, v, rfl, e2 ▸ DGet.k (k := .inr k) e, h⟩
theorem r_pks {R : Hp → Prop} {a : Addr} {kvs : List (Key × V)} {k : Str} {v : V} (e : H a = some (.dK kvs)) (hl : kvs.length < sizeLine) (h : R (upd H a (.dK (putK kvs (.inr k) v)))) : ∃ b H', V.ref a = .ref b ∧ DPut H b (.str k) v H' ∧ R H' := ⟨a, _, rfl, DPut.k (k := .inr k) e hl, h⟩
theorem r_lenl {R : Nat → Prop} {p : Addr} {xs : List V} (e : H p = some (.lst xs)) (h : R xs.length) : ∃ x n, [V.ref p] = [x] ∧ LenV K x H n ∧ R n := ⟨_, _, rfl, .inl ⟨xs, .inl (.inl e), rfl⟩, h⟩
theorem r_lent {R : Nat → Prop} {p : Addr} {xs : List V} (e : H p = some (.tup xs)) (h : R xs.length) : ∃ x n, [V.ref p] = [x] ∧ LenV K x H n ∧ R n := ⟨_, _, rfl, .inr ⟨xs, .inl (.inl e), rfl⟩, h⟩
theorem r_lenS {R : Nat → Prop} {y : Str} (e : y.length ≤ sizeLine) (h : R y.length) : ∃ x n, [V.str y] = [x] ∧ LenV K x H n ∧ R n := ⟨_, _, rfl, ⟨e, rfl⟩, h⟩
theorem r_m1 {r : V → List V → Hp → VK → Prop} (ha : ta σ H fun x H1 => (∃ a, x = .str a) ∧ tb σ H1 fun y H2 => r x [y] H2 Q) : tM1 r ta tb σ H Q := ha
theorem r_isS {R : Prop} {a : Str} (h : R) : (∃ b, V.str a = .str b) ∧ R := ⟨⟨a, rfl⟩, h⟩
theorem r_yes {Q : Bool → Hp → Prop} (h : Q true H) : tYes σ H Q := h
theorem r_yes2 {A B : Hp → Prop} (h : A H) : tYes σ H (fun b H3 => if b = true then A H3 else B H3) := by
  show (if true = true then A H else B H)
  rw [if_pos rfl]
  exact h
theorem r_ite {b : Bool} {A B : Prop} (h1 : b = true → A) (h2 : b = false → B) : if b = true then A else B := by
  cases b with
  | true => exact (if_pos rfl).mpr (h1 rfl)
  | false => exact (if_neg Bool.false_ne_true).mpr (h2 rfl)
theorem r_itT {b : Bool} {A B : Prop} (e : b = true) (h : A) : if b = true then A else B := by rw [if_pos e]; exact h
theorem r_itF {b : Bool} {A B : Prop} (e : b = false) (h : B) : if b = true then A else B := by rw [e]; exact (if_neg Bool.false_ne_true).mpr h
theorem r_ifT {A B : Prop} (h : A) : if true = true then A else B := r_itT rfl h
theorem r_ifF {A B : Prop} (h : B) : if false = true then A else B := r_itF rfl h
theorem r_ifnT {A B : Prop} (h : B) : if (!true) = true then A else B := r_itF rfl h
theorem r_ifnF {A B : Prop} (h : A) : if (!false) = true then A else B := r_itT rfl h
theorem r_isiS {z : Str} (q : Q (.bl true) H) : rIsi K [.str z, .ty "str"] H Q := r_isi (.base (.str z)) (by decide) q
theorem r_isiI {z : Int} (q : Q (.bl true) H) : rIsi K [.int z, .ty "int"] H Q := r_isi (.base (.int z)) (by decide) q
theorem r_isiBl {z : Bool} (q : Q (.bl true) H) : rIsi K [.bl z, .ty "bool"] H Q := r_isi (.base (.bl z)) (by decide) q
theorem r_isiB {z : Int} (q : Q (.bl false) H) : rIsi K [.int z, .ty "bool"] H Q := r_isi (.base (.int z)) (by decide) q
theorem r_eqI {a b : Int} (h : Q (.bl (decide (a = b))) H) : rEq (.int a) (.int b) H Q := ⟨rfl, by
  rw [show decide (V.int a = V.int b) = decide (a = b) from decide_eq_decide.mpr ⟨fun h => V.int.inj h, fun h => by rw [h]⟩]
  exact h⟩
theorem r_neI {a b : Int} (h : Q (.bl (!decide (a = b))) H) : rNe (.int a) (.int b) H Q := ⟨rfl, by
  rw [show decide (V.int a = V.int b) = decide (a = b) from decide_eq_decide.mpr ⟨fun h => V.int.inj h, fun h => by rw [h]⟩]
  exact h⟩
theorem r_eqS {a b : Str} (h : Q (.bl (decide (a = b))) H) : rEq (.str a) (.str b) H Q := ⟨rfl, by
  rw [show decide (V.str a = V.str b) = decide (a = b) from decide_eq_decide.mpr ⟨fun h => V.str.inj h, fun h => by rw [h]⟩]
  exact h⟩
theorem r_neS {a b : Str} (h : Q (.bl (!decide (a = b))) H) : rNe (.str a) (.str b) H Q := ⟨rfl, by
  rw [show decide (V.str a = V.str b) = decide (a = b) from decide_eq_decide.mpr ⟨fun h => V.str.inj h, fun h => by rw [h]⟩]
  exact h⟩
theorem r_isT {b : Bool} (h : Q (.bl b) H) : rIsB (.bl b) (.bl true) H Q := ⟨b, true, rfl, rfl, by cases b <;> exact h⟩
theorem r_isF {b : Bool} (h : Q (.bl (!b)) H) : rIsB (.bl b) (.bl false) H Q := ⟨b, false, rfl, rfl, by cases b <;> exact h⟩
theorem r_ntT {b : Bool} (h : Q (.bl (!b)) H) : rNotB (.bl b) (.bl true) H Q := ⟨b, true, rfl, rfl, by cases b <;> exact h⟩
theorem r_ntF {b : Bool} (h : Q (.bl b) H) : rNotB (.bl b) (.bl false) H Q := ⟨b, false, rfl, rfl, by cases b <;> exact h⟩
/-! loops -/
def ForL (J : It) (g : TG) (tb : TS) (nx : L2.St → Hp → Prop) (rt : VK) (σ : L2.St) (H : Hp) : Prop := ∃ W : Nat → Nat → L2.St → Hp → Prop, (∃ m, W 0 m σ H) ∧ ∀ i m σ H, W i m σ H →
  (J.stop i H ∧ nx σ H) ∨ (J.go i H ∧ ∃ N : L2.St → Hp → Prop, (∀ σ' H', N σ' H' → ∃ m', m' < m ∧ W (i + 1) m' σ' H') ∧ ∀ x H', J.yld i H x H' → g x σ H' fun σ2 H2 => tb ⟨N, rt, nx, N⟩ σ2 H2)
theorem r_for {wi : TI} {tb : TS} (h : wi σ H fun J H1 => ForL J g tb nx rt σ H1) : tFor wi g tb ⟨nx, rt, bk, ct⟩ σ H := h
theorem r_rng1 {R : It → Hp → Prop} (h : tl σ H fun vs H1 => ∃ j : Int, vs = [.int j] ∧ -(2 ^ 62) ≤ j ∧ j < 2 ^ 62 ∧ R (Itr 0 j.toNat) H1) : iRng1 tl σ H R := h
theorem r_rngv {R : Int → Prop} {n : Int} (h0 : -1000000 ≤ n) (h1 : n ≤ 1000000) (h : R n) : ∃ j : Int, [V.int n] = [.int j] ∧ -(2 ^ 62) ≤ j ∧ j < 2 ^ 62 ∧ R j := ⟨n, rfl, by omega, by omega, h⟩
theorem r_rng2 {R : It → Hp → Prop} (h : tl σ H fun vs H1 => ∃ i j : Int, vs = [.int i, .int j] ∧ (-(2 ^ 62) ≤ i ∧ i < 2 ^ 62 ∧ -(2 ^ 62) ≤ j ∧ j < 2 ^ 62) ∧ R (Itr i (j - i).toNat) H1) : iRng2 tl σ H R := h
theorem r_rngw {R : Int → Int → Prop} {n m : Int} (h0 : -1000000 ≤ n) (h1 : n ≤ 1000000) (h2 : -1000000 ≤ m) (h3 : m ≤ 1000000) (h : R n m) : ∃ i j : Int, [V.int n, V.int m] = [.int i, .int j] ∧ (-(2 ^ 62) ≤ i ∧ i < 2 ^ 62 ∧ -(2 ^ 62) ≤ j ∧ j < 2 ^ 62) ∧ R i j := ⟨n, m, rfl, by omega, h⟩
theorem r_rng3 {R : It → Hp → Prop} (h : tl σ H fun vs H1 => ∃ (i j c : Int) (n : Nat), vs = [.int i, .int j, .int c] ∧ RgC i j c n ∧ R (Itc i c n) H1) : iRng3 tl σ H R := h
theorem L_range {lo : Int} {n : Nat} {tb : TS} (Pv : Nat → L2.St → Hp → Prop) (h0 : Pv 0 σ H)
    (hs : ∀ i σ H, i < n → Pv i σ H → g (.int (lo + i)) σ H fun σ2 H2 => tb ⟨Pv (i + 1), rt, nx, Pv (i + 1)⟩ σ2 H2) (hd : ∀ σ H, Pv n σ H → nx σ H) : ForL (Itr lo n) g tb nx rt σ H :=
  for_range (D := ⟨nx, rt, nx, nx⟩) Pv h0 hs hd
theorem L_list {a : Addr} {xs : List V} {tb : TS} (Pv : Nat → L2.St → Hp → Prop) (h0 : Pv 0 σ H) (hl : ∀ i σ H, i ≤ xs.length → Pv i σ H → SqL K H a xs)
    (hs : ∀ i x σ H, xs[i]? = some x → Pv i σ H → g x σ H fun σ2 H2 => tb ⟨Pv (i + 1), rt, nx, Pv (i + 1)⟩ σ2 H2) (hd : ∀ σ H, Pv xs.length σ H → nx σ H) : ForL (Itl K a) g tb nx rt σ H :=
  for_list (D := ⟨nx, rt, nx, nx⟩) Pv h0 hl hs hd
theorem r_ilst {R : It → Hp → Prop} (h : te σ H fun x H1 => ∃ a, x = .ref a ∧ (∃ xs, SqL K H1 a xs) ∧ R (Itl K a) H1) : iList K te σ H R := h
theorem r_ilv {R : Addr → Prop} {a : Addr} {xs : List V} (hs : SqL K H a xs) (h : R a) : ∃ b, V.ref a = .ref b ∧ (∃ xs, SqL K H b xs) ∧ R b := ⟨a, rfl, ⟨xs, hs⟩, h⟩
theorem r_ilw {R : Addr → Prop} {a : Addr} {xs : List V} (hs : H a = some (.lst xs)) (h : R a) : ∃ b, V.ref a = .ref b ∧ (∃ xs, SqL K H b xs) ∧ R b := ⟨a, rfl, ⟨xs, .inl (.inl hs)⟩, h⟩
theorem r_ienum {R : It → Hp → Prop} (h : tl σ H fun vs H1 => ∃ a xs, vs = [.ref a] ∧ SqL K H1 a xs ∧ R (Ite K a) H1) : iEnum K tl σ H R := h
theorem r_irev {R : It → Hp → Prop} (h : tl σ H fun vs H1 => ∃ (a : Addr) (xs : List V), vs = [.ref a] ∧ SqL K H1 a xs ∧ R (Itv K a xs.length) H1) : iRev K tl σ H R := h
theorem r_itup {R : It → Hp → Prop} (h : te σ H fun x H1 => ∃ a, x = .ref a ∧ (∃ xs, SqT K H1 a xs) ∧ R (Itt K a) H1) : iTup K te σ H R := h
theorem r_ikeys {R : It → Hp → Prop} (h : te σ H fun x H1 => ∃ d o, x = .ref d ∧ ((∃ kvs, H1 d = some (.frz o (.dK kvs)) ∧ R (Itk d o kvs) H1) ∨ ∃ kvs, H1 d = some (.frz o (.dT kvs)) ∧ R (Itkt d o kvs) H1)) : iKeys te σ H R := h
theorem r_izip {R : It → Hp → Prop} (h : tl σ H fun vs H1 => ∃ a b xs ys, vs = [.ref a, .ref b] ∧ SqL K H1 a xs ∧ SqL K H1 b ys ∧ R (Itz K a b) H1) : iZip K tl σ H R := h
theorem r_istr {R : It → Hp → Prop} (h : te σ H fun v H1 => ∃ x, v = .str x ∧ R (Its x) H1) : iStr te σ H R := h
/-! while -/
def Wh (W : Nat → L2.St → Hp → Prop) (m : Nat) (tb : TS) (nx : L2.St → Hp → Prop) (rt : VK) (σ : L2.St) (H : Hp) : Prop :=
  ∃ N : L2.St → Hp → Prop, (∀ σ' H', N σ' H' → ∃ m', m' < m ∧ W m' σ' H') ∧ tb ⟨N, rt, nx, N⟩ σ H
theorem r_while {tb : TS} (W : Nat → L2.St → Hp → Prop) (m0 : Nat) (h0 : W m0 σ H) (hs : ∀ m σ H, W m σ H → tc σ H fun b H1 => if b = true then Wh W m tb nx rt σ H1 else nx σ H1) : tWhile tc tb ⟨nx, rt, bk, ct⟩ σ H :=
  ⟨W, ⟨m0, h0⟩, hs⟩
theorem r_wh {tb : TS} {W : Nat → L2.St → Hp → Prop} {m : Nat} (h : tb ⟨fun σ' H' => ∃ m', m' < m ∧ W m' σ' H', rt, nx, fun σ' H' => ∃ m', m' < m ∧ W m' σ' H'⟩ σ H) : Wh W m tb nx rt σ H := ⟨_, fun _ _ h => h, h⟩
/-! comprehensions -/
def LcL (J : It) (g : TG) (tt : TT) (te : TE) (vs : List Nat) (σ : L2.St) (H1 : Hp) (Q : VK) : Prop := ∀ D, H1 D = none → ∃ W : Nat → Nat → Hp → Prop, (∃ m, W 0 m (upd H1 D (.lst []))) ∧ ∀ i m H, W i m H →
  (J.stop i H ∧ Q (.ref D) H) ∨ (J.go i H ∧ ∃ Nx : Hp → Prop, (∀ H', Nx H' → ∃ m', m' < m ∧ W (i + 1) m' H') ∧ ∀ x H', J.yld i H x H' → g x (wipe σ vs) H' fun σ2 H2 => wipe σ2 vs = wipe σ vs ∧ tt σ2 H2 fun b H3 =>
    if b = true then te σ2 H3 fun y H4 => ∃ acc, H4 D = some (.lst acc) ∧ acc.length < sizeLine ∧ Nx (upd H4 D (.lst (acc ++ [y]))) else Nx H3)
theorem r_lc {wi : TI} {vs : List Nat} (h : wi σ H fun J H1 => LcL J g tt te vs σ H1 Q) : tLc wi g tt te vs σ H Q := h
theorem C_range {lo : Int} {n : Nat} {vs : List Nat} (Pv : Addr → Nat → Hp → Prop) (h0 : ∀ D, H D = none → Pv D 0 (upd H D (.lst [])))
    (hs : ∀ D i H', i < n → Pv D i H' → g (.int (lo + i)) (wipe σ vs) H' fun σ2 H2 => wipe σ2 vs = wipe σ vs ∧ tt σ2 H2 fun b H3 =>
      if b = true then te σ2 H3 fun y H4 => ∃ acc, H4 D = some (.lst acc) ∧ acc.length < sizeLine ∧ Pv D (i + 1) (upd H4 D (.lst (acc ++ [y]))) else Pv D (i + 1) H3) (hd : ∀ D H', H D = none → Pv D n H' → Q (.ref D) H') : LcL (Itr lo n) g tt te vs σ H Q :=
  fun D hD => lc_range (Pv D) (h0 D hD) (hs D) (fun H' => hd D H' hD)
theorem C_list {a : Addr} {xs : List V} {vs : List Nat} (Pv : Addr → Nat → Hp → Prop) (h0 : ∀ D, H D = none → Pv D 0 (upd H D (.lst []))) (hl : ∀ D i H, i ≤ xs.length → Pv D i H → SqL K H a xs)
    (hs : ∀ D i x H', xs[i]? = some x → Pv D i H' → g x (wipe σ vs) H' fun σ2 H2 => wipe σ2 vs = wipe σ vs ∧ tt σ2 H2 fun b H3 =>
      if b = true then te σ2 H3 fun y H4 => ∃ acc, H4 D = some (.lst acc) ∧ acc.length < sizeLine ∧ Pv D (i + 1) (upd H4 D (.lst (acc ++ [y]))) else Pv D (i + 1) H3) (hd : ∀ D H', H D = none → Pv D xs.length H' → Q (.ref D) H') : LcL (Itl K a) g tt te vs σ H Q :=
  fun D hD => lc_list (K := K) (a := a) (xs := xs) (Pv D) (h0 D hD) (hl D) (hs D) (fun H' => hd D H' hD)
/-- a for, a comprehension over what is walked as w says -/
theorem L_it {J : It} {n : Nat} {Gd : Hp → Prop} {Y : Nat → Hp → V → Hp → Prop} (w : L2.Walk J n Gd Y) {tb : TS} (Pv : Nat → L2.St → Hp → Prop) (h0 : Pv 0 σ H) (hG : ∀ i σ H, i ≤ n → Pv i σ H → Gd H)
    (hs : ∀ i x σ H H', i < n → Pv i σ H → Y i H x H' → g x σ H' fun σ2 H2 => tb ⟨Pv (i + 1), rt, nx, Pv (i + 1)⟩ σ2 H2) (hd : ∀ σ H, Pv n σ H → nx σ H) : ForL J g tb nx rt σ H :=
  for_it w (D := ⟨nx, rt, nx, nx⟩) Pv h0 hG hs hd
theorem C_it {J : It} {n : Nat} {Gd : Hp → Prop} {Y : Nat → Hp → V → Hp → Prop} (w : L2.Walk J n Gd Y) {vs : List Nat} (Pv : Addr → Nat → Hp → Prop) (h0 : ∀ D, H D = none → Pv D 0 (upd H D (.lst []))) (hG : ∀ D i H, i ≤ n → Pv D i H → Gd H)
    (hs : ∀ D i x H1 H', i < n → Pv D i H1 → Y i H1 x H' → g x (wipe σ vs) H' fun σ2 H2 => wipe σ2 vs = wipe σ vs ∧ tt σ2 H2 fun b H3 =>
      if b = true then te σ2 H3 fun y H4 => ∃ acc, H4 D = some (.lst acc) ∧ acc.length < sizeLine ∧ Pv D (i + 1) (upd H4 D (.lst (acc ++ [y]))) else Pv D (i + 1) H3) (hd : ∀ D H', H D = none → Pv D n H' → Q (.ref D) H') : LcL J g tt te vs σ H Q :=
  fun D hD => lc_it w (Pv D) (h0 D hD) (hG D) (hs D) (fun H' => hd D H' hD)
theorem r_wip {vs : List Nat} {σ2 : L2.St} {B : Prop} (e : wipe σ2 vs = wipe σ vs) (h : B) : wipe σ2 vs = wipe σ vs ∧ B := ⟨e, h⟩
theorem r_d {c A B : Prop} [Decidable c] (h1 : c → A) (h2 : ¬ c → B) : if decide c = true then A else B := r_ite (fun h => h1 (of_decide_eq_true h)) (fun h => h2 (of_decide_eq_false h))
theorem r_nd {c A B : Prop} [Decidable c] (h1 : ¬ c → A) (h2 : c → B) : if (!decide c) = true then A else B := r_ite (fun h => h1 (of_decide_eq_false (by simpa using h))) (fun h => h2 (of_decide_eq_true (by simpa using h)))
theorem mulL {a b : Int} (h1 : -(2 ^ 64) < a) (h2 : a < 2 ^ 64) : CMul a b := .inl ⟨h1, h2⟩
theorem mulR {a b : Int} (h1 : -(2 ^ 64) < b) (h2 : b < 2 ^ 64) : CMul a b := .inr ⟨h1, h2⟩
theorem powS {a b : Int} (h0 : 0 ≤ b) (h1 : b ≤ 1000000) (h2 : a.natAbs < 2 ^ 64) : CPow a b := ⟨h0, h1, h2⟩
theorem divS {a b : Int} (h0 : 0 < b) (h1 : b.natAbs < 2 ^ 220) : CDivW a b := wide_div h0 h1 (by decide) (by decide)
end
theorem dint' {a b : Int} : decide (V.int a = V.int b) = decide (a = b) := decide_eq_decide.mpr ⟨fun h => V.int.inj h, fun h => by rw [h]⟩
theorem dec_s {a b : Str} : decide (a = b) = (a == b) := by by_cases h : a = b <;> simp [h]
theorem bits250 {a : Int} (h1 : -(2 ^ 250) < a) (h2 : a < 2 ^ 250) : a.natAbs < 2 ^ 250 := by
  have e : (2 : Int) ^ 250 = ((2 ^ 250 : Nat) : Int) := by decide +kernel
  rw [e] at h1 h2
  generalize (2 : Nat) ^ 250 = z at h1 h2 ⊢
  omega
theorem mulWW {a b : Int} (h1 : -1809251394333065553493296640760748560207343510400633813116524750123642650624 < a) (h2 : a < 1809251394333065553493296640760748560207343510400633813116524750123642650624) (h3 : -1809251394333065553493296640760748560207343510400633813116524750123642650624 < b) (h4 : b < 1809251394333065553493296640760748560207343510400633813116524750123642650624) : CMulW a b :=
  wide_mul (a := 250) (b := 250) (bits250 h1 h2) (bits250 h3 h4) (by decide) (by decide) (by decide)
/-- a power of a number of at most 250 bits -/
def CPowW (i j : Int) : Prop := 0 ≤ j ∧ j ≤ 1000 ∧ i.natAbs < 2 ^ 250
theorem op_powW {X : Cx} : OpR X (binaryOp .Pow) (rI CPowW fun i j => .int (i ^ j.toNat)) := opI fun i j _ _ _ _ _ hc q => by
  obtain ⟨h1, h2, h3⟩ := hc
  refine PyProof.Rows.pow_int h1 ?_ q
  have b := PyProof.Rows.intBits_le h3
  have m : (Builtin.Int.intBits i : Int) * j ≤ 250 * j := Int.mul_le_mul_of_nonneg_right (by omega) h1
  omega
theorem powWW {a b : Int} (h0 : 0 ≤ b) (h9 : b ≤ 1000) (h1 : -1809251394333065553493296640760748560207343510400633813116524750123642650624 < a) (h2 : a < 1809251394333065553493296640760748560207343510400633813116524750123642650624) : CPowW a b := ⟨h0, h9, bits250 h1 h2⟩
theorem hu65_of {A : Around} {k : Nat} (hr : Room k A) : A.units + 65 < cLine := by
  have := hr.un
  omega
theorem sz {n : Nat} (h : n ≤ 100000) : n ≤ sizeLine := Nat.le_trans h (by decide)
theorem szl {n : Nat} (h : n < 100000) : n < sizeLine := Nat.lt_of_lt_of_le h (by decide)
/-! ### heaps -/
/-- all that was tracked but at p is as it was -/
def But (p : Addr) (H H' : Hp) : Prop := ∀ b o, H b = some o → b ≠ p → H' b = some o
theorem But.refl {p : Addr} {H : Hp} : But p H H := fun _ _ h _ => h
theorem But.trans {p : Addr} {H H1 H2 : Hp} (a : But p H H1) (b : But p H1 H2) : But p H H2 := fun c o h n => b c o (a c o h n) n
theorem But.of {p : Addr} {H H' : Hp} (s : Same H H') : But p H H' := fun b o h _ => s b o h
theorem But.upd {p : Addr} {H : Hp} {o : HO} : But p H (upd H p o) := fun b u h n => by rw [upd_ne n]; exact h
theorem But.upd' {p q : Addr} {H H' : Hp} {o : HO} (h : But p H H') (n : H q = none) : But p H (L2.upd H' q o) := fun b u e k => by
  rw [upd_ne (ne_of_none e n)]
  exact h b u e k
theorem But.back1 {p : Addr} {H H' : Hp} {u : HO} (h : But p H H') (e : H p = some u) : Same H (L2.upd H' p u) := fun b o eb => by
  by_cases z : b = p
  · rw [z] at eb ⊢
    rw [L2.upd_same, ← eb, e]
  · rw [upd_ne z]
    exact h b o eb z
theorem atI_last {xs : List V} {v : V} : atI (xs ++ [v]) (-1) = some v := by
  have l : (xs ++ [v]).length = xs.length + 1 := by simp
  unfold atI ixN
  rw [l, if_neg (by decide), if_pos (by omega)]
  show (xs ++ [v])[((-1 : Int) + ((xs.length + 1 : Nat) : Int)).toNat]? = some v
  have : ((-1 : Int) + ((xs.length + 1 : Nat) : Int)).toNat = xs.length := by omega
  rw [this, List.getElem?_append_right (Nat.le_refl _), Nat.sub_self]
  rfl
theorem But.free {p q : Addr} {H H' : Hp} (b : But p H H') (hq : H' q = none) (hp' : H' p ≠ none) : H q = none := by
  cases e : H q with
  | none => rfl
  | some u =>
    by_cases z : q = p
    · rw [z] at hq
      exact absurd hq hp'
    · rw [b q u e z] at hq
      cases hq
theorem same_new {H : Hp} {p : Addr} {o : HO} (h : H p = none) : Same H (upd H p o) := fun b x e => by
  rw [upd_ne (ne_of_none e h)]
  exact e
theorem Same.upd' {q : Addr} {H H' : Hp} {o : HO} (h : Same H H') (n : H q = none) : Same H (L2.upd H' q o) := fun b u e => by
  rw [upd_ne (ne_of_none e n)]
  exact h b u e
/-- what is new since H may be changed -/
theorem Same.own {q : Addr} {H H' : Hp} {o : HO} (h : Same H H') (n : H q = none) : Same H (L2.upd H' q o) := Same.upd' h n
theorem ne_at {H : Hp} {a b : Addr} {o u : HO} (h : H a = some o) (h' : H b = some u) (n : o ≠ u) : a ≠ b := by
  intro e
  subst e
  rw [h] at h'
  exact n (Option.some.inj h')
theorem Same.free' {H H' : Hp} {q : Addr} (h : Same H H') (n : H' q = none) : H q = none := h.free n
theorem But.back {p : Addr} {H H1 H2 : Hp} (s : Same H H1) (n : H p = none) (b : But p H1 H2) : Same H H2 := fun c o e => b c o (s c o e) (ne_of_none e n)
/-- the bag: three whole numbers; the second one stays below 2 ^ 62, the third one counts -/
def BagAt (H : Hp) (p : Addr) (n : Nat) : Prop := ∃ a b c : Int, H p = some (.lst [.int a, .int b, .int c]) ∧ 0 ≤ b ∧ b < 4611686018427387904 ∧ 0 ≤ c ∧ c ≤ n
theorem BagAt.mono {H : Hp} {p : Addr} {n m : Nat} (h : BagAt H p n) (l : n ≤ m) : BagAt H p m := by
  obtain ⟨a, b, c, e, h1, h2, h3, h4⟩ := h
  exact ⟨a, b, c, e, h1, h2, h3, by omega⟩
theorem BagAt.there {H : Hp} {p : Addr} {n : Nat} (h : BagAt H p n) : H p ≠ none := by
  obtain ⟨a, b, c, e, _⟩ := h
  rw [e]
  simp
theorem BagAt.same {H H' : Hp} {p : Addr} {n : Nat} (h : BagAt H p n) (s : Same H H') : BagAt H' p n := by
  obtain ⟨a, b, c, e, r⟩ := h
  exact ⟨a, b, c, s _ _ e, r⟩
theorem BagAt.upd {H : Hp} {p q : Addr} {n : Nat} {o : HO} (h : BagAt H p n) (hq : H q = none) : BagAt (upd H q o) p n := h.same (same_new hq)
/-- what stood at another address is the bag no more -/
theorem BagAt.ne {H : Hp} {p q : Addr} {n : Nat} (h : BagAt H p n) {xs : List V} (e : H q = some (.tup xs)) : q ≠ p := by
  intro z
  subst z
  obtain ⟨a, b, c, e', _⟩ := h
  rw [e] at e'
  cases e'
end G
local macro_rules | `(tactic| walk_at "r1") => `(tactic| first
  | with_reducible refine G.r_seq ?_ | with_reducible refine G.r_asg ?_ | ((with_reducible refine' G.r_name ?r_h ?_); (case r_h => (simp only [List.map_cons, List.map_nil, L2.wipe, List.set_cons_zero, List.set_cons_succ]; exact rfl))) | with_reducible refine G.r_ret ?_ | with_reducible refine G.r_if ?_
  | ((with_reducible refine' G.r_var ?r_h ?_); (case r_h => rfl)) | with_reducible refine G.r_c ?_ | with_reducible refine G.r_op ?_ | with_reducible refine G.r_i0 ?_
  | with_reducible refine G.r_cons ?_ | with_reducible refine G.r_nil ?_ | with_reducible refine G.r_cal ?_ | with_reducible refine G.r_calS ?_ | with_reducible refine G.r_raise ?_ | with_reducible refine G.r_try1 ?_ | with_reducible refine G.r_cb ?_ | with_reducible refine G.r_cbk ?_ | with_reducible refine G.r_chain ?_ | with_reducible refine G.r_meth ?_ | with_reducible refine G.r_methS ?_ | with_reducible refine G.r_make ?_ | with_reducible refine G.r_fld ?_ | with_reducible refine G.r_sfld ?_ | with_reducible refine G.r_test ?_ | with_reducible refine G.r_tB ?_
  | with_reducible refine G.r_bl ?_ | with_reducible refine G.r_next ?_ | with_reducible refine G.r_isT ?_ | with_reducible refine G.r_isF ?_ | with_reducible refine G.r_ntT ?_ | with_reducible refine G.r_ntF ?_ | with_reducible refine G.r_eqI ?_ | with_reducible refine G.r_neI ?_ | with_reducible refine G.r_eqS ?_ | with_reducible refine G.r_neS ?_ | ((with_reducible refine' G.r_eq ?r_h ?_); (case r_h => rfl)) | ((with_reducible refine' G.r_ne ?r_h ?_); (case r_h => rfl))
  | with_reducible refine G.r_u ?_ | with_reducible refine G.r_un ?_ | with_reducible refine G.r_and ?_ | with_reducible refine G.r_or ?_ | with_reducible refine G.r_not ?_ | with_reducible refine G.r_andV ?_ | with_reducible refine G.r_orV ?_
  | with_reducible refine G.r_ifT ?_ | with_reducible refine G.r_ifF ?_ | with_reducible refine G.r_ifnT ?_ | with_reducible refine G.r_ifnF ?_ | with_reducible refine G.r_isiS ?_ | with_reducible refine G.r_isiI ?_ | with_reducible refine G.r_isiB ?_ | with_reducible refine G.r_isiBl ?_
  | with_reducible refine G.r_notV ?_ | with_reducible refine G.r_ifE ?_ | with_reducible refine G.r_tup ?_ | with_reducible refine G.r_lst ?_ | with_reducible refine G.r_drop ?_ | with_reducible refine G.r_retN ?_
  | with_reducible refine G.r_brk ?_ | with_reducible refine G.r_cont ?_ | with_reducible refine G.r_sub ?_ | with_reducible refine G.r_gcons ?_ | with_reducible refine G.r_gnil ?_ | with_reducible refine G.r_bm ?_ | with_reducible refine G.r_m1 ?_ | with_reducible refine G.r_isS ?_ | with_reducible refine G.r_bm0 ?_
  | with_reducible refine G.r_slc ?_ | with_reducible refine G.r_nop ?_ | with_reducible refine G.r_part ?_ | with_reducible refine G.r_int ?_ | with_reducible refine G.r_yes2 ?_ | with_reducible refine G.r_revL ?_ | with_reducible refine G.r_dget ?_ | with_reducible refine G.r_din ?_ | with_reducible refine G.r_dnin ?_ | with_reducible refine G.r_dput ?_ | with_reducible refine G.r_dg1 ?_ | with_reducible refine G.r_dg2 ?_ | with_reducible refine G.r_dp1 ?_ | with_reducible refine G.r_daug ?_ | with_reducible refine G.r_yes ?_
  | with_reducible refine G.r_for ?_ | with_reducible refine G.r_rng1 ?_ | with_reducible refine G.r_rng2 ?_ | with_reducible refine G.r_rng3 ?_ | with_reducible refine G.r_ilst ?_ | with_reducible refine G.r_ienum ?_ | with_reducible refine G.r_irev ?_ | with_reducible refine G.r_itup ?_ | with_reducible refine G.r_ikeys ?_ | with_reducible refine G.r_istr ?_ | with_reducible refine G.r_izip ?_ | with_reducible refine G.r_lc ?_ | with_reducible refine G.r_wh ?_ | with_reducible refine G.r_pcons ?_ | with_reducible refine G.r_pnil ?_
  | ((with_reducible refine' G.r_rngv ?r_h ?r_e ?_); (case r_h => omega); (case r_e => omega))
  | ((with_reducible refine' G.r_wip ?r_h ?_); (case r_h => rfl))
  | ((with_reducible refine' G.r_ixl ?r_h ?r_e ?_); (case r_h => assumption); (case r_e => rfl))
  | ((with_reducible refine' G.r_ixt ?r_h ?r_e ?_); (case r_h => assumption); (case r_e => rfl))
  | ((with_reducible refine' G.r_gtup ?r_h ?r_e ?_); (case r_h => assumption); (case r_e => rfl))
  | ((with_reducible refine' G.r_i ?r_h ?_); (case r_h => first
      | (with_reducible exact G.mulL (by omega) (by omega)) | (with_reducible exact G.mulR (by omega) (by omega)) | (with_reducible exact G.mulR (by decide) (by decide)) | (with_reducible exact G.mulL (by decide) (by decide)) | (with_reducible exact G.powS (by omega) (by omega) (by omega)) | (with_reducible exact G.mulWW (by omega) (by omega) (by omega) (by omega)) | (with_reducible exact G.powWW (by omega) (by omega) (by omega) (by omega)) | (with_reducible exact G.divS (by omega) (by omega)) | (with_reducible exact G.divS (by assumption) (by assumption)) | (with_reducible assumption) | (show (0 : Int) < _; omega))))
local macro_rules | `(tactic| walk_at "rr") => `(tactic| repeat (walk_at "r1"))

namespace G
open PySem L2
/-! ### what kind of thing a value is -/
def kinds7 : List String := ["NoneType", "bool", "int", "str", "list", "tuple", "dict"]
theorem kit_tuple : ∀ T ∈ kinds7, kitB T "tuple" = some (T == "tuple") := by decide +kernel
theorem kit_list : ∀ T ∈ kinds7, kitB T "list" = some (T == "list") := by decide +kernel
theorem kit_str : ∀ T ∈ kinds7, kitB T "str" = some (T == "str") := by decide +kernel
theorem kit_bool : ∀ T ∈ kinds7, kitB T "bool" = some (T == "bool") := by decide +kernel
theorem kit_int : ∀ T ∈ kinds7, kitB T "int" = some (T == "int" || T == "bool") := by decide +kernel
theorem whole_of : ∀ T ∈ kinds7, ((T == "int" || T == "bool") && !(T == "bool")) = (T == "int") := by decide +kernel
section
variable {K : PySem.W.Frag} {H H' : Hp} {v : V} {t : Value}
theorem ty_tup {a : Addr} {xs : List V} (h : H a = some (.tup xs)) : TyX K H (.ref a) (.type "tuple") := .base (.tup h)
theorem ty_lst {a : Addr} {xs : List V} (h : H a = some (.lst xs)) : TyX K H (.ref a) (.type "list") := .base (.lst h)
theorem ty_dK {a : Addr} {xs : List (Key × V)} (h : H a = some (.dK xs)) : TyX K H (.ref a) (.type "dict") := .base (.dK h)
theorem ty_int {i : Int} : TyX K H (.int i) (.type "int") := .base (.int i)
theorem ty_str {i : Str} : TyX K H (.str i) (.type "str") := .base (.str i)
theorem ty_bl {i : Bool} : TyX K H (.bl i) (.type "bool") := .base (.bl i)
theorem ty_non : TyX K H .non (.type "NoneType") := .base .non
theorem TyOf.same (s : Same H H') (h : TyOf K H v t) : TyOf K H' v t := by
  cases h with
  | non => exact .non
  | bl x => exact .bl x
  | int x => exact .int x
  | str x => exact .str x
  | flt x => exact .flt x
  | lst e => exact .lst (s _ _ e)
  | frz e => exact .frz (s _ _ e)
  | tup e => exact .tup (s _ _ e)
  | dK e => exact .dK (s _ _ e)
  | dT e => exact .dT (s _ _ e)
  | ins e a b c d f => exact .ins (s _ _ e) a b c d f
theorem TyX.same (s : Same H H') (h : TyX K H v t) : TyX K H' v t := by
  cases h with
  | base h => exact .base (TyOf.same s h)
  | byt b => exact .byt b
  | set e => exact .set (s _ _ e)
  | kList e c => exact .kList e c
  | kTuple e c => exact .kTuple e c
  | kDict e c => exact .kDict e c
  | fTuple e => exact .fTuple (s _ _ e)
  | fDict e => exact .fDict (s _ _ e)
end
/-- v is something of one of the seven kinds -/
def Some7 (K : PySem.W.Frag) (H : Hp) (v : V) : Prop := ∃ T, TyX K H v (.type T) ∧ T ∈ kinds7
theorem Some7.same {K : PySem.W.Frag} {H H' : Hp} {v : V} (s : Same H H') (h : Some7 K H v) : Some7 K H' v := by
  obtain ⟨T, a, b⟩ := h
  exact ⟨T, TyX.same s a, b⟩
theorem any_non {K : PySem.W.Frag} {H : Hp} : Some7 K H .non := ⟨_, ty_non, by decide⟩
theorem any_bl {K : PySem.W.Frag} {H : Hp} {b : Bool} : Some7 K H (.bl b) := ⟨_, ty_bl, by decide⟩
theorem any_int {K : PySem.W.Frag} {H : Hp} {b : Int} : Some7 K H (.int b) := ⟨_, ty_int, by decide⟩
theorem any_str {K : PySem.W.Frag} {H : Hp} {b : Str} : Some7 K H (.str b) := ⟨_, ty_str, by decide⟩
theorem any_tup {K : PySem.W.Frag} {H : Hp} {a : Addr} {xs : List V} (h : H a = some (.tup xs)) : Some7 K H (.ref a) := ⟨_, ty_tup h, by decide⟩
theorem any_lst {K : PySem.W.Frag} {H : Hp} {a : Addr} {xs : List V} (h : H a = some (.lst xs)) : Some7 K H (.ref a) := ⟨_, ty_lst h, by decide⟩
theorem any_dK {K : PySem.W.Frag} {H : Hp} {a : Addr} {xs : List (Key × V)} (h : H a = some (.dK xs)) : Some7 K H (.ref a) := ⟨_, ty_dK h, by decide⟩
/-- a worth by its word and number -/
def isW (s : Str) (n : Int) : Bool := s == "num" || ((s == "at" || s == "box" || s == "go") && decide (0 ≤ n))
/-- v is a thing, and b says whether it is a worth -/
inductive Th (K : PySem.W.Frag) (H : Hp) : V → Bool → Prop
  | other {v : V} {T : String} (h : TyX K H v (.type T)) (m : T ∈ kinds7) (n : (T == "tuple") = false) : Th K H v false
  | tupN {a : Addr} {xs : List V} (h : H a = some (.tup xs)) (n : xs.length ≠ 2) : Th K H (.ref a) false
  | tupX {a : Addr} {x y : V} {T : String} (h : H a = some (.tup [x, y])) (hx : TyX K H x (.type T)) (m : T ∈ kinds7) (n : (T == "str") = false) : Th K H (.ref a) false
  | tupY {a : Addr} {s : Str} {y : V} {T : String} (h : H a = some (.tup [.str s, y])) (hy : TyX K H y (.type T)) (m : T ∈ kinds7) (n : (T == "int") = false) : Th K H (.ref a) false
  | tupW {a : Addr} {s : Str} {n : Int} (h : H a = some (.tup [.str s, .int n])) : Th K H (.ref a) (isW s n)
/-- only a whole number is of the kind int -/
theorem ty_is_int' {K : PySem.W.Frag} {H : Hp} {v : V} {t : Value} (h : TyX K H v t) (e : t = .type "int") : ∃ n, v = .int n := by
  cases h with
  | base h =>
    cases h with
    | int i => exact ⟨i, rfl⟩
    | _ => first | (cases e; done) | (injection e with e; exact absurd e (by decide))
  | _ => first | (cases e; done) | (injection e with e; exact absurd e (by decide))
theorem ty_is_str' {K : PySem.W.Frag} {H : Hp} {v : V} {t : Value} (h : TyX K H v t) (e : t = .type "str") : ∃ n, v = .str n := by
  cases h with
  | base h =>
    cases h with
    | str i => exact ⟨i, rfl⟩
    | _ => first | (cases e; done) | (injection e with e; exact absurd e (by decide))
  | _ => first | (cases e; done) | (injection e with e; exact absurd e (by decide))
theorem ty_is_int {K : PySem.W.Frag} {H : Hp} {v : V} (h : TyX K H v (.type "int")) : ∃ n, v = .int n := ty_is_int' h rfl
theorem ty_is_str {K : PySem.W.Frag} {H : Hp} {v : V} (h : TyX K H v (.type "str")) : ∃ n, v = .str n := ty_is_str' h rfl
/-- any tuple of two, of any kinds, is a thing -/
theorem Th.pair {K : PySem.W.Frag} {H : Hp} {a : Addr} {x y : V} (h : H a = some (.tup [x, y])) (hx : Some7 K H x) (hy : Some7 K H y) : ∃ b, Th K H (.ref a) b := by
  obtain ⟨T, tx, mx⟩ := hx
  obtain ⟨U, tu, mu⟩ := hy
  cases e : T == "str" with
  | false => exact ⟨_, .tupX h tx mx e⟩
  | true =>
    have e' := eq_of_beq e
    subst e'
    obtain ⟨s, rfl⟩ := ty_is_str tx
    cases e2 : U == "int" with
    | false => exact ⟨_, .tupY h tu mu e2⟩
    | true =>
      have e' := eq_of_beq e2
      subst e'
      obtain ⟨n, rfl⟩ := ty_is_int tu
      exact ⟨_, .tupW h⟩
theorem atI_there {α : Type} {xs : List α} {i : Int} (h0 : 0 ≤ i) (h1 : i < xs.length) : ∃ c, atI xs i = some c := by
  obtain ⟨j, rfl⟩ : ∃ j : Nat, i = (j : Int) := ⟨i.toNat, by omega⟩
  have hj : j < xs.length := by omega
  exact ⟨xs[j], atI_nat (List.getElem?_eq_getElem hj)⟩
theorem r_ixS' {H : Hp} {Q : VK} {z : Str} {i : Int} (hz : z.length ≤ sizeLine) (h0 : 0 ≤ i) (h1 : i < z.length) (h : ∀ c, Q (.str ⟨#[c]⟩) H) : rIxS (.str z) (.int i) H Q := by
  obtain ⟨c, e⟩ : ∃ c, atI z.cps.toList i = some c := atI_there h0 (by rw [Array.length_toList]; exact h1)
  exact ⟨z, i, c, rfl, rfl, hz, e, h c⟩
theorem Th.same {K : PySem.W.Frag} {H H' : Hp} {v : V} {b : Bool} (s : Same H H') (h : Th K H v b) : Th K H' v b := by
  cases h with
  | other h m n => exact .other (TyX.same s h) m n
  | tupN h n => exact .tupN (s _ _ h) n
  | tupX h hx m n => exact .tupX (s _ _ h) (TyX.same s hx) m n
  | tupY h hy m n => exact .tupY (s _ _ h) (TyX.same s hy) m n
  | tupW h => exact .tupW (s _ _ h)
/-- one of the odd things: no tuple, or one of none or two -/
inductive Odd (K : PySem.W.Frag) (H : Hp) : V → Prop
  | other {v : V} {T : String} (h : TyX K H v (.type T)) (m : T ∈ kinds7) (n : (T == "tuple") = false) : Odd K H v
  | tup0 {a : Addr} (h : H a = some (.tup [])) : Odd K H (.ref a)
  | tup2 {a : Addr} {s : Str} {n : Int} (h : H a = some (.tup [.str s, .int n])) : Odd K H (.ref a)
theorem Odd.some7 {K : PySem.W.Frag} {H : Hp} {v : V} (h : Odd K H v) : Some7 K H v := by
  cases h with
  | other h m n => exact ⟨_, h, m⟩
  | tup0 h => exact any_tup h
  | tup2 h => exact any_tup h
theorem Odd.thing {K : PySem.W.Frag} {H : Hp} {v : V} (h : Odd K H v) : ∃ b, Th K H v b := by
  cases h with
  | other h m n => exact ⟨_, .other h m n⟩
  | tup0 h => exact ⟨_, .tupN h (by decide)⟩
  | tup2 h => exact ⟨_, .tupW h⟩
end G

namespace G
open PySem L2
/-! ### a dict of the module's top: texts to texts -/
def keyS : Value → Option Str
  | .str x _ => some x
  | _ => none
theorem keyS_of {v : Value} {x : Str} (h : keyS v = some x) : ∃ t, v = .str x t := by
  cases v with
  | str y t =>
    have e : y = x := Option.some.inj h
    exact ⟨t, by rw [e]⟩
  | _ => cases h
def pairsS (l : List DictEntry) : List (Option Str × Option Str) := l.map fun e => (keyS e.key, keyS e.val)
theorem find_pairs (z : Str) : ∀ {l : List DictEntry} {ks : List (Str × Str)}, pairsS l = ks.map (fun p => (some p.1, some p.2)) →
    (∃ r, (match l.find? (·.key.isStr z) with | some e => some (some e.val) | none => if l.any (·.refKey) then none else some none) = some r ∧ match ks.find? (fun p => decide (p.1 = z)) with | some p => ∃ t, r = some (.str p.2 t) | none => r = none) ∧ l.any (·.refKey) = false
  | [], [], _ => ⟨⟨none, rfl, rfl⟩, rfl⟩
  | [], _ :: _, h => by cases h
  | _ :: _, [], h => by cases h
  | e :: r, k :: ks, h => by
    have h1 : (keyS e.key, keyS e.val) :: pairsS r = (some k.1, some k.2) :: ks.map (fun p => (some p.1, some p.2)) := h
    injection h1 with h2 h3
    obtain ⟨h4, h5⟩ := Prod.mk.inj h2
    obtain ⟨t, h6⟩ := keyS_of h4
    obtain ⟨u, h7⟩ := keyS_of h5
    obtain ⟨⟨q, e1, e2⟩, e3⟩ := find_pairs z h3
    have rk : (e.refKey : Bool) = false := by
      unfold DictEntry.refKey
      rw [h6]
    have e4 : (e :: r).any (·.refKey) = false := by
      rw [List.any_cons, rk, e3]
      rfl
    refine ⟨?_, e4⟩
    by_cases c : k.1 = z
    · have i1 : e.key.isStr z = true := by
        rw [h6, ← c]
        simp [Value.isStr]
      refine ⟨some e.val, ?_, ?_⟩
      · rw [List.find?_cons, i1]
      · rw [List.find?_cons, decide_eq_true c]
        exact ⟨u, by rw [h7]⟩
    · have i1 : e.key.isStr z = false := by
        rw [h6]
        simp [Value.isStr, c]
      refine ⟨q, ?_, ?_⟩
      · rw [List.find?_cons, i1, List.any_cons, rk]
        exact e1
      · rw [List.find?_cons, decide_eq_false c]
        exact e2
theorem nsIn_pairs {K : PySem.W.Frag} {d : Addr} {es : Array DictEntry} {n : Nat} {ks : List (Str × Str)} (l : K.lookup d = some ⟨.type "dict", none, .dict es n, #[]⟩) (h : pairsS es.toList = ks.map (fun p => (some p.1, some p.2))) (z : Str) :
    ∃ r, PySem.W.nsIn K d z = some r ∧ match ks.find? (fun p => decide (p.1 = z)) with | some p => ∃ t, r = some (.str p.2 t) | none => r = none := by
  unfold PySem.W.nsIn
  rw [l]
  exact (find_pairs z h).1
def marks : List (Str × Str) := [("num", ""), ("at", "@"), ("box", "b"), ("go", "g")]
theorem marks_some (z : Str) : (marks.find? (fun p => decide (p.1 = z))).isSome = (z == "num" || (z == "at" || z == "box" || z == "go")) := by
  unfold marks
  by_cases h1 : z = "num"
  · subst h1
    rfl
  by_cases h2 : z = "at"
  · subst h2
    decide +kernel
  by_cases h3 : z = "box"
  · subst h3
    decide +kernel
  by_cases h4 : z = "go"
  · subst h4
    decide +kernel
  · have b : ∀ y : Str, ¬ z = y → decide (y = z) = false ∧ (z == y) = false := fun y h => ⟨decide_eq_false fun e => h e.symm, beq_eq_false_iff_ne.mpr h⟩
    simp only [List.find?_cons, (b _ h1).1, (b _ h2).1, (b _ h3).1, (b _ h4).1, (b _ h1).2, (b _ h2).2, (b _ h3).2, (b _ h4).2, List.find?_nil, Option.isSome_none, Bool.or_false]
end G

namespace G
open PySem L2
/-! ### worths, as they stand in the heap -/
abbrev Wo := Str × Int
def wv (w : Wo) : List V := [.str w.1, .int w.2]
/-- v is a tuple of w's text and number -/
def WoAt (H : Hp) (v : V) (w : Wo) : Prop := ∃ a, v = .ref a ∧ H a = some (.tup (wv w)) ∧ PyData.strOk w.1 = true
theorem WoAt.mk {H : Hp} {a : Addr} {s : Str} {n : Int} (h : H a = some (.tup [.str s, .int n])) (o : PyData.strOk s = true) : WoAt H (.ref a) (s, n) := ⟨a, rfl, h, o⟩
abbrev Wos (H : Hp) := Paired (WoAt H)
def wd (w : Wo) : PyData := .tuple [.str w.1, .int w.2]
section
variable {K : PySem.W.Frag} {H H' : Hp} {v : V} {w : Wo} {xs : List V} {ws : List Wo} {p : Addr} {n : Nat}
theorem WoAt.same (s : Same H H') (h : WoAt H v w) : WoAt H' v w := by
  obtain ⟨a, e, h, o⟩ := h
  exact ⟨a, e, s _ _ h, o⟩
theorem Wos.same (s : Same H H') (h : Wos H xs ws) : Wos H' xs ws := Paired.mapP h fun _ _ => WoAt.same s
theorem WoAt.but (b : But p H H') (B : BagAt H p n) (h : WoAt H v w) : WoAt H' v w := by
  obtain ⟨a, e, h, o⟩ := h
  exact ⟨a, e, b _ _ h (B.ne h), o⟩
theorem Wos.but (b : But p H H') (B : BagAt H p n) (h : Wos H xs ws) : Wos H' xs ws := Paired.mapP h fun _ _ => WoAt.but b B
/-- another list at l -/
theorem WoAt.upd {l : Addr} {o : HO} {ys : List V} (hl : H l = some (.lst ys)) (h : WoAt H v w) : WoAt (upd H l o) v w := by
  obtain ⟨a, e, h, k⟩ := h
  exact ⟨a, e, by rw [upd_ne (ne_of h hl (by intro q; cases q))]; exact h, k⟩
theorem Wos.upd {l : Addr} {o : HO} {ys : List V} (hl : H l = some (.lst ys)) (h : Wos H xs ws) : Wos (L2.upd H l o) xs ws := Paired.mapP h fun _ _ => WoAt.upd hl
theorem WoAt.dp (h : WoAt H v w) : Dp K H v (wd w) := by
  obtain ⟨a, rfl, h, _⟩ := h
  exact .tup (.inl (.inl h)) (.cons (.str _) (.cons (.int _) .nil))
theorem Wos.dp : ∀ {xs : List V} {ws : List Wo}, Wos H xs ws → DpAll K H xs (ws.map wd)
  | _, _, .nil => .nil
  | _, _, .cons a b => .cons a.dp (Wos.dp b)
theorem Wos.len : ∀ {xs : List V} {ws : List Wo}, Wos H xs ws → xs.length = ws.length
  | _, _, .nil => rfl
  | _, _, .cons _ b => by rw [List.length_cons, List.length_cons, Wos.len b]
theorem Wos.app {ys : List V} {us : List Wo} (h : Wos H xs ws) (g : Wos H ys us) : Wos H (xs ++ ys) (ws ++ us) := by
  induction h with
  | nil => exact g
  | cons a _ ih => exact .cons a ih
theorem Wos.one (h : WoAt H v w) : Wos H [v] [w] := .cons h .nil
theorem Wos.get : ∀ {xs : List V} {ws : List Wo} {i : Nat} {v : V}, Wos H xs ws → xs[i]? = some v → ∃ w, ws[i]? = some w ∧ WoAt H v w
  | _, _, _, _, .nil, e => by cases e
  | _, _, 0, _, .cons a _, e => ⟨_, rfl, by rw [← Option.some.inj e]; exact a⟩
  | _, _, i + 1, _, .cons _ b, e => Wos.get (i := i) b e
theorem Wos.at : ∀ {xs : List V} {ws : List Wo} {i : Nat} {w : Wo}, Wos H xs ws → ws[i]? = some w → ∃ v, xs[i]? = some v ∧ WoAt H v w
  | _, _, _, _, .nil, e => by cases e
  | _, _, 0, _, .cons a _, e => ⟨_, rfl, by rw [← Option.some.inj e]; exact a⟩
  | _, _, i + 1, _, .cons _ b, e => Wos.at (i := i) b e
theorem Wos.take : ∀ {xs : List V} {ws : List Wo} (n : Nat), Wos H xs ws → Wos H (xs.take n) (ws.take n)
  | _, _, 0, _ => .nil
  | _, _, _ + 1, .nil => .nil
  | _, _, n + 1, .cons a b => .cons a (Wos.take n b)
theorem Wos.drop : ∀ {xs : List V} {ws : List Wo} (n : Nat), Wos H xs ws → Wos H (xs.drop n) (ws.drop n)
  | _, _, 0, h => h
  | _, _, _ + 1, .nil => .nil
  | _, _, n + 1, .cons _ b => Wos.drop n b
theorem Wos.rev {xs : List V} {ws : List Wo} (h : Wos H xs ws) : Wos H xs.reverse ws.reverse := by
  induction h with
  | nil => exact .nil
  | cons a _ ih =>
    rw [List.reverse_cons, List.reverse_cons]
    exact ih.app (.one a)
theorem eqv_wd (a b : Wo) : PyData.eqv (wd a) (wd b) = decide (a = b) := by
  obtain ⟨x, i⟩ := a
  obtain ⟨y, j⟩ := b
  show (x == y && (i == j && true)) = _
  rw [Bool.eq_iff_iff]
  simp
theorem eqvAll_wds : ∀ a b : List Wo, PyData.eqvAll (a.map wd) (b.map wd) = decide (a = b)
  | [], [] => rfl
  | [], _ :: _ => rfl
  | _ :: _, [] => rfl
  | x :: r, y :: s => by
    show (PyData.eqv (wd x) (wd y) && PyData.eqvAll (r.map wd) (s.map wd)) = _
    rw [eqv_wd, eqvAll_wds r s, Bool.eq_iff_iff]
    simp
theorem eqv_wds (a b : List Wo) : PyData.eqv (.list (a.map wd)) (.list (b.map wd)) = decide (a = b) := eqvAll_wds a b
theorem WoAt.ok (h : WoAt H v w) : PyData.strOk w.1 = true := by
  obtain ⟨_, _, _, k⟩ := h
  exact k
theorem Wos.ok : ∀ {xs : List V} {ws : List Wo}, Wos H xs ws → ∀ w ∈ ws, PyData.strOk w.1 = true
  | _, _, .nil, _, h => by cases h
  | _, _, .cons a b, w, h => by
    rcases List.mem_cons.mp h with e | e
    · rw [e]
      exact a.ok
    · exact Wos.ok b w e
theorem shaped_wd {a : Wo} (h : PyData.strOk a.1 = true) : SeqAt.shaped (wd a) = true := by
  simp [SeqAt.shaped, wd, PyData.canLay0, PyData.canLayAll0, PyData.depth, PyData.depthAll, h]
theorem lay_wds : ∀ a : List Wo, (∀ w ∈ a, PyData.strOk w.1 = true) → PyData.canLayAll0 (a.map wd) = true ∧ PyData.depthAll (a.map wd) ≤ 1
  | [], _ => ⟨by simp [PyData.canLayAll0], by simp [PyData.depthAll]⟩
  | x :: r, h => by
    obtain ⟨h1, h2⟩ := lay_wds r fun w m => h w (List.mem_cons_of_mem _ m)
    constructor
    · simp [PyData.canLayAll0, wd, PyData.canLay0, h1, h x List.mem_cons_self]
    · have e : PyData.depthAll ((x :: r).map wd) = max 1 (PyData.depthAll (r.map wd)) := by
        simp [PyData.depthAll, wd, PyData.depth]
      rw [e]
      omega
theorem shaped_wds {a : List Wo} (h : ∀ w ∈ a, PyData.strOk w.1 = true) : SeqAt.shaped (.list (a.map wd)) = true := by
  obtain ⟨h1, h2⟩ := lay_wds a h
  simp [SeqAt.shaped, PyData.canLay0, h1, PyData.depth]
  omega
theorem any_wds (w : Wo) (ws : List Wo) : ((ws.map wd).any fun z => PyData.eqv z (wd w)) = decide (w ∈ ws) := by
  rw [List.any_map, Bool.eq_iff_iff, List.any_eq_true]
  simp only [Function.comp, decide_eq_true_eq, eqv_wd]
  exact ⟨fun ⟨x, h1, h2⟩ => h2 ▸ h1, fun h => ⟨w, h, rfl⟩⟩
end
/-- a list of worths at a -/
def PileAt (H : Hp) (a : Addr) (ws : List Wo) : Prop := ∃ xs, H a = some (.lst xs) ∧ Wos H xs ws
theorem PileAt.same {H H' : Hp} {a : Addr} {ws : List Wo} (s : Same H H') (h : PileAt H a ws) : PileAt H' a ws := by
  obtain ⟨xs, e, h⟩ := h
  exact ⟨xs, s _ _ e, h.same s⟩
theorem PileAt.dp {K : PySem.W.Frag} {H : Hp} {a : Addr} {ws : List Wo} (h : PileAt H a ws) : Dp K H (.ref a) (.list (ws.map wd)) := by
  obtain ⟨xs, e, h⟩ := h
  exact .lst (.inl (.inl e)) h.dp
theorem PileAt.app {H : Hp} {l : Addr} {xs : List V} {ws us : List Wo} {ys : List V} (hl : H l = some (.lst ys)) (h : Wos H xs ws) (g : ws = us) : PileAt (upd H l (.lst xs)) l us := by
  subst g
  exact ⟨xs, upd_same, h.upd hl⟩
theorem paired_dp {K : PySem.W.Frag} {H : Hp} {v : V} {w : Wo} (h : WoAt H v w) : Dp K H v (wd w) := h.dp
theorem r_eqD {K : PySem.W.Frag} {H : Hp} {Q : VK} {x y : V} {d e : PyData} (h1 : Dp K H x d) (h2 : Dp K H y e) (s1 : SeqAt.shaped d = true) (s2 : SeqAt.shaped e = true) (q : Q (.bl (PyData.eqv d e)) H) : rEqD K x y H Q := ⟨d, e, h1, h2, s1, s2, q⟩
theorem r_neD {K : PySem.W.Frag} {H : Hp} {Q : VK} {x y : V} {d e : PyData} (h1 : Dp K H x d) (h2 : Dp K H y e) (s1 : SeqAt.shaped d = true) (s2 : SeqAt.shaped e = true) (q : Q (.bl (!PyData.eqv d e)) H) : rNeD K x y H Q := ⟨d, e, h1, h2, s1, s2, q⟩
theorem r_slL {K : PySem.W.Frag} {H : Hp} {Q : VK} {a : Addr} {xs : List V} {lo hi : Option Int} (h : SqL K H a xs) (q : ∀ p, H p = none → Q (.ref p) (upd H p (.lst (cutV xs lo hi)))) : rSlL K (.ref a) lo hi H Q := ⟨a, xs, rfl, h, q⟩
theorem cut_to (xs : List V) (n : Nat) : cutV xs none (some (n : Int)) = xs.take n := by
  unfold cutV
  rw [HT.sIx_none, HT.sIx_nat, List.drop_zero, Nat.sub_zero]
  by_cases h : n ≤ xs.length
  · rw [Nat.min_eq_left h]
  · rw [Nat.min_eq_right (by omega), List.take_of_length_le (Nat.le_refl _), List.take_of_length_le (by omega)]
end G

namespace G
open PySem L2
/-! ### the things among worths -/
def isT (w : Wo) : Bool := w.1 == "box" || w.1 == "go"
def thStep (acc : List Wo) (w : Wo) : List Wo := if isT w && !decide (w ∈ acc) then acc ++ [w] else acc
def thingsOf (ws : List Wo) : List Wo := ws.foldl thStep []
theorem thStep_no {acc : List Wo} {w : Wo} (h : isT w = false) : thStep acc w = acc := by
  unfold thStep
  rw [h, Bool.false_and]
  rfl
theorem thStep_old {acc : List Wo} {w : Wo} (m : w ∈ acc) : thStep acc w = acc := by
  unfold thStep
  rw [decide_eq_true m, Bool.not_true, Bool.and_false]
  rfl
theorem thStep_new {acc : List Wo} {w : Wo} (h : isT w = true) (m : ¬ w ∈ acc) : thStep acc w = acc ++ [w] := by
  unfold thStep
  rw [decide_eq_false m, h]
  rfl
theorem mem_things {ws : List Wo} {w : Wo} (h : w ∈ thingsOf ws) : w ∈ ws ∧ isT w = true := by
  have : ∀ (l acc : List Wo), w ∈ l.foldl thStep acc → w ∈ acc ∨ (w ∈ l ∧ isT w = true) := by
    intro l
    induction l with
    | nil => intro acc h; exact .inl h
    | cons x r ih =>
      intro acc h
      rcases ih _ h with h | h
      · by_cases t : isT x = true
        · by_cases m : x ∈ acc
          · rw [thStep_old m] at h
            exact .inl h
          · rw [thStep_new t m] at h
            rcases List.mem_append.mp h with h | h
            · exact .inl h
            · have e := List.mem_singleton.mp h
              subst e
              exact .inr ⟨List.mem_cons_self, t⟩
        · rw [thStep_no (by simpa using t)] at h
          exact .inl h
      · exact .inr ⟨List.mem_cons_of_mem _ h.1, h.2⟩
  have := this ws [] h
  simpa using this
theorem thStep_len (acc : List Wo) (w : Wo) : (thStep acc w).length ≤ acc.length + 1 := by
  unfold thStep
  split
  · simp
  · omega
theorem foldl_take {α β : Type} (f : β → α → β) (b : β) (ws : List α) (i : Nat) (w : α) (h : ws[i]? = some w) : (ws.take (i + 1)).foldl f b = f ((ws.take i).foldl f b) w := by
  rw [List.take_add_one, h, List.foldl_append]
  rfl
theorem things_len (ws : List Wo) : (thingsOf ws).length ≤ ws.length := by
  have : ∀ (l acc : List Wo), (l.foldl thStep acc).length ≤ acc.length + l.length := by
    intro l
    induction l with
    | nil => intro acc; simp
    | cons x r ih =>
      intro acc
      have h1 := ih (thStep acc x)
      have h2 := thStep_len acc x
      rw [List.foldl_cons, List.length_cons]
      omega
  have := this ws []
  simpa [thingsOf] using this
def wk (w : Wo) : List Key := [.inr w.1, .inl w.2]
theorem wk_kV (w : Wo) : (wk w).map kV = wv w := rfl
theorem wk_inj {a b : Wo} (h : wk a = wk b) : a = b := by
  obtain ⟨x, i⟩ := a
  obtain ⟨y, j⟩ := b
  injection h with h1 h2
  injection h2 with h2 _
  injection h1 with h1
  injection h2 with h2
  exact Prod.ext h1 h2
theorem valV_keys {β : Type} (f : β → V) : ∀ (acc : List (Wo × β)) (w : Wo), (valV (acc.map fun p => (wk p.1, f p.2)) (wk w)).isSome = decide (w ∈ acc.map (·.1))
  | [], _ => rfl
  | p :: r, w => by
    by_cases e : p.1 = w
    · rw [List.map_cons, valV_pos (by rw [e])]
      rw [Bool.eq_iff_iff]
      simp [e]
    · rw [List.map_cons, valV_neg (fun q => e (wk_inj q)), valV_keys f r w]
      rw [Bool.eq_iff_iff]
      simp only [decide_eq_true_eq, List.map_cons, List.mem_cons]
      exact ⟨fun h => .inr h, fun h => h.resolve_left fun q => e q.symm⟩
/-- the dict whose keys are worths, each with True -/
def tdict (acc : List Wo) : List (List Key × V) := acc.map fun w => (wk w, V.bl true)
theorem tdict_val (acc : List Wo) (w : Wo) : (valV (tdict acc) (wk w)).isSome = decide (w ∈ acc) := by
  have h := valV_keys (fun _ : Unit => V.bl true) (acc.map fun w => (w, ())) w
  simp only [List.map_map, Function.comp_def, List.map_id'] at h
  exact h
theorem tdict_put (acc : List Wo) (w : Wo) : putK (tdict acc) (wk w) (.bl true) = tdict (if w ∈ acc then acc else acc ++ [w]) := by
  have e := tdict_val acc w
  by_cases h : w ∈ acc
  · rw [if_pos h]
    rw [decide_eq_true h] at e
    unfold putK
    rw [valV_any, e, if_pos rfl]
    unfold tdict
    rw [List.map_map]
    refine List.map_congr_left fun x _ => ?_
    by_cases q : wk x = wk w
    · show (if wk x = wk w then (wk x, V.bl true) else (wk x, V.bl true)) = _
      rw [if_pos q]
    · show (if wk x = wk w then (wk x, V.bl true) else (wk x, V.bl true)) = _
      rw [if_neg q]
  · rw [if_neg h]
    rw [decide_eq_false h] at e
    rw [putK_new _ (by simpa using e)]
    unfold tdict
    rw [List.map_append]
    rfl
theorem keys_wos {H : Hp} : ∀ {acc : List Wo} {bs : List Addr}, (∀ w ∈ acc, PyData.strOk w.1 = true) → IsKeys H (tdict acc) bs → Wos H (bs.map V.ref) acc
  | [], _, _, h => by
    cases h
    exact .nil
  | w :: r, _, k, h => by
    cases h with
    | cons a b => exact .cons ⟨_, rfl, a, k w List.mem_cons_self⟩ (keys_wos (fun x m => k x (List.mem_cons_of_mem _ m)) b)
theorem tdict_len (acc : List Wo) : (tdict acc).length = acc.length := by
  unfold tdict
  rw [List.length_map]
theorem things_in : ∀ (l acc : List Wo), (∀ w ∈ l, isT w = true → w ∈ acc) → l.foldl thStep acc = acc
  | [], _, _ => rfl
  | x :: r, acc, h => by
    have e : thStep acc x = acc := by
      by_cases t : isT x = true
      · exact thStep_old (h x List.mem_cons_self t)
      · exact thStep_no (by simpa using t)
    rw [List.foldl_cons, e]
    exact things_in r acc fun w m => h w (List.mem_cons_of_mem _ m)
theorem things_mem : ∀ (l acc : List Wo) (w : Wo), (w ∈ acc ∨ (w ∈ l ∧ isT w = true)) → w ∈ l.foldl thStep acc
  | [], acc, w, h => by
    rcases h with h | ⟨h, _⟩
    · exact h
    · cases h
  | x :: r, acc, w, h => by
    rw [List.foldl_cons]
    refine things_mem r _ w ?_
    have keep : w ∈ acc → w ∈ thStep acc x := fun m => by
      unfold thStep
      split
      · exact List.mem_append_left _ m
      · exact m
    rcases h with h | ⟨h, t⟩
    · exact .inl (keep h)
    · rcases List.mem_cons.mp h with e | h
      · subst e
        by_cases m : w ∈ acc
        · exact .inl (keep m)
        · rw [thStep_new t m]
          exact .inl (List.mem_append_right _ (List.mem_singleton.mpr rfl))
      · exact .inr ⟨h, t⟩
theorem things_twice (l : List Wo) : thingsOf (l ++ l) = thingsOf l := by
  unfold thingsOf
  rw [List.foldl_append]
  exact things_in l _ fun w m t => things_mem l [] w (.inr ⟨m, t⟩)
theorem things_nodup (ws : List Wo) : (thingsOf ws).Nodup := by
  have : ∀ (l acc : List Wo), acc.Nodup → (l.foldl thStep acc).Nodup := by
    intro l
    induction l with
    | nil => intro acc h; exact h
    | cons x r ih =>
      intro acc h
      rw [List.foldl_cons]
      refine ih _ ?_
      unfold thStep
      split
      · rename_i c
        simp only [Bool.and_eq_true, Bool.not_eq_true', decide_eq_false_iff_not] at c
        rw [List.nodup_append]
        exact ⟨h, by simp, fun a ha b hb e => c.2 (by rw [List.mem_singleton] at hb; subst hb; subst e; exact ha)⟩
      · exact h
  exact this ws [] .nil
theorem mem_thingsOf {ws : List Wo} {w : Wo} : w ∈ thingsOf ws ↔ w ∈ ws ∧ isT w = true := ⟨mem_things, fun h => things_mem ws [] w (.inr h)⟩
end G

namespace G
open PySem L2
/-! ### papers of pieces, as they stand in the heap -/
/-- the heap without the addresses ns: what stands there may change -/
def del (ns : List Addr) (H : Hp) : Hp := fun a => if a ∈ ns then none else H a
section
variable {ns : List Addr} {H H' : Hp} {a p : Addr} {o : HO}
theorem del_at (h : H a = some o) (n : a ∉ ns) : del ns H a = some o := by
  unfold del
  rw [if_neg n]
  exact h
theorem of_del (h : del ns H a = some o) : H a = some o ∧ a ∉ ns := by
  unfold del at h
  by_cases m : a ∈ ns
  · rw [if_pos m] at h
    cases h
  · rw [if_neg m] at h
    exact ⟨h, m⟩
theorem del_sub : Same (del ns H) H := fun b u e => (of_del e).1
theorem del_keep (h : ∀ b u, H b = some u → b ∉ ns → H' b = some u) : Same (del ns H) (del ns H') := fun b u e => by
  obtain ⟨h1, h2⟩ := of_del e
  exact del_at (h b u h1 h2) h2
theorem del_same (h : Same H H') : Same (del ns H) (del ns H') := del_keep fun b u e _ => h b u e
theorem del_but (h : But p H H') (m : p ∈ ns) : Same (del ns H) (del ns H') := del_keep fun b u e n => h b u e fun q => n (q ▸ m)
theorem del_upd (m : p ∈ ns) : Same (del ns H) (del ns (upd H p o)) := del_but But.upd m
/-- a new object whose address is to be left out from now on -/
theorem del_more (h : H a = none) : Same (del ns H) (del (a :: ns) H) := fun b u e => by
  obtain ⟨h1, h2⟩ := of_del e
  exact del_at h1 fun m => by
    rcases List.mem_cons.mp m with q | q
    · subst q
      rw [h] at h1
      cases h1
    · exact h2 q
theorem del_less : Same (del (a :: ns) H) (del ns H) := fun b u e => by
  obtain ⟨h1, h2⟩ := of_del e
  exact del_at h1 fun m => h2 (List.mem_cons_of_mem _ m)
end
/-- a list of lists of worths -/
def PileV (H : Hp) (v : V) (ws : List Wo) : Prop := ∃ l, v = .ref l ∧ PileAt H l ws
theorem vint {a b : Int} : (V.int a = V.int b) ↔ a = b := ⟨fun h => V.int.inj h, fun h => by rw [h]⟩
theorem dint {a b : Int} : decide (V.int a = V.int b) = decide (a = b) := decide_eq_decide.mpr vint
abbrev Pc := Int × List Wo
/-- a piece: a tuple of what it lies on and its worths -/
def PcAt (H : Hp) (v : V) (pc : Pc) : Prop := ∃ t l, v = .ref t ∧ H t = some (.tup [.int pc.1, .ref l]) ∧ PileAt H l pc.2
def PcsAt (H : Hp) (a : Addr) (pcs : List Pc) : Prop := ∃ xs, H a = some (.lst xs) ∧ Paired (PcAt H) xs pcs
def PilesAt (H : Hp) (a : Addr) (ps : List (List Wo)) : Prop := ∃ xs, H a = some (.lst xs) ∧ Paired (PileV H) xs ps
def IntsAt (H : Hp) (a : Addr) (ns : List Int) : Prop := H a = some (.lst (ns.map V.int))
def PaperAt (H : Hp) (v : V) (pcs : List Pc) (tops : List Int) : Prop := ∃ t a b, v = .ref t ∧ H t = some (.tup [.ref a, .ref b]) ∧ PcsAt H a pcs ∧ IntsAt H b tops
section
variable {H H' : Hp} {v : V} {a : Addr}
theorem PileV.same {ws : List Wo} (s : Same H H') (h : PileV H v ws) : PileV H' v ws := by
  obtain ⟨l, e, h⟩ := h
  exact ⟨l, e, h.same s⟩
theorem PcAt.same {pc : Pc} (s : Same H H') (h : PcAt H v pc) : PcAt H' v pc := by
  obtain ⟨t, l, e, h1, h2⟩ := h
  exact ⟨t, l, e, s _ _ h1, h2.same s⟩
theorem PcsAt.same {pcs : List Pc} (s : Same H H') (h : PcsAt H a pcs) : PcsAt H' a pcs := by
  obtain ⟨xs, e, h⟩ := h
  exact ⟨xs, s _ _ e, Paired.mapP h fun _ _ => PcAt.same s⟩
theorem PilesAt.same {pcs : List (List Wo)} (s : Same H H') (h : PilesAt H a pcs) : PilesAt H' a pcs := by
  obtain ⟨xs, e, h⟩ := h
  exact ⟨xs, s _ _ e, Paired.mapP h fun _ _ => PileV.same s⟩
theorem IntsAt.same {ns : List Int} (s : Same H H') (h : IntsAt H a ns) : IntsAt H' a ns := s _ _ h
theorem PaperAt.same {pcs : List Pc} {tops : List Int} (s : Same H H') (h : PaperAt H v pcs tops) : PaperAt H' v pcs tops := by
  obtain ⟨t, a, b, e, h1, h2, h3⟩ := h
  exact ⟨t, a, b, e, s _ _ h1, h2.same s, h3.same s⟩
end
theorem paired_len {α β : Type} {F : α → β → Prop} {xs : List α} {ys : List β} (h : Paired F xs ys) : xs.length = ys.length := by
  induction h with
  | nil => rfl
  | cons _ _ ih => rw [List.length_cons, List.length_cons, ih]
theorem paired_app {α β : Type} {F : α → β → Prop} {xs zs : List α} {ys us : List β} (h : Paired F xs ys) (g : Paired F zs us) : Paired F (xs ++ zs) (ys ++ us) := by
  induction h with
  | nil => exact g
  | cons a _ ih => exact .cons a ih
theorem paired_get {α β : Type} {F : α → β → Prop} : ∀ {xs : List α} {ys : List β} {i : Nat} {v : α}, Paired F xs ys → xs[i]? = some v → ∃ w, ys[i]? = some w ∧ F v w
  | _, _, _, _, .nil, e => by cases e
  | _, _, 0, _, .cons a _, e => ⟨_, rfl, by rw [← Option.some.inj e]; exact a⟩
  | _, _, i + 1, _, .cons _ b, e => paired_get (i := i) b e
theorem paired_at {α β : Type} {F : α → β → Prop} : ∀ {xs : List α} {ys : List β} {i : Nat} {w : β}, Paired F xs ys → ys[i]? = some w → ∃ v, xs[i]? = some v ∧ F v w
  | _, _, _, _, .nil, e => by cases e
  | _, _, 0, _, .cons a _, e => ⟨_, rfl, by rw [← Option.some.inj e]; exact a⟩
  | _, _, i + 1, _, .cons _ b, e => paired_at (i := i) b e
/-- the pile of the piece u, by the piles up to each piece -/
def pileAt (piles : List (List Wo)) (u : Int) : List Wo := if 0 ≤ u then piles.getD u.toNat [] else []
/-- what the law draws: pieces that lie on earlier ones, the piles up to each, tops -/
structure Raw (size : Int) (most : Nat) (raw : List Pc) (piles : List (List Wo)) (tops : List Int) : Prop where
  len : raw.length ≤ most
  plen : piles.length = raw.length
  pc : ∀ (i : Nat) (x : Pc), raw[i]? = some x → -1 ≤ x.1 ∧ x.1 < i ∧ 1 ≤ x.2.length ∧ (x.2.length : Int) ≤ size
  pile : ∀ (i : Nat) (x : Pc), raw[i]? = some x → piles[i]? = some (pileAt piles x.1 ++ x.2)
  tlen : tops.length ≤ 100
  top : ∀ t ∈ tops, -1 ≤ t ∧ t < raw.length
/-- as far as the pieces go -/
structure Raw0 (size : Int) (raw : List Pc) (piles : List (List Wo)) : Prop where
  plen : piles.length = raw.length
  pc : ∀ (i : Nat) (x : Pc), raw[i]? = some x → -1 ≤ x.1 ∧ x.1 < i ∧ 1 ≤ x.2.length ∧ (x.2.length : Int) ≤ size
  pile : ∀ (i : Nat) (x : Pc), raw[i]? = some x → piles[i]? = some (pileAt piles x.1 ++ x.2)
  hi : ∀ (i : Nat) (ws : List Wo), piles[i]? = some ws → (ws.length : Int) ≤ size * (i + 1)
theorem Raw0.nil (size : Int) : Raw0 size [] [] := ⟨rfl, fun i x h => by simp at h, fun i x h => by simp at h, fun i x h => by simp at h⟩
theorem pileAt_snoc {piles : List (List Wo)} {u : Int} (ws : List Wo) (h : u < piles.length) : pileAt (piles ++ [ws]) u = pileAt piles u := by
  unfold pileAt
  by_cases h0 : 0 ≤ u
  · rw [if_pos h0, if_pos h0, List.getD_eq_getElem?_getD, List.getD_eq_getElem?_getD, List.getElem?_append_left (by omega)]
  · rw [if_neg h0, if_neg h0]
theorem Raw0.snoc {size : Int} {raw : List Pc} {piles : List (List Wo)} (h : Raw0 size raw piles) {u : Int} {ws : List Wo} (h0 : -1 ≤ u) (h1 : u < raw.length) (h2 : 1 ≤ ws.length) (h3 : (ws.length : Int) ≤ size) (hs : 0 ≤ size) :
    Raw0 size (raw ++ [(u, ws)]) (piles ++ [pileAt piles u ++ ws]) := by
  have pl := h.plen
  have at0 : ∀ {i : Nat} {x : Pc}, (raw ++ [(u, ws)])[i]? = some x → (raw[i]? = some x ∧ i < raw.length) ∨ (i = raw.length ∧ x = (u, ws)) := by
    intro i x e
    by_cases c : i < raw.length
    · rw [List.getElem?_append_left c] at e
      exact .inl ⟨e, c⟩
    · rw [List.getElem?_append_right (by omega)] at e
      have z : i - raw.length = 0 := by
        cases q : i - raw.length with
        | zero => rfl
        | succ k =>
          rw [q] at e
          simp at e
      rw [z] at e
      exact .inr ⟨by omega, (Option.some.inj e).symm⟩
  refine ⟨by rw [List.length_append, List.length_append, pl]; rfl, fun i x e => ?_, fun i x e => ?_, fun i zs e => ?_⟩
  · rcases at0 e with ⟨e, _⟩ | ⟨rfl, rfl⟩
    · exact h.pc i x e
    · exact ⟨h0, h1, h2, h3⟩
  · rcases at0 e with ⟨e, c⟩ | ⟨rfl, rfl⟩
    · have q := h.pc i x e
      rw [List.getElem?_append_left (by omega), pileAt_snoc _ (by omega)]
      exact h.pile i x e
    · rw [← pl, List.getElem?_append_right (Nat.le_refl _), Nat.sub_self, pileAt_snoc _ (by omega)]
      rfl
  · by_cases c : i < piles.length
    · rw [List.getElem?_append_left c] at e
      exact h.hi i zs e
    · rw [List.getElem?_append_right (by omega)] at e
      have z : i - piles.length = 0 := by
        cases q : i - piles.length with
        | zero => rfl
        | succ k =>
          rw [q] at e
          simp at e
      rw [z] at e
      have e := Option.some.inj e
      subst e
      rw [List.length_append]
      have ei : i = piles.length := by omega
      have key : ((pileAt piles u).length : Int) ≤ size * i := by
        unfold pileAt
        by_cases c0 : 0 ≤ u
        · rw [if_pos c0, List.getD_eq_getElem?_getD]
          have lt : u.toNat < piles.length := by omega
          rw [List.getElem?_eq_getElem lt]
          have q := h.hi u.toNat _ (List.getElem?_eq_getElem lt)
          refine Int.le_trans q ?_
          exact Int.mul_le_mul_of_nonneg_left (by omega) hs
        · rw [if_neg c0]
          have := Int.mul_nonneg hs (show (0 : Int) ≤ i by omega)
          simpa using this
      have e3 : size * ((i : Int) + 1) = size * i + size := by rw [Int.mul_add, Int.mul_one]
      rw [e3]
      omega
theorem wos_del {ns : List Addr} {H : Hp} {xs : List V} {ws : List Wo} (h : Wos H xs ws) (k : ∀ a ∈ ns, ∃ ys, H a = some (.lst ys)) : Wos (del ns H) xs ws :=
  Paired.mapP h fun v w ⟨a, e, q, o⟩ => ⟨a, e, del_at q (fun m => by
    obtain ⟨ys, z⟩ := k a m
    rw [q] at z
    exact absurd z (by simp)), o⟩
theorem BagAt.lst {H : Hp} {p : Addr} {n : Nat} (h : BagAt H p n) : ∃ ys, H p = some (.lst ys) := by
  obtain ⟨a, b, c, e, _⟩ := h
  exact ⟨_, e⟩
end G

namespace G
open PySem L2
/-! ### data that can be laid, no deeper than n -/
def Ok (n : Nat) (d : PyData) : Prop := PyData.canLay0 d = true ∧ d.depth ≤ n
theorem Ok.int {n : Nat} (i : Int) : Ok n (.int i) := ⟨rfl, by simp [PyData.depth]⟩
theorem Ok.str {n : Nat} {s : Str} (h : PyData.strOk s = true) : Ok n (.str s) := ⟨by simp [PyData.canLay0, h], by simp [PyData.depth]⟩
def OkAll (n : Nat) (ds : List PyData) : Prop := PyData.canLayAll0 ds = true ∧ PyData.depthAll ds ≤ n
theorem OkAll.nil {n : Nat} : OkAll n [] := ⟨by simp [PyData.canLayAll0], by simp [PyData.depthAll]⟩
theorem OkAll.cons {n : Nat} {d : PyData} {ds : List PyData} (h : Ok n d) (g : OkAll n ds) : OkAll n (d :: ds) := ⟨by simp [PyData.canLayAll0, h.1, g.1], by
  have := h.2
  have := g.2
  simp only [PyData.depthAll]
  omega⟩
theorem OkAll.map {α : Type} {n : Nat} {f : α → PyData} : ∀ {l : List α}, (∀ x ∈ l, Ok n (f x)) → OkAll n (l.map f)
  | [], _ => .nil
  | _ :: _, h => .cons (h _ List.mem_cons_self) (OkAll.map fun y m => h y (List.mem_cons_of_mem _ m))
theorem Ok.list {n : Nat} {ds : List PyData} (h : OkAll n ds) : Ok (n + 1) (.list ds) := ⟨by simp [PyData.canLay0, h.1], by
  have := h.2
  simp only [PyData.depth]
  omega⟩
theorem Ok.tuple {n : Nat} {ds : List PyData} (h : OkAll n ds) : Ok (n + 1) (.tuple ds) := ⟨by simp [PyData.canLay0, h.1], by
  have := h.2
  simp only [PyData.depth]
  omega⟩
theorem Ok.shaped {n : Nat} {d : PyData} (h : Ok n d) (l : n ≤ 64) : SeqAt.shaped d = true := by
  unfold SeqAt.shaped
  rw [h.1, Bool.true_and]
  exact decide_eq_true (Nat.le_trans h.2 l)
theorem Ok.refl {n : Nat} {d : PyData} (h : Ok n d) : PyData.eqv d d = true := PySem.SeqAt.eqv_refl d h.1
theorem ok_wd {w : Wo} (h : PyData.strOk w.1 = true) : Ok 1 (wd w) := .tuple (.cons (.str h) (.cons (.int _) .nil))
/-- two readings of the same data -/
theorem r_neSelf {K : PySem.W.Frag} {H : Hp} {Q : VK} {x y : V} {d : PyData} {n : Nat} (h1 : Dp K H x d) (h2 : Dp K H y d) (o : Ok n d) (l : n ≤ 64) (q : Q (.bl false) H) : rNeD K x y H Q :=
  ⟨d, d, h1, h2, o.shaped l, o.shaped l, by rw [o.refl]; exact q⟩
theorem r_eqSelf {K : PySem.W.Frag} {H : Hp} {Q : VK} {x y : V} {d : PyData} {n : Nat} (h1 : Dp K H x d) (h2 : Dp K H y d) (o : Ok n d) (l : n ≤ 64) (q : Q (.bl true) H) : rEqD K x y H Q :=
  ⟨d, d, h1, h2, o.shaped l, o.shaped l, by rw [o.refl]; exact q⟩
end G

namespace G
open PySem L2
/-! ### pieces numbered as they are come to -/
def under (raw : List Pc) (a : Int) : Int := (raw.getD a.toNat (-1, [])).1
def worthsOf (raw : List Pc) (a : Int) : List Wo := (raw.getD a.toNat (-1, [])).2
/-- each piece lies on an earlier one, or on nothing -/
def Low (raw : List Pc) : Prop := ∀ (i : Nat) (x : Pc), raw[i]? = some x → -1 ≤ x.1 ∧ x.1 < i
theorem Low.under {raw : List Pc} (h : Low raw) {a : Int} (h0 : 0 ≤ a) (h1 : a < raw.length) : -1 ≤ under raw a ∧ under raw a < a := by
  have lt : a.toNat < raw.length := by omega
  have q := h a.toNat _ (List.getElem?_eq_getElem lt)
  unfold G.under
  rw [List.getD_eq_getElem?_getD, List.getElem?_eq_getElem lt]
  have : ((a.toNat : Nat) : Int) = a := by omega
  rw [this] at q
  exact q
theorem pc_at {raw : List Pc} {a : Int} (h0 : 0 ≤ a) (h1 : a < raw.length) : raw[a.toNat]? = some (under raw a, worthsOf raw a) := by
  have lt : a.toNat < raw.length := by omega
  unfold under worthsOf
  rw [List.getD_eq_getElem?_getD, List.getElem?_eq_getElem lt]
  rfl
def visit (raw : List Pc) : Nat → List Int → Int → List Int
  | 0, ord, _ => ord
  | f + 1, ord, a => if a = -1 ∨ a ∈ ord then ord else visit raw f (ord ++ [a]) (under raw a)
def vis (raw : List Pc) (ord : List Int) (a : Int) : List Int := visit raw (a + 1).toNat ord a
theorem visit_more {raw : List Pc} (h : Low raw) : ∀ (n f : Nat) (ord : List Int) (a : Int), (a + 1).toNat = n → n ≤ f → -1 ≤ a → a < raw.length → visit raw f ord a = visit raw n ord a := by
  intro n
  induction n using Nat.strongRecOn with
  | _ n ih =>
    intro f ord a e hf h0 h1
    cases n with
    | zero =>
      have ea : a = -1 := by omega
      cases f with
      | zero => rfl
      | succ f =>
        show (if a = -1 ∨ a ∈ ord then ord else _) = ord
        rw [if_pos (.inl ea)]
    | succ n =>
      cases f with
      | zero => omega
      | succ f =>
        show (if a = -1 ∨ a ∈ ord then ord else visit raw f (ord ++ [a]) (under raw a)) = (if a = -1 ∨ a ∈ ord then ord else visit raw n (ord ++ [a]) (under raw a))
        by_cases c : a = -1 ∨ a ∈ ord
        · rw [if_pos c, if_pos c]
        · rw [if_neg c, if_neg c]
          have u := h.under (a := a) (by omega) h1
          have e1 := ih (under raw a + 1).toNat (by omega) f (ord ++ [a]) (under raw a) rfl (by omega) u.1 (by omega)
          have e2 := ih (under raw a + 1).toNat (by omega) n (ord ++ [a]) (under raw a) rfl (by omega) u.1 (by omega)
          rw [e1, e2]
theorem vis_stop {raw : List Pc} {ord : List Int} {a : Int} (c : a = -1 ∨ a ∈ ord) : vis raw ord a = ord := by
  unfold vis
  cases (a + 1).toNat with
  | zero => rfl
  | succ f =>
    show (if a = -1 ∨ a ∈ ord then ord else _) = ord
    rw [if_pos c]
theorem vis_step {raw : List Pc} (h : Low raw) {ord : List Int} {a : Int} (h0 : 0 ≤ a) (h1 : a < raw.length) (n : ¬ a ∈ ord) : vis raw ord a = vis raw (ord ++ [a]) (under raw a) := by
  have u := h.under h0 h1
  unfold vis
  obtain ⟨f, e⟩ : ∃ f, (a + 1).toNat = f + 1 := ⟨a.toNat, by omega⟩
  rw [e]
  show (if a = -1 ∨ a ∈ ord then ord else visit raw f (ord ++ [a]) (under raw a)) = _
  rw [if_neg (by simp [n]; omega)]
  exact visit_more h _ f _ _ rfl (by omega) u.1 (by omega)
def order (raw : List Pc) (tops : List Int) : List Int := tops.foldl (vis raw) []
/-- what is true of the numbers so far -/
structure Ord (raw : List Pc) (ord : List Int) : Prop where
  nd : ord.Nodup
  rng : ∀ a ∈ ord, 0 ≤ a ∧ a < (raw.length : Int)
theorem Ord.snoc {raw : List Pc} {ord : List Int} (o : Ord raw ord) {a : Int} (h0 : 0 ≤ a) (h1 : a < raw.length) (n : ¬ a ∈ ord) : Ord raw (ord ++ [a]) :=
  ⟨L2.nd_snoc o.nd n, fun b m => by
    rcases List.mem_append.mp m with m | m
    · exact o.rng b m
    · rw [List.mem_singleton.mp m]
      exact ⟨h0, h1⟩⟩
/-- by the walk down from a -/
theorem vis_ind {raw : List Pc} (h : Low raw) {P : List Int → Int → Prop} {R : List Int → Prop} (stop : ∀ ord a, P ord a → (a = -1 ∨ a ∈ ord) → R ord)
    (step : ∀ ord a, P ord a → 0 ≤ a → a < raw.length → ¬ a ∈ ord → P (ord ++ [a]) (under raw a)) : ∀ (n : Nat) (ord : List Int) (a : Int), (a + 1).toNat = n → -1 ≤ a → a < raw.length → P ord a → R (vis raw ord a) := by
  intro n
  induction n using Nat.strongRecOn with
  | _ n ih =>
    intro ord a e h0 h1 p
    by_cases c : a = -1 ∨ a ∈ ord
    · rw [vis_stop c]
      exact stop ord a p c
    · have n1 : a ≠ -1 := fun e => c (.inl e)
      have n2 : ¬ a ∈ ord := fun e => c (.inr e)
      have u := h.under (a := a) (by omega) h1
      rw [vis_step h (by omega) h1 n2]
      exact ih _ (by omega) _ _ rfl u.1 (by omega) (step ord a p (by omega) h1 n2)
theorem nodup_len : ∀ (n : Nat) (l : List Int), l.Nodup → (∀ a ∈ l, 0 ≤ a ∧ a < (n : Int)) → l.length ≤ n
  | 0, l, _, h => by
    cases l with
    | nil => exact Nat.le_refl 0
    | cons a r =>
      have := h a List.mem_cons_self
      omega
  | n + 1, l, d, h => by
    have ih := nodup_len n (l.erase (n : Int)) (d.erase _) fun a m => by
      have q := h a (List.mem_of_mem_erase m)
      have : a ≠ n := fun e => d.not_mem_erase (e ▸ m)
      omega
    rw [List.length_erase] at ih
    by_cases m : (n : Int) ∈ l
    · rw [if_pos m] at ih
      omega
    · rw [if_neg m] at ih
      omega
theorem Ord.len {raw : List Pc} {ord : List Int} (o : Ord raw ord) : ord.length ≤ raw.length := nodup_len _ _ o.nd o.rng
theorem vis_ord {raw : List Pc} (h : Low raw) {ord : List Int} {a : Int} (o : Ord raw ord) (h0 : -1 ≤ a) (h1 : a < raw.length) : Ord raw (vis raw ord a) :=
  vis_ind h (P := fun ord _ => Ord raw ord) (R := Ord raw) (fun _ _ p _ => p) (fun _ _ p a b c => p.snoc a b c) _ ord a rfl h0 h1 o
theorem vis_pre {raw : List Pc} (h : Low raw) {ord : List Int} {a : Int} (h0 : -1 ≤ a) (h1 : a < raw.length) : ∃ more, vis raw ord a = ord ++ more :=
  vis_ind h (P := fun o _ => ∃ m, o = ord ++ m) (R := fun o => ∃ m, o = ord ++ m) (fun _ _ p _ => p) (fun o b ⟨m, e⟩ _ _ _ => ⟨m ++ [b], by rw [e, List.append_assoc]⟩) _ ord a rfl h0 h1 ⟨[], by simp⟩
theorem vis_mem {raw : List Pc} (h : Low raw) {ord : List Int} {a : Int} (h0 : -1 ≤ a) (h1 : a < raw.length) : a = -1 ∨ a ∈ vis raw ord a := by
  by_cases c : a = -1 ∨ a ∈ ord
  · rw [vis_stop c]
    exact c
  · have n1 : a ≠ -1 := fun e => c (.inl e)
    have n2 : ¬ a ∈ ord := fun e => c (.inr e)
    have u := h.under (a := a) (by omega) h1
    rw [vis_step h (by omega) h1 n2]
    obtain ⟨m, e⟩ := vis_pre h (ord := ord ++ [a]) u.1 (by omega)
    right
    rw [e]
    simp
/-- what a numbered piece lies on is numbered -/
def Clo (raw : List Pc) (ord : List Int) : Prop := ∀ b ∈ ord, under raw b = -1 ∨ under raw b ∈ ord
theorem vis_clo {raw : List Pc} (h : Low raw) {ord : List Int} {a : Int} (c : Clo raw ord) (h0 : -1 ≤ a) (h1 : a < raw.length) : Clo raw (vis raw ord a) := by
  refine vis_ind h (P := fun o a => ∀ b ∈ o, under raw b = -1 ∨ under raw b ∈ o ∨ under raw b = a) (R := Clo raw) (fun o a p s b m => ?_) (fun o a p _ _ _ b m => ?_) _ ord a rfl h0 h1 (fun b m => (c b m).elim .inl fun z => .inr (.inl z))
  · rcases p b m with e | e | e
    · exact .inl e
    · exact .inr e
    · rw [e]
      exact s
  · rcases List.mem_append.mp m with m | m
    · rcases p b m with e | e | e
      · exact .inl e
      · exact .inr (.inl (List.mem_append_left _ e))
      · exact .inr (.inl (by rw [e]; simp))
    · rw [List.mem_singleton.mp m]
      exact .inr (.inr rfl)
/-- the whole numbering -/
theorem order_ok {raw : List Pc} (h : Low raw) {tops : List Int} (ht : ∀ t ∈ tops, -1 ≤ t ∧ t < (raw.length : Int)) : Ord raw (order raw tops) ∧ Clo raw (order raw tops) ∧ ∀ t ∈ tops, t = -1 ∨ t ∈ order raw tops := by
  have key : ∀ (l : List Int) (o : List Int), (∀ t ∈ l, -1 ≤ t ∧ t < (raw.length : Int)) → Ord raw o → Clo raw o → Ord raw (l.foldl (vis raw) o) ∧ Clo raw (l.foldl (vis raw) o) ∧ (∀ b ∈ o, b ∈ l.foldl (vis raw) o) ∧ ∀ t ∈ l, t = -1 ∨ t ∈ l.foldl (vis raw) o := by
    intro l
    induction l with
    | nil => intro o _ a b; exact ⟨a, b, fun _ m => m, fun _ m => by cases m⟩
    | cons x r ih =>
      intro o hl a b
      have hx := hl x List.mem_cons_self
      obtain ⟨m, em⟩ := vis_pre h (ord := o) hx.1 hx.2
      obtain ⟨q1, q2, q3, q4⟩ := ih (vis raw o x) (fun t mt => hl t (List.mem_cons_of_mem _ mt)) (vis_ord h a hx.1 hx.2) (vis_clo h b hx.1 hx.2)
      refine ⟨q1, q2, fun b mb => q3 b (by rw [em]; exact List.mem_append_left _ mb), fun t mt => ?_⟩
      rcases List.mem_cons.mp mt with e | mt
      · subst e
        exact (vis_mem h hx.1 hx.2).elim .inl fun z => .inr (q3 _ z)
      · exact q4 t mt
  obtain ⟨a, b, _, d⟩ := key tops [] ht ⟨List.nodup_nil, fun _ m => by cases m⟩ fun _ m => by cases m
  exact ⟨a, b, d⟩
def place (ord : List Int) (a : Int) : Int := if a = -1 then -1 else (ord.idxOf a : Int)
def paperPcs (raw : List Pc) (ord : List Int) : List Pc := ord.map fun a => (place ord (under raw a), worthsOf raw a)
def paperTops (ord : List Int) (tops : List Int) : List Int := tops.map (place ord)
/-! the dict of the places -/
def pd (ord : List Int) : List (Key × V) := (.inl (-1), .int (-1)) :: ord.zipIdx.map fun p => (.inl p.1, .int (p.2 : Int))
theorem pd_len (ord : List Int) : (pd ord).length = ord.length + 1 := by
  unfold pd
  simp
theorem valV_zip (a : Int) : ∀ (ord : List Int) (k : Nat), valV ((ord.zipIdx k).map fun p => ((.inl p.1 : Key), V.int (p.2 : Int))) (.inl a) = if a ∈ ord then some (.int ((k + ord.idxOf a : Nat) : Int)) else none
  | [], _ => by simp [valV]
  | b :: r, k => by
    rw [List.zipIdx_cons, List.map_cons]
    by_cases e : b = a
    · rw [valV_pos (by rw [e])]
      subst e
      simp
    · rw [valV_neg (fun q => e (Sum.inl.inj q)), valV_zip a r (k + 1)]
      by_cases m : a ∈ r
      · rw [if_pos m, if_pos (List.mem_cons_of_mem _ m), List.idxOf_cons]
        have : (b == a) = false := beq_eq_false_iff_ne.mpr e
        rw [this]
        show some (V.int ((k + 1 + r.idxOf a : Nat) : Int)) = some (V.int ((k + (r.idxOf a + 1) : Nat) : Int))
        rw [Nat.add_assoc, Nat.add_comm 1]
      · rw [if_neg m, if_neg (fun q => (List.mem_cons.mp q).elim (fun z => e z.symm) m)]
theorem pd_val (ord : List Int) (a : Int) : valV (pd ord) (.inl a) = if a = -1 ∨ a ∈ ord then some (.int (place ord a)) else none := by
  unfold pd place
  by_cases e : a = -1
  · rw [valV_pos (by rw [e]), if_pos (.inl e), if_pos e]
  · rw [valV_neg (fun q => e (Sum.inl.inj q).symm), valV_zip, if_neg e]
    by_cases m : a ∈ ord
    · rw [if_pos m, if_pos (.inr m), Nat.zero_add]
    · rw [if_neg m, if_neg (by simp [e, m])]
theorem pd_put {ord : List Int} {a : Int} (h : ¬ (a = -1 ∨ a ∈ ord)) : putK (pd ord) (.inl a) (.int (ord.length : Int)) = pd (ord ++ [a]) := by
  have e := pd_val ord a
  rw [if_neg h] at e
  rw [putK_new _ e]
  unfold pd
  rw [List.zipIdx_append, List.map_append]
  simp
/-! walking a paper down -/
inductive Down (pcs : List Pc) : Int → List Int → Prop
  | nil : Down pcs (-1) []
  | cons {j : Nat} {x : Pc} {js : List Int} (h : pcs[j]? = some x) (w : Down pcs x.1 js) : Down pcs (j : Int) ((j : Int) :: js)
def layers (pcs : List Pc) (js : List Int) : List Wo := (js.reverse.map (worthsOf pcs)).flatten
theorem layers_cons (pcs : List Pc) (j : Int) (js : List Int) : layers pcs (j :: js) = layers pcs js ++ worthsOf pcs j := by
  unfold layers
  rw [List.reverse_cons, List.map_append, List.flatten_append]
  simp
theorem idx_get {ord : List Int} {a : Int} (m : a ∈ ord) : ord[ord.idxOf a]? = some a := by
  rw [List.getElem?_eq_getElem (List.idxOf_lt_length_of_mem m)]
  exact congrArg some (List.getElem_idxOf (List.idxOf_lt_length_of_mem m))
theorem paper_at {raw : List Pc} {ord : List Int} {a : Int} (m : a ∈ ord) : (paperPcs raw ord)[ord.idxOf a]? = some (place ord (under raw a), worthsOf raw a) := by
  unfold paperPcs
  rw [List.getElem?_map, idx_get m]
  rfl
/-- the numbered paper lays open what the pieces do -/
theorem paper_walk {size : Int} {most : Nat} {raw : List Pc} {piles : List (List Wo)} {tops : List Int} (R : Raw size most raw piles tops) {ord : List Int} (c : Clo raw ord) (o : Ord raw ord) : ∀ (n : Nat) (a : Int), (a + 1).toNat = n → (a = -1 ∨ a ∈ ord) →
    ∃ js, Down (paperPcs raw ord) (place ord a) js ∧ layers (paperPcs raw ord) js = pileAt piles a ∧ js.length ≤ n := by
  have low : Low raw := fun i x e => ⟨(R.pc i x e).1, (R.pc i x e).2.1⟩
  intro n
  induction n using Nat.strongRecOn with
  | _ n ih =>
    intro a e h
    by_cases c1 : a = -1
    · subst c1
      refine ⟨[], ?_, ?_, Nat.zero_le _⟩
      · unfold place
        rw [if_pos rfl]
        exact .nil
      · show layers _ [] = pileAt piles (-1)
        unfold layers pileAt
        rw [if_neg (by decide)]
        rfl
    · have m := h.resolve_left c1
      have r := o.rng a m
      have u := low.under r.1 r.2
      obtain ⟨js, w, l, lj⟩ := ih (under raw a + 1).toNat (by omega) (under raw a) rfl (c a m)
      have pe := R.pile a.toNat _ (pc_at r.1 r.2)
      have epa : pileAt piles a = pileAt piles (under raw a) ++ worthsOf raw a := by
        have : pileAt piles a = piles.getD a.toNat [] := by
          unfold pileAt
          rw [if_pos r.1]
        rw [this, List.getD_eq_getElem?_getD, pe]
        rfl
      refine ⟨(ord.idxOf a : Int) :: js, ?_, ?_, by rw [List.length_cons]; omega⟩
      · have : place ord a = (ord.idxOf a : Int) := by
          unfold place
          rw [if_neg c1]
        rw [this]
        exact .cons (paper_at m) w
      · rw [layers_cons, l, epa]
        congr 1
        show ((paperPcs raw ord).getD (ord.idxOf a : Int).toNat (-1, [])).2 = _
        rw [List.getD_eq_getElem?_getD, Int.toNat_natCast, paper_at m]
        rfl
theorem pile_len {size : Int} {most : Nat} {raw : List Pc} {piles : List (List Wo)} {tops : List Int} (R : Raw size most raw piles tops) (hs : size ≤ 64) : ∀ (n : Nat) (a : Int), (a + 1).toNat = n → a < raw.length → (pileAt piles a).length ≤ 64 * n := by
  intro n
  induction n using Nat.strongRecOn with
  | _ n ih =>
    intro a e h
    by_cases c : 0 ≤ a
    · have low : Low raw := fun i x e => ⟨(R.pc i x e).1, (R.pc i x e).2.1⟩
      have u := low.under c h
      have pe := R.pile a.toNat _ (pc_at c h)
      have pc := R.pc a.toNat _ (pc_at c h)
      have epa : pileAt piles a = pileAt piles (under raw a) ++ worthsOf raw a := by
        have : pileAt piles a = piles.getD a.toNat [] := by
          unfold pileAt
          rw [if_pos c]
        rw [this, List.getD_eq_getElem?_getD, pe]
        rfl
      have q := ih (under raw a + 1).toNat (by omega) (under raw a) rfl (by omega)
      rw [epa, List.length_append]
      have := pc.2.2.2
      have e2 : (under raw a + 1).toNat ≤ n - 1 := by omega
      have : 64 * (under raw a + 1).toNat ≤ 64 * (n - 1) := Nat.mul_le_mul_left _ e2
      have : (worthsOf raw a).length ≤ 64 := by
        have := pc.2.2.2
        dsimp only at this
        omega
      omega
    · unfold pileAt
      rw [if_neg c]
      exact Nat.zero_le _
theorem Down.mem {pcs : List Pc} {a : Int} {js : List Int} (w : Down pcs a js) : ∀ j ∈ js, 0 ≤ j ∧ ∃ u, pcs[j.toNat]? = some (u, worthsOf pcs j) := by
  induction w with
  | nil => intro j m; cases m
  | @cons j x js h w ih =>
    intro i m
    rcases List.mem_cons.mp m with e | m
    · subst e
      refine ⟨by omega, x.1, ?_⟩
      unfold worthsOf
      rw [List.getD_eq_getElem?_getD, Int.toNat_natCast, h]
      rfl
    · exact ih i m
theorem layers_le {pcs : List Pc} {js done rest : List Int} (e : js.reverse = done ++ rest) : ((done.map (worthsOf pcs)).flatten).length ≤ (layers pcs js).length := by
  unfold layers
  rw [e, List.map_append, List.flatten_append, List.length_append]
  omega
/-! papers told as data -/
def pcd (p : Pc) : PyData := .tuple [.int p.1, .list (p.2.map wd)]
def paperd (pcs : List Pc) (tops : List Int) : PyData := .tuple [.list (pcs.map pcd), .list (tops.map PyData.int)]
section
variable {K : PySem.W.Frag} {H : Hp}
theorem PcAt.dp {v : V} {p : Pc} (h : PcAt H v p) : Dp K H v (pcd p) := by
  obtain ⟨t, l, rfl, e, h⟩ := h
  exact .tup (.inl (.inl e)) (.cons (.int _) (.cons h.dp .nil))
theorem pcs_dp : ∀ {xs : List V} {ps : List Pc}, Paired (PcAt H) xs ps → DpAll K H xs (ps.map pcd)
  | _, _, .nil => .nil
  | _, _, .cons a b => .cons a.dp (pcs_dp b)
theorem ints_dp : ∀ ns : List Int, DpAll K H (ns.map V.int) (ns.map PyData.int)
  | [] => .nil
  | _ :: r => .cons (.int _) (ints_dp r)
theorem PaperAt.dp {v : V} {pcs : List Pc} {tops : List Int} (h : PaperAt H v pcs tops) : Dp K H v (paperd pcs tops) := by
  obtain ⟨t, a, b, rfl, e, ⟨xs, ea, wa⟩, eb⟩ := h
  exact .tup (.inl (.inl e)) (.cons (.lst (.inl (.inl ea)) (pcs_dp wa)) (.cons (.lst (.inl (.inl eb)) (ints_dp _)) .nil))
theorem pcs_ok : ∀ {xs : List V} {ps : List Pc}, Paired (PcAt H) xs ps → ∀ p ∈ ps, Ok 3 (pcd p)
  | _, _, .nil, p, m => by cases m
  | _, _, .cons a b, p, m => by
    rcases List.mem_cons.mp m with e | m
    · subst e
      obtain ⟨t, l, rfl, e, xs, el, h⟩ := a
      exact .tuple (.cons (.int _) (.cons (.list (.map fun w m => ok_wd (h.ok w m))) .nil))
    · exact pcs_ok b p m
theorem PaperAt.ok {v : V} {pcs : List Pc} {tops : List Int} (h : PaperAt H v pcs tops) : Ok 5 (paperd pcs tops) := by
  obtain ⟨t, a, b, rfl, e, ⟨xs, ea, wa⟩, eb⟩ := h
  exact .tuple (.cons (.list (.map (pcs_ok wa))) (.cons (.list (.map fun i _ => .int i)) .nil))
end
end G

namespace G
open PySem L2
/-! ### how many hold each piece -/
def bump1 (xs : List Int) (a : Int) : List Int := if 0 ≤ a then xs.set a.toNat (xs.getD a.toNat 0 + 1) else xs
theorem bump_len (xs : List Int) (a : Int) : (bump1 xs a).length = xs.length := by
  unfold bump1
  split
  · exact List.length_set
  · rfl
theorem bumps_len : ∀ (l : List Int) (xs : List Int), (l.foldl bump1 xs).length = xs.length
  | [], _ => rfl
  | a :: r, xs => by rw [List.foldl_cons, bumps_len r, bump_len]
def zeros (n : Nat) : List Int := List.replicate n 0
def holds (pcs : List Pc) (tops : List Int) : List Int := (pcs.map (·.1) ++ tops).foldl bump1 (zeros pcs.length)
theorem holds_len (pcs : List Pc) (tops : List Int) : (holds pcs tops).length = pcs.length := by
  unfold holds
  rw [bumps_len]
  exact List.length_replicate
def keptOf (pcs : List Pc) : Int := (pcs.map fun p => (p.2.length : Int)).sum
/-- each number is a piece's, or -1 -/
def In (n : Nat) (l : List Int) : Prop := ∀ a ∈ l, -1 ≤ a ∧ a < (n : Int)
theorem place_in {raw : List Pc} {ord : List Int} {a : Int} (h : a = -1 ∨ a ∈ ord) : -1 ≤ place ord a ∧ place ord a < (ord.length : Int) := by
  unfold place
  by_cases e : a = -1
  · rw [if_pos e]
    omega
  · rw [if_neg e]
    have := List.idxOf_lt_length_of_mem (h.resolve_left e)
    omega
theorem paper_in {raw : List Pc} {ord tops : List Int} (c : Clo raw ord) (t : ∀ x ∈ tops, x = -1 ∨ x ∈ ord) :
    In (paperPcs raw ord).length ((paperPcs raw ord).map (·.1)) ∧ In (paperPcs raw ord).length (paperTops ord tops) := by
  have e : (paperPcs raw ord).length = ord.length := by
    unfold paperPcs
    exact List.length_map ..
  constructor
  · intro a m
    rw [e]
    obtain ⟨p, mp, rfl⟩ := List.mem_map.mp m
    obtain ⟨b, mb, rfl⟩ := List.mem_map.mp mp
    exact place_in (raw := raw) (c b mb)
  · intro a m
    rw [e]
    obtain ⟨b, mb, rfl⟩ := List.mem_map.mp m
    exact place_in (raw := raw) (t b mb)
theorem paper_len {raw : List Pc} {ord : List Int} : (paperPcs raw ord).length = ord.length := by
  unfold paperPcs
  exact List.length_map ..
theorem tops_len {ord tops : List Int} : (paperTops ord tops).length = tops.length := by
  unfold paperTops
  exact List.length_map ..
theorem take_fold {β : Type} (f : β → Int → β) (b : β) {l : List Int} {i : Nat} {a : Int} (e : l[i]? = some a) : (l.take (i + 1)).foldl f b = f ((l.take i).foldl f b) a := by
  rw [List.take_add_one, e, List.foldl_append]
  rfl
theorem ixN_in {n : Nat} {k : Int} (h0 : 0 ≤ k) (h1 : k < n) : ixN n k = some k.toNat := by
  unfold ixN
  rw [if_pos h0, if_pos h1]
theorem bump_at {xs : List Int} {a : Int} (h : a < xs.length) (h0 : 0 ≤ a) : (xs.map V.int)[a.toNat]? = some (.int (xs.getD a.toNat 0)) ∧ (xs.map V.int).set a.toNat (.int (xs.getD a.toNat 0 + 1)) = (bump1 xs a).map V.int := by
  have lt : a.toNat < xs.length := by omega
  constructor
  · rw [List.getElem?_map, List.getD_eq_getElem?_getD, List.getElem?_eq_getElem lt]
    rfl
  · unfold bump1
    rw [if_pos h0, List.map_set]
end G

namespace G
open PySem L2
/-! ### papers whose pieces stand as they are come to: two ways to tell -/
def okP (size : Int) (n : Nat) (p : Pc) : Bool := decide (-1 ≤ p.1) && decide (p.1 < (n : Int)) && decide (1 ≤ p.2.length) && decide ((p.2.length : Int) ≤ size)
def okT (n : Nat) (t : Int) : Bool := decide (-1 ≤ t) && decide (t < (n : Int))
/-- numbered on from a -/
def goOn (pcs : List Pc) (k : Int) : Nat → List Int → Int → Option (List Int × Int)
  | 0, _, _ => none
  | f + 1, cs, a => if a = -1 ∨ (0 ≤ a ∧ a < (cs.length : Int)) then some (cs, a) else if a = (cs.length : Int) then goOn pcs k f (cs ++ [k]) (under pcs a) else none
def oneTop (pcs : List Pc) (k : Int) (cs : List Int) (t : Int) : Option (List Int) :=
  (goOn pcs k (pcs.length + 1 - cs.length) cs t).bind fun r => if r.2 ≠ -1 ∧ r.1.getD r.2.toNat 0 = k then none else some r.1
def comeTo (pcs : List Pc) : List Int → Nat → List Int → Option (List Int)
  | [], _, cs => some cs
  | t :: r, k, cs => (oneTop pcs k cs t).bind (comeTo pcs r (k + 1))
def isCome (pcs : List Pc) (tops : List Int) : Bool := (comeTo pcs tops 0 []).any fun cs => decide (cs.length = pcs.length)
def isPaper (size : Int) (pcs : List Pc) (tops : List Int) : Bool := pcs.all (okP size pcs.length) && (tops.all (okT pcs.length) && isCome pcs tops)
/-- down to the end -/
def chain (pcs : List Pc) : Nat → Int → Option (List Int)
  | 0, a => if a = -1 then some [] else none
  | f + 1, a => if a = -1 then some [] else (chain pcs f (under pcs a)).map (a :: ·)
def first1 (os : List Int) (a : Int) : List Int := if a ∈ os then os else os ++ [a]
def firsts (os : List Int) (l : List Int) : List Int := l.foldl first1 os
def rightTo (pcs : List Pc) : List Int → List Int → Option (List Int)
  | [], os => some os
  | t :: r, os => if okT pcs.length t then (chain pcs pcs.length t).bind fun l => rightTo pcs r (firsts os l) else none
def idn (c : Nat) : List Int := (List.range c).map Int.ofNat
def isRight (size : Int) (pcs : List Pc) (tops : List Int) : Bool := pcs.all (okP size pcs.length) && (rightTo pcs tops []).any fun os => decide (os = idn pcs.length)
theorem idn_len (c : Nat) : (idn c).length = c := by simp [idn]
theorem idn_succ (c : Nat) : idn (c + 1) = idn c ++ [(c : Int)] := by
  unfold idn
  rw [List.range_succ, List.map_append]
  rfl
theorem mem_idn {c : Nat} {a : Int} : a ∈ idn c ↔ 0 ≤ a ∧ a < (c : Int) := by
  unfold idn
  rw [List.mem_map]
  constructor
  · rintro ⟨i, h, rfl⟩
    have := List.mem_range.mp h
    simp
    omega
  · rintro ⟨h1, h2⟩
    exact ⟨a.toNat, List.mem_range.mpr (by omega), by simp; omega⟩
theorem idn_get {c i : Nat} (h : i < c) : (idn c)[i]? = some (i : Int) := by
  unfold idn
  rw [List.getElem?_map, List.getElem?_range h]
  rfl
theorem firsts_pre (l : List Int) : ∀ os, ∃ m, firsts os l = os ++ m := by
  induction l with
  | nil => intro os; exact ⟨[], by simp [firsts]⟩
  | cons a r ih =>
    intro os
    obtain ⟨m, e⟩ := ih (first1 os a)
    show ∃ m, firsts (first1 os a) r = os ++ m
    rw [e]
    unfold first1
    split
    · exact ⟨m, rfl⟩
    · exact ⟨a :: m, by rw [List.append_assoc]; rfl⟩
theorem right_pre {pcs : List Pc} : ∀ (ts os os' : List Int), rightTo pcs ts os = some os' → ∃ m, os' = os ++ m
  | [], os, os', h => ⟨[], by cases h; simp⟩
  | t :: r, os, os', h => by
    unfold rightTo at h
    by_cases c : okT pcs.length t = true
    · rw [if_pos c] at h
      cases e : chain pcs pcs.length t with
      | none => rw [e] at h; cases h
      | some l =>
        rw [e] at h
        obtain ⟨m, e1⟩ := right_pre r _ _ h
        obtain ⟨m2, e2⟩ := firsts_pre l os
        exact ⟨m2 ++ m, by rw [e1, e2, List.append_assoc]⟩
    · rw [if_neg c] at h
      cases h
/-- what has gone wrong stays wrong -/
theorem right_bad {pcs : List Pc} {ts os : List Int} {n j : Nat} {a : Int} (h : os[j]? = some a) (n1 : a ≠ (j : Int)) : (rightTo pcs ts os).any (fun os => decide (os = idn n)) = false := by
  cases e : rightTo pcs ts os with
  | none => rfl
  | some os' =>
    obtain ⟨m, rfl⟩ := right_pre _ _ _ e
    show decide (os ++ m = idn n) = false
    refine decide_eq_false fun z => ?_
    have g : (os ++ m)[j]? = some a := by
      rw [List.getElem?_append_left (List.getElem?_eq_some_iff.mp h).1]
      exact h
    rw [z] at g
    have lt : j < n := by
      have := (List.getElem?_eq_some_iff.mp g).1
      rwa [idn_len] at this
    rw [idn_get lt] at g
    exact n1 (Option.some.inj g).symm
theorem chain_more {pcs : List Pc} : ∀ (f : Nat) (a : Int) (l : List Int), chain pcs f a = some l → l.length ≤ f ∧ ∀ g, l.length ≤ g → chain pcs g a = some l
  | 0, a, l, h => by
    unfold chain at h
    by_cases c : a = -1
    · rw [if_pos c] at h
      cases h
      refine ⟨Nat.le_refl _, fun g _ => ?_⟩
      cases g <;> (unfold chain; rw [if_pos c])
    · rw [if_neg c] at h
      cases h
  | f + 1, a, l, h => by
    unfold chain at h
    by_cases c : a = -1
    · rw [if_pos c] at h
      cases h
      refine ⟨Nat.zero_le _, fun g _ => ?_⟩
      cases g <;> (unfold chain; rw [if_pos c])
    · rw [if_neg c] at h
      obtain ⟨r, hr, rfl⟩ := Option.map_eq_some_iff.mp h
      obtain ⟨h1, h2⟩ := chain_more f _ _ hr
      refine ⟨by rw [List.length_cons]; omega, fun g hg => ?_⟩
      rw [List.length_cons] at hg
      obtain ⟨g', rfl⟩ : ∃ g', g = g' + 1 := ⟨g - 1, by omega⟩
      unfold chain
      rw [if_neg c, h2 g' (by omega)]
      rfl
/-- what stood among the first c is closed -/
def Closed (pcs : List Pc) (c : Nat) : Prop := ∀ i : Int, 0 ≤ i → i < (c : Int) → ∃ l, chain pcs pcs.length i = some l ∧ l.length ≤ c ∧ ∀ x ∈ l, 0 ≤ x ∧ x < (c : Int)
theorem firsts_old {os : List Int} : ∀ (l : List Int), (∀ x ∈ l, x ∈ os) → firsts os l = os
  | [], _ => rfl
  | a :: r, h => by
    show firsts (first1 os a) r = os
    have : first1 os a = os := if_pos (h a List.mem_cons_self)
    rw [this]
    exact firsts_old r fun x m => h x (List.mem_cons_of_mem _ m)
theorem firsts_app (os l m : List Int) : firsts os (l ++ m) = firsts (firsts os l) m := List.foldl_append ..
/-- the numbers from c on, j of them -/
def upto (c j : Nat) : List Int := (List.range j).map fun i => ((c + i : Nat) : Int)
theorem upto_succ (c j : Nat) : upto c (j + 1) = upto c j ++ [((c + j : Nat) : Int)] := by
  unfold upto
  rw [List.range_succ, List.map_append]
  rfl
theorem firsts_upto (c : Nat) : ∀ j, firsts (idn c) (upto c j) = idn (c + j)
  | 0 => rfl
  | j + 1 => by
    rw [upto_succ, firsts_app, firsts_upto c j, ← Nat.add_assoc, idn_succ]
    show first1 (idn (c + j)) ((c + j : Nat) : Int) = _
    unfold first1
    rw [if_neg (fun m => by have := mem_idn.mp m; omega)]
theorem ring_none {pcs : List Pc} {c c' : Nat} (h : ∀ b : Int, (c : Int) ≤ b → b < (c' : Int) → (c : Int) ≤ under pcs b ∧ under pcs b < (c' : Int)) : ∀ (f : Nat) (b : Int), (c : Int) ≤ b → b < (c' : Int) → chain pcs f b = none
  | 0, b, h1, h2 => by
    unfold chain
    rw [if_neg (by omega)]
  | f + 1, b, h1, h2 => by
    unfold chain
    rw [if_neg (by omega), ring_none h f _ (h b h1 h2).1 (h b h1 h2).2]
    rfl
theorem upto_cons (c j : Nat) : upto c (j + 1) = (c : Int) :: upto (c + 1) j := by
  unfold upto
  rw [List.range_succ_eq_map, List.map_cons, List.map_map]
  congr 1
  refine List.map_congr_left fun i _ => ?_
  show ((c + (i + 1) : Nat) : Int) = ((c + 1 + i : Nat) : Int)
  omega
theorem mem_upto {c j : Nat} {x : Int} (h : x ∈ upto c j) : (c : Int) ≤ x ∧ x < ((c + j : Nat) : Int) := by
  obtain ⟨i, m, rfl⟩ := List.mem_map.mp h
  have := List.mem_range.mp m
  omega
theorem upto_len (c j : Nat) : (upto c j).length = j := by simp [upto]
/-- c, c + 1, .. up to the j-th, and then a -/
def Links (pcs : List Pc) (c j : Nat) (a : Int) : Prop := ∀ i, i < j → under pcs ((c + i : Nat) : Int) = if i + 1 = j then a else ((c + i + 1 : Nat) : Int)
theorem links_chain {pcs : List Pc} {c j : Nat} {a : Int} (L : Links pcs c j a) {rest : List Int} {g : Nat} (hr : chain pcs g a = some rest) : ∀ d, 1 ≤ d → d ≤ j → chain pcs (d + rest.length) ((c + (j - d) : Nat) : Int) = some (upto (c + (j - d)) d ++ rest)
  | 0, h, _ => by omega
  | d + 1, _, h => by
    have l := L (j - (d + 1)) (by omega)
    have ne : ((c + (j - (d + 1)) : Nat) : Int) ≠ -1 := by omega
    have e1 : d + 1 + rest.length = (d + rest.length) + 1 := by omega
    rw [e1]
    unfold chain
    rw [if_neg ne, l]
    by_cases c0 : d = 0
    · subst c0
      rw [if_pos (by omega), (chain_more _ _ _ hr).2 _ (by omega)]
      rfl
    · rw [if_neg (by omega)]
      have ih := links_chain L hr d (by omega) (by omega)
      have e2 : c + (j - (d + 1)) + 1 = c + (j - d) := by omega
      rw [e2, ih, upto_cons, e2]
      rfl
theorem getD_app_old {cs : List Int} {j : Nat} {k : Int} {i : Nat} (h : i < cs.length) : (cs ++ List.replicate j k).getD i 0 = cs.getD i 0 := by
  rw [List.getD_eq_getElem?_getD, List.getD_eq_getElem?_getD, List.getElem?_append_left h]
theorem getD_app_new {cs : List Int} {j : Nat} {k : Int} {i : Nat} (h : cs.length ≤ i) (h2 : i < cs.length + j) : (cs ++ List.replicate j k).getD i 0 = k := by
  rw [List.getD_eq_getElem?_getD, List.getElem?_append_right h, List.getElem?_replicate, if_pos (by omega)]
  rfl
theorem getD_mem {cs : List Int} {i : Nat} (h : i < cs.length) : cs.getD i 0 ∈ cs := by
  rw [List.getD_eq_getElem?_getD, List.getElem?_eq_getElem h]
  exact List.getElem_mem h
def endTop (k : Int) (r : List Int × Int) : Option (List Int) := if r.2 ≠ -1 ∧ r.1.getD r.2.toNat 0 = k then none else some r.1
/-- one top: both ways come on alike, or both say no -/
theorem top_step {pcs : List Pc} (hin : ∀ a : Int, 0 ≤ a → a < (pcs.length : Int) → -1 ≤ under pcs a ∧ under pcs a < (pcs.length : Int)) {c : Nat} (cl : Closed pcs c) {k : Int} {cs : List Int} (hc : cs.length = c) (hk : ∀ x ∈ cs, x < k) {t : Int} :
    ∀ (m j : Nat) (a : Int), pcs.length - (c + j) = m → c + j ≤ pcs.length → -1 ≤ a → a < (pcs.length : Int) →
      chain pcs pcs.length t = (chain pcs (pcs.length - j) a).map (upto c j ++ ·) → Links pcs c j a → ∀ (f : Nat), m + 1 ≤ f →
      (∃ c' : Nat, (goOn pcs k f (cs ++ List.replicate j k) a).bind (endTop k) = some (cs ++ List.replicate (c' - c) k) ∧ c ≤ c' ∧ c' ≤ pcs.length ∧ Closed pcs c' ∧ ∃ l, chain pcs pcs.length t = some l ∧ firsts (idn c) l = idn c') ∨
      ((goOn pcs k f (cs ++ List.replicate j k) a).bind (endTop k) = none ∧ ∀ l, chain pcs pcs.length t = some l → ∃ (i : Nat) (x : Int), (firsts (idn c) l)[i]? = some x ∧ x ≠ (i : Int)) := by
  intro m
  induction m using Nat.strongRecOn with
  | _ m ih =>
    intro j a em hj a0 a1 ec L f hf
    obtain ⟨f', rfl⟩ : ∃ f', f = f' + 1 := ⟨f - 1, by omega⟩
    have ln : (cs ++ List.replicate j k).length = c + j := by rw [List.length_append, List.length_replicate, hc]
    by_cases hA : a = -1 ∨ (0 ≤ a ∧ a < (c : Int))
    · -- the end, or what stood there ahead of this top
      obtain ⟨rest, hr, lr, mr⟩ : ∃ rest, chain pcs pcs.length a = some rest ∧ rest.length ≤ c ∧ ∀ x ∈ rest, 0 ≤ x ∧ x < (c : Int) := by
        rcases hA with e | ⟨h1, h2⟩
        · refine ⟨[], ?_, Nat.zero_le _, fun x m => by cases m⟩
          unfold chain
          split <;> rw [if_pos e]
        · exact cl a h1 h2
      refine .inl ⟨c + j, ?_, by omega, hj, ?_, upto c j ++ rest, ?_, ?_⟩
      · unfold goOn
        rw [if_pos (by rw [ln]; rcases hA with e | h; exact .inl e; exact .inr (by omega))]
        show endTop k _ = _
        unfold endTop
        rw [if_neg, Nat.add_sub_cancel_left]
        rintro ⟨n1, e⟩
        have h := hA.resolve_left n1
        have lt : a.toNat < cs.length := by omega
        dsimp only at e
        rw [getD_app_old lt] at e
        have := hk _ (getD_mem lt)
        omega
      · intro i i0 i1
        by_cases ic : i < (c : Int)
        · obtain ⟨l, h1, h2, h3⟩ := cl i i0 ic
          exact ⟨l, h1, by omega, fun x m => by have := h3 x m; omega⟩
        · have q := links_chain L hr (c + j - i.toNat) (by omega) (by omega)
          have e1 : ((c + (j - (c + j - i.toNat)) : Nat) : Int) = i := by omega
          rw [e1] at q
          refine ⟨_, (chain_more _ _ _ q).2 _ ?_, ?_, ?_⟩
          · rw [List.length_append, upto_len]
            omega
          · rw [List.length_append, upto_len]
            omega
          · intro x m
            rcases List.mem_append.mp m with m | m
            · have := mem_upto m
              omega
            · have := mr x m
              omega
      · rw [ec, (chain_more _ _ _ hr).2 _ (by omega)]
        rfl
      · rw [firsts_app, firsts_upto]
        exact firsts_old _ fun x m => mem_idn.mpr (by have := mr x m; omega)
    · have hA1 : a ≠ -1 := fun e => hA (.inl e)
      have hA2 : (c : Int) ≤ a := by
        by_cases q : (c : Int) ≤ a
        · exact q
        · exact absurd (.inr ⟨by omega, by omega⟩) hA
      by_cases hC : a < ((c + j : Nat) : Int)
      · -- a ring
        refine .inr ⟨?_, ?_⟩
        · unfold goOn
          rw [if_pos (by rw [ln]; exact .inr (by omega))]
          show endTop k _ = _
          unfold endTop
          rw [if_pos ⟨hA1, getD_app_new (by omega) (by omega)⟩]
        · intro l hl
          exfalso
          rw [ec, ring_none (c := c) (c' := c + j) (fun b b0 b1 => ?_) _ _ hA2 hC] at hl
          · cases hl
          · have l := L (b.toNat - c) (by omega)
            have e1 : ((c + (b.toNat - c) : Nat) : Int) = b := by omega
            rw [e1] at l
            rw [l]
            split <;> omega
      · by_cases hE : a = ((c + j : Nat) : Int)
        · -- on to the next
          have un := hin a (by omega) a1
          have q := ih (m - 1) (by omega) (j + 1) (under pcs a) (by omega) (by omega) un.1 un.2 ?_ ?_ f' (by omega)
          · have e1 : goOn pcs k (f' + 1) (cs ++ List.replicate j k) a = goOn pcs k f' (cs ++ List.replicate (j + 1) k) (under pcs a) := by
              show (if a = -1 ∨ (0 ≤ a ∧ a < ((cs ++ List.replicate j k).length : Int)) then _ else _) = _
              rw [if_neg (by rw [ln]; omega), if_pos (by rw [ln]; exact hE), List.replicate_succ', List.append_assoc]
            rw [e1]
            exact q
          · rw [ec]
            have e2 : pcs.length - j = (pcs.length - (j + 1)) + 1 := by omega
            rw [e2]
            show (if a = -1 then some [] else (chain pcs (pcs.length - (j + 1)) (under pcs a)).map (a :: ·)).map _ = _
            rw [if_neg hA1, Option.map_map, upto_succ]
            congr 1
            funext l
            show upto c j ++ a :: l = upto c j ++ [((c + j : Nat) : Int)] ++ l
            rw [List.append_assoc, hE]
            rfl
          · intro i hi
            by_cases ij : i = j
            · subst ij
              rw [if_pos rfl, ← hE]
            · rw [if_neg (by omega), L i (by omega)]
              split
              · omega
              · rfl
        · -- out of turn
          refine .inr ⟨?_, ?_⟩
          · unfold goOn
            rw [if_neg (by rw [ln]; omega), if_neg (by rw [ln]; exact hE)]
            rfl
          · intro l hl
            rw [ec] at hl
            obtain ⟨r, hr, rfl⟩ := Option.map_eq_some_iff.mp hl
            obtain ⟨r', rfl⟩ : ∃ r', r = a :: r' := by
              cases g : pcs.length - j with
              | zero =>
                rw [g] at hr
                unfold chain at hr
                rw [if_neg hA1] at hr
                cases hr
              | succ g' =>
                rw [g] at hr
                unfold chain at hr
                rw [if_neg hA1] at hr
                obtain ⟨r', _, e⟩ := Option.map_eq_some_iff.mp hr
                exact ⟨r', e.symm⟩
            have e1 : firsts (idn c) (upto c j ++ a :: r') = firsts (idn (c + j) ++ [a]) r' := by
              rw [firsts_app, firsts_upto]
              show firsts (first1 (idn (c + j)) a) r' = _
              unfold first1
              rw [if_neg (fun m => by have := mem_idn.mp m; omega)]
            obtain ⟨mm, e2⟩ := firsts_pre r' (idn (c + j) ++ [a])
            refine ⟨c + j, a, ?_, hE⟩
            show (firsts (idn c) (upto c j ++ a :: r'))[c + j]? = some a
            rw [e1, e2, List.append_assoc, List.getElem?_append_right (by rw [idn_len]; exact Nat.le_refl _), idn_len, Nat.sub_self]
            rfl
theorem tops_alike {pcs : List Pc} (hin : ∀ a : Int, 0 ≤ a → a < (pcs.length : Int) → -1 ≤ under pcs a ∧ under pcs a < (pcs.length : Int)) : ∀ (ts : List Int) (k c : Nat) (cs : List Int), cs.length = c → c ≤ pcs.length → (∀ x ∈ cs, x < (k : Int)) → Closed pcs c → (∀ t ∈ ts, okT pcs.length t = true) →
    (comeTo pcs ts k cs).any (fun cs => decide (cs.length = pcs.length)) = (rightTo pcs ts (idn c)).any (fun os => decide (os = idn pcs.length))
  | [], k, c, cs, hc, hn, hk, cl, ht => by
    show decide (cs.length = pcs.length) = decide (idn c = idn pcs.length)
    refine decide_eq_decide.mpr ⟨fun e => by rw [← e, hc], fun e => ?_⟩
    have := congrArg List.length e
    rw [idn_len, idn_len] at this
    omega
  | t :: r, k, c, cs, hc, hn, hk, cl, ht => by
    have ot := ht t List.mem_cons_self
    have rt : -1 ≤ t ∧ t < (pcs.length : Int) := by
      unfold okT at ot
      simpa using ot
    have q := top_step hin cl hc hk (t := t) (pcs.length - c) 0 t (by omega) (by omega) rt.1 rt.2 (by cases chain pcs pcs.length t <;> rfl) (fun i h => by omega) (pcs.length + 1 - cs.length) (by omega)
    have e1 : comeTo pcs (t :: r) k cs = ((goOn pcs (k : Int) (pcs.length + 1 - cs.length) (cs ++ List.replicate 0 (k : Int)) t).bind (endTop (k : Int))).bind (comeTo pcs r (k + 1)) := by
      show (oneTop pcs (k : Int) cs t).bind _ = _
      rw [List.replicate_zero, List.append_nil]
      rfl
    have e2 : rightTo pcs (t :: r) (idn c) = (chain pcs pcs.length t).bind fun l => rightTo pcs r (firsts (idn c) l) := by
      show (if okT pcs.length t then _ else none) = _
      rw [if_pos ot]
    rw [e1, e2]
    rcases q with ⟨c', h1, h2, h3, h4, l, h5, h6⟩ | ⟨h1, h2⟩
    · rw [h1, h5]
      show (comeTo pcs r (k + 1) _).any _ = (rightTo pcs r (firsts (idn c) l)).any _
      rw [h6]
      refine tops_alike hin r (k + 1) c' _ ?_ h3 ?_ h4 fun t m => ht t (List.mem_cons_of_mem _ m)
      · rw [List.length_append, List.length_replicate, hc]
        omega
      · intro x m
        rcases List.mem_append.mp m with m | m
        · have := hk x m
          omega
        · rw [(List.mem_replicate.mp m).2]
          omega
    · rw [h1]
      show false = _
      cases e : chain pcs pcs.length t with
      | none => rfl
      | some l =>
        obtain ⟨i, x, h3, h4⟩ := h2 l e
        exact (right_bad h3 h4).symm
theorem right_out {pcs : List Pc} : ∀ (ts os : List Int), ts.all (okT pcs.length) = false → rightTo pcs ts os = none
  | [], os, h => by cases h
  | t :: r, os, h => by
    unfold rightTo
    rw [List.all_cons] at h
    by_cases c : okT pcs.length t = true
    · rw [if_pos c]
      rw [c, Bool.true_and] at h
      cases chain pcs pcs.length t with
      | none => rfl
      | some l => exact right_out r _ h
    · rw [if_neg c]
/-- both ways tell alike -/
theorem paper_right (size : Int) (pcs : List Pc) (tops : List Int) : isPaper size pcs tops = isRight size pcs tops := by
  unfold isPaper isRight
  cases hp : pcs.all (okP size pcs.length) with
  | false => rfl
  | true =>
    rw [Bool.true_and, Bool.true_and]
    cases ht : tops.all (okT pcs.length) with
    | false => rw [right_out tops [] ht]; rfl
    | true =>
      rw [Bool.true_and]
      refine tops_alike (fun a a0 a1 => ?_) tops 0 0 [] rfl (Nat.zero_le _) (fun x m => by cases m) (fun i i0 i1 => by omega) fun t m => List.all_eq_true.mp ht t m
      have q := List.all_eq_true.mp hp _ (List.mem_of_getElem? (pc_at a0 a1))
      unfold okP at q
      simp at q
      omega
/-! the dict of what came with which top -/
def kd (cs : List Int) : List (Key × V) := cs.zipIdx.map fun p => (.inl (p.2 : Int), .int p.1)
theorem kd_len (cs : List Int) : (kd cs).length = cs.length := by
  unfold kd
  simp
theorem kd_val' (a : Int) : ∀ (cs : List Int) (k : Nat), valV ((cs.zipIdx k).map fun p => ((.inl (p.2 : Int) : Key), V.int p.1)) (.inl a) = if (k : Int) ≤ a ∧ a < ((k + cs.length : Nat) : Int) then some (.int (cs.getD (a.toNat - k) 0)) else none
  | [], k => by
    rw [if_neg (by simp <;> omega)]
    rfl
  | b :: r, k => by
    rw [List.zipIdx_cons, List.map_cons]
    by_cases e : (k : Int) = a
    · rw [valV_pos (by rw [e]), if_pos (by simp; omega)]
      have : a.toNat - k = 0 := by omega
      rw [this]
      rfl
    · rw [valV_neg (fun q => e (Sum.inl.inj q)), kd_val' a r (k + 1)]
      by_cases c : (k : Int) ≤ a ∧ a < ((k + (b :: r).length : Nat) : Int)
      · rw [if_pos c, if_pos (by simp at c ⊢; omega)]
        have : a.toNat - k = (a.toNat - (k + 1)) + 1 := by omega
        rw [this]
        rfl
      · rw [if_neg c, if_neg (by simp at c ⊢; omega)]
theorem kd_val (cs : List Int) (a : Int) : valV (kd cs) (.inl a) = if 0 ≤ a ∧ a < (cs.length : Int) then some (.int (cs.getD a.toNat 0)) else none := by
  have h := kd_val' a cs 0
  simp only [Nat.zero_add, Nat.sub_zero, Int.natCast_zero] at h
  exact h
theorem kd_put {cs : List Int} {k : Int} : putK (kd cs) (.inl (cs.length : Int)) (.int k) = kd (cs ++ [k]) := by
  have e := kd_val cs (cs.length : Int)
  rw [if_neg (by omega)] at e
  rw [putK_new _ e]
  unfold kd
  rw [List.zipIdx_append, List.map_append]
  simp
/-! the dict of the places in the order of coming -/
def zd (os : List Int) : List (Key × V) := os.zipIdx.map fun p => (.inl p.1, .int (p.2 : Int))
theorem zd_len (os : List Int) : (zd os).length = os.length := by
  unfold zd
  simp
theorem zd_val (os : List Int) (a : Int) : valV (zd os) (.inl a) = if a ∈ os then some (.int (os.idxOf a : Int)) else none := by
  have h := valV_zip a os 0
  rw [Nat.zero_add] at h
  exact h
theorem zd_put {os : List Int} {a : Int} (h : ¬ a ∈ os) : putK (zd os) (.inl a) (.int (os.length : Int)) = zd (os ++ [a]) := by
  have e := zd_val os a
  rw [if_neg h] at e
  rw [putK_new _ e]
  unfold zd
  rw [List.zipIdx_append, List.map_append]
  simp
theorem zd_at {os : List Int} {i : Nat} {k : Key} {v : V} (h : (zd os)[i]? = some (k, v)) : ∃ a, os[i]? = some a ∧ k = .inl a := by
  unfold zd at h
  rw [List.getElem?_map] at h
  obtain ⟨p, hp, e⟩ := Option.map_eq_some_iff.mp h
  rw [List.getElem?_zipIdx] at hp
  obtain ⟨a, ha, e2⟩ := Option.map_eq_some_iff.mp hp
  cases e2
  cases e
  exact ⟨a, ha, rfl⟩
def wrong (os : List Int) (a : Int) : Bool := !decide ((os.idxOf a : Int) = a)
theorem idn_idx {n : Nat} {i : Nat} (h : i < n) : (idn n).idxOf (i : Int) = i := by
  have nd : (idn n).Nodup := by
    unfold idn
    exact List.pairwise_map.mpr (List.nodup_range.imp fun h e => h (Int.ofNat.inj e))
  have := List.Nodup.idxOf_getElem nd i (by rw [idn_len]; exact h)
  have e : (idn n)[i]'(by rw [idn_len]; exact h) = (i : Int) := by
    have := idn_get h
    rw [List.getElem?_eq_getElem (by rw [idn_len]; exact h)] at this
    exact Option.some.inj this
  rw [e] at this
  exact this
theorem told_right {os : List Int} (nd : os.Nodup) (n : Nat) : ((os.filter (wrong os)).isEmpty && decide (os.length = n)) = decide (os = idn n) := by
  rw [Bool.eq_iff_iff, Bool.and_eq_true, decide_eq_true_eq, decide_eq_true_eq, List.isEmpty_iff]
  constructor
  · rintro ⟨h1, h2⟩
    refine List.ext_getElem (by rw [idn_len, h2]) fun i hi hi2 => ?_
    have h3 := List.filter_eq_nil_iff.mp h1 os[i] (List.getElem_mem hi)
    unfold wrong at h3
    rw [List.Nodup.idxOf_getElem nd] at h3
    have e := idn_get (c := n) (i := i) (by omega)
    rw [List.getElem?_eq_getElem hi2] at e
    rw [Option.some.inj e]
    have h4 : (i : Int) = os[i] := by simpa using h3
    exact h4.symm
  · intro e
    subst e
    refine ⟨List.filter_eq_nil_iff.mpr fun a m => ?_, idn_len n⟩
    obtain ⟨a0, a1⟩ := mem_idn.mp m
    unfold wrong
    have := idn_idx (n := n) (i := a.toNat) (by omega)
    have e : ((a.toNat : Nat) : Int) = a := by omega
    rw [e] at this
    rw [this]
    simp
    omega
theorem first1_ok {n : Nat} {os : List Int} (nd : os.Nodup) (r : ∀ x ∈ os, 0 ≤ x ∧ x < (n : Int)) {a : Int} (h0 : 0 ≤ a) (h1 : a < (n : Int)) : (first1 os a).Nodup ∧ ∀ x ∈ first1 os a, 0 ≤ x ∧ x < (n : Int) := by
  unfold first1
  split
  · exact ⟨nd, r⟩
  · rename_i h
    refine ⟨L2.nd_snoc nd h, fun x m => ?_⟩
    rcases List.mem_append.mp m with m | m
    · exact r x m
    · rw [List.mem_singleton.mp m]
      exact ⟨h0, h1⟩
theorem chain_mem {pcs : List Pc} {n : Nat} (hin : ∀ a : Int, 0 ≤ a → a < (n : Int) → -1 ≤ under pcs a ∧ under pcs a < (n : Int)) : ∀ (f : Nat) (a : Int) (l : List Int), -1 ≤ a → a < (n : Int) → chain pcs f a = some l → ∀ x ∈ l, 0 ≤ x ∧ x < (n : Int)
  | 0, a, l, h0, h1, h => by
    unfold chain at h
    by_cases c : a = -1
    · rw [if_pos c] at h
      cases h
      intro x m
      cases m
    · rw [if_neg c] at h
      cases h
  | f + 1, a, l, h0, h1, h => by
    unfold chain at h
    by_cases c : a = -1
    · rw [if_pos c] at h
      cases h
      intro x m
      cases m
    · rw [if_neg c] at h
      obtain ⟨r, hr, rfl⟩ := Option.map_eq_some_iff.mp h
      have un := hin a (by omega) h1
      intro x m
      rcases List.mem_cons.mp m with e | m
      · omega
      · exact chain_mem hin f _ r un.1 un.2 hr x m
theorem cut_last (xs : List V) (v : V) : cutV (xs ++ [v]) none (some (-1)) = xs := by
  unfold cutV
  have l : (xs ++ [v]).length = xs.length + 1 := by simp
  rw [HT.sIx_none, l]
  have : HT.sIx (xs.length + 1) (xs.length + 1) (some (-1)) = xs.length := by
    unfold HT.sIx
    simp
    omega
  rw [this]
  simp
end G

namespace G
open PySem L2
/-! ### wells: three whole numbers; the second one below 10 ^ 42, the third one counts -/
def WellAt (H : Hp) (p : Addr) (n : Nat) : Prop := ∃ a b c : Int, H p = some (.lst [.int a, .int b, .int c]) ∧ 0 ≤ a ∧ 0 ≤ b ∧ b < 1000000000000000000000000000000000000000000 ∧ 0 ≤ c ∧ c ≤ n
theorem WellAt.mono {H : Hp} {p : Addr} {n m : Nat} (h : WellAt H p n) (l : n ≤ m) : WellAt H p m := by
  obtain ⟨a, b, c, e, h0, h1, h2, h3, h4⟩ := h
  exact ⟨a, b, c, e, h0, h1, h2, h3, by omega⟩
theorem WellAt.lst {H : Hp} {p : Addr} {n : Nat} (h : WellAt H p n) : ∃ ys, H p = some (.lst ys) := by
  obtain ⟨a, b, c, e, _⟩ := h
  exact ⟨_, e⟩
theorem WellAt.there {H : Hp} {p : Addr} {n : Nat} (h : WellAt H p n) : H p ≠ none := by
  obtain ⟨a, b, c, e, _⟩ := h
  rw [e]
  simp
theorem WellAt.same {H H' : Hp} {p : Addr} {n : Nat} (h : WellAt H p n) (s : Same H H') : WellAt H' p n := by
  obtain ⟨a, b, c, e, r⟩ := h
  exact ⟨a, b, c, s _ _ e, r⟩
end G

namespace G
open PySem L2 TL
/-! ### worths as texts -/
theorem dstr {a b : Str} : decide (V.str a = V.str b) = decide (a = b) := decide_eq_decide.mpr ⟨fun h => V.str.inj h, fun h => by rw [h]⟩
def markOf (s : Str) : Str := if s = "at" then "@" else if s = "box" then "b" else if s = "go" then "g" else ""
def numT (n : Int) : List Nat := if n < 0 then 45 :: numL n.natAbs else numL n.natAbs
def wt (w : Wo) : Str := markOf w.1 ++ Str.ofString (toString w.2)
theorem tl_int (n : Int) : tl (Str.ofString (toString n)) = numT n := by
  unfold numT
  by_cases h : n < 0
  · rw [if_pos h, PyProof.Rows.toString_neg h, tl_ofString, String.toList_append, List.map_append]
    have e : (0 : Int) - n = ((n.natAbs : Nat) : Int) := by omega
    rw [e, ← tl_ofString (toString ((n.natAbs : Nat) : Int)), tl_num]
    rfl
  · rw [if_neg h]
    have e : n = ((n.natAbs : Nat) : Int) := by omega
    rw [e, tl_num, Int.natAbs_natCast]
/-- what the laws hand to be written -/
def Word (s : Str) : Prop := s = "num" ∨ s = "at" ∨ s = "box" ∨ s = "go"
structure Good (w : Wo) : Prop where
  word : Word w.1
  low : w.1 = "num" ∨ 0 ≤ w.2
  lo : -(10 ^ 60) < w.2
  hi : w.2 < 10 ^ 60
theorem numL_60 {n : Int} (h1 : -(10 ^ 60) < n) (h2 : n < 10 ^ 60) : (numL n.natAbs).length ≤ 60 := by
  refine numL_len (by decide) ?_
  have e : ((10 : Nat) ^ 60 : Nat) = 1000000000000000000000000000000000000000000000000000000000000 := by decide
  have f : ((10 : Int) ^ 60 : Int) = 1000000000000000000000000000000000000000000000000000000000000 := by decide
  rw [e]
  rw [f] at h1 h2
  omega
theorem log_60 {n : Int} (h1 : -(10 ^ 60) < n) (h2 : n < 10 ^ 60) : n.natAbs.log2 < 1920 := by
  have f : ((10 : Int) ^ 60 : Int) = 1000000000000000000000000000000000000000000000000000000000000 := by decide
  rw [f] at h1 h2
  have : n.natAbs < 2 ^ 200 := by
    have g : (2 : Nat) ^ 200 = 1606938044258990275541962092341162602522202993782792835301376 := by decide
    rw [g]
    omega
  by_cases z : n.natAbs = 0
  · rw [z]
    decide
  · exact Nat.lt_of_lt_of_le ((Nat.log2_lt z).mpr this) (by decide)
theorem mark_len (s : Str) : (markOf s).length ≤ 1 := by
  unfold markOf
  split
  · decide
  split
  · decide
  split
  · decide
  · decide
theorem len_app' (a b : Str) : (a ++ b).length = a.length + b.length := by
  rw [len_tl, len_tl, len_tl, tl_append, List.length_append]
theorem num_len {n : Int} (h1 : -(10 ^ 60) < n) (h2 : n < 10 ^ 60) : (Str.ofString (toString n)).length ≤ 61 := by
  have := numL_60 h1 h2
  rw [len_tl, tl_int]
  unfold numT
  split
  · rw [List.length_cons]
    omega
  · omega
theorem wt_len {w : Wo} (g : Good w) : (wt w).length ≤ 62 := by
  have := num_len g.lo g.hi
  have := mark_len w.1
  unfold wt
  rw [len_app']
  omega
theorem word_cases {s : Str} (h : Word s) (h2 : s ≠ "num") : s = "at" ∨ s = "box" ∨ s = "go" := h.resolve_left h2
theorem marks_find {s : Str} (h : Word s) : (marks.find? (fun p => decide (p.1 = s))).map (·.2) = some (markOf s) := by
  rcases h with rfl | rfl | rfl | rfl <;> decide +kernel
theorem tl_wt (w : Wo) : tl (wt w) = tl (markOf w.1) ++ numT w.2 := by
  unfold wt
  rw [tl_append, tl_int]
theorem tl_cut1 {z : Str} (h : 1 ≤ z.length) : tl (cutS z (some 1) none) = (tl z).drop 1 := by
  show (((tl z).drop (HT.sIx z.length 0 (some ((1 : Nat) : Int)))).take (HT.sIx z.length z.length none - HT.sIx z.length 0 (some ((1 : Nat) : Int)))) = _
  rw [HT.sIx_nat, HT.sIx_none, Nat.min_eq_left h]
  exact List.take_of_length_le (by rw [List.length_drop, ← len_tl]; exact Nat.le_refl _)
theorem numL_head : ∀ (n c : Nat) (r : List Nat), numL n = c :: r → c = 48 → r = [] := by
  intro n
  induction n using Nat.strongRecOn with
  | _ n ih =>
    intro c r h e
    by_cases h10 : n < 10
    · rw [numL_lt h10] at h
      exact (List.cons.inj h).2.symm
    · rw [numL_step (by omega)] at h
      have ne := numL_ne (n / 10)
      cases hq : numL (n / 10) with
      | nil => exact absurd hq ne
      | cons c2 r2 =>
        rw [hq] at h
        have e2 : c2 = c := (List.cons.inj h).1
        have r0 := ih (n / 10) (by omega) c2 r2 hq (by rw [e2, e])
        rw [r0] at hq
        have v := numL_val (n / 10)
        rw [hq, e2, e] at v
        have : n / 10 = 0 := by
          rw [← v]
          rfl
        omega
theorem numL_cons (n : Nat) : ∃ c r, numL n = c :: r ∧ 48 ≤ c ∧ c ≤ 57 := by
  cases h : numL n with
  | nil => exact absurd h (numL_ne n)
  | cons c r =>
    have d := numL_digits n c (by rw [h]; exact List.mem_cons_self)
    exact ⟨c, r, rfl, d.1, d.2⟩
theorem figure {c : Nat} (h1 : 48 ≤ c) (h2 : c ≤ 57) : c ∈ (Str.ofString "0123456789").cps.toList := by
  have : (Str.ofString "0123456789").cps.toList = [48, 49, 50, 51, 52, 53, 54, 55, 56, 57] := by decide +kernel
  rw [this]
  have : c = 48 ∨ c = 49 ∨ c = 50 ∨ c = 51 ∨ c = 52 ∨ c = 53 ∨ c = 54 ∨ c = 55 ∨ c = 56 ∨ c = 57 := by omega
  rcases this with rfl | rfl | rfl | rfl | rfl | rfl | rfl | rfl | rfl | rfl <;> decide
theorem sign_eq {c : Nat} {s : String} {d : Nat} (h : (Str.ofString s).cps = #[d]) : ((⟨#[c]⟩ : Str) = Str.ofString s) ↔ c = d := by
  constructor
  · intro e
    have := congrArg Str.cps e
    rw [h] at this
    have e2 : [c] = [d] := congrArg Array.toList this
    exact (List.cons.inj e2).1
  · intro e
    subst e
    exact Str.ext' h.symm
def marked : List (Str × Str) := [("@", "at"), ("b", "box"), ("g", "go")]
/-- the first sign tells the word -/
theorem marked_digit {c : Nat} (h : c ≠ 64 ∧ c ≠ 98 ∧ c ≠ 103) : marked.find? (fun p => decide (p.1 = (⟨#[c]⟩ : Str))) = none := by
  have b : ∀ (s : String) (d : Nat), (Str.ofString s).cps = #[d] → c ≠ d → decide (Str.ofString s = (⟨#[c]⟩ : Str)) = false := fun s d e n => decide_eq_false fun q => n ((sign_eq e).mp q.symm)
  unfold marked
  simp only [List.find?_cons, b "@" 64 (by decide +kernel) h.1, b "b" 98 (by decide +kernel) h.2.1, b "g" 103 (by decide +kernel) h.2.2, List.find?_nil]
theorem tl_nil {z : Str} : tl z = [] ↔ z = "" := by
  constructor
  · intro h
    exact ext_tl (by rw [h]; decide +kernel)
  · intro h
    subst h
    decide +kernel
theorem atI0 {α : Type} (c : α) (r : List α) : atI (c :: r) 0 = some c := by
  simp [atI, ixN]
/-- how a worth's text begins -/
inductive Begins : Wo → Prop
  | digit {w : Wo} {c : Nat} {r : List Nat} (h : w.1 = "num") (n : 0 ≤ w.2) (e : tl (wt w) = numL w.2.natAbs) (e2 : numL w.2.natAbs = c :: r) (c0 : 48 ≤ c) (c1 : c ≤ 57) : Begins w
  | minus {w : Wo} (h : w.1 = "num") (n : w.2 < 0) (e : tl (wt w) = 45 :: numL w.2.natAbs) : Begins w
  | marked {w : Wo} {c : Nat} (n : 0 ≤ w.2) (e : tl (wt w) = c :: numL w.2.natAbs) (m : marked.find? (fun p => decide (p.1 = (⟨#[c]⟩ : Str))) = some (⟨#[c]⟩, w.1)) : Begins w
theorem begins {w : Wo} (g : Good w) : Begins w := by
  have e := tl_wt w
  unfold numT at e
  rcases g.word with h | h
  · rw [h] at e
    by_cases n : w.2 < 0
    · rw [if_pos n] at e
      exact .minus h n e
    · rw [if_neg n] at e
      obtain ⟨c, r, en, c0, c1⟩ := numL_cons w.2.natAbs
      exact .digit h (by omega) e en c0 c1
  · have n : 0 ≤ w.2 := by
      rcases g.low with q | q
      · rw [q] at h
        rcases h with h | h | h <;> exact absurd h (by decide +kernel)
      · exact q
    rw [if_neg (by omega)] at e
    rcases h with h | h | h
    · rw [h] at e
      exact .marked (c := 64) n e (by rw [h]; decide +kernel)
    · rw [h] at e
      exact .marked (c := 98) n e (by rw [h]; decide +kernel)
    · rw [h] at e
      exact .marked (c := 103) n e (by rw [h]; decide +kernel)
theorem begins_not {w : Wo} (b : Begins w) : wt w ≠ "" ∧ wt w ≠ "-0" := by
  have m0 : tl (Str.ofString "-0") = [45, 48] := by decide +kernel
  cases b with
  | @digit c r h n e e2 c0 c1 =>
    refine ⟨fun z => ?_, fun z => ?_⟩
    · have := tl_nil.mpr z
      rw [e, e2] at this
      cases this
    · rw [z, m0, e2] at e
      have := (List.cons.inj e).1
      omega
  | minus h n e =>
    refine ⟨fun z => ?_, fun z => ?_⟩
    · have := tl_nil.mpr z
      rw [e] at this
      cases this
    · rw [z, m0] at e
      have e3 := (List.cons.inj e).2
      have v := numL_val w.2.natAbs
      rw [← e3] at v
      have : w.2.natAbs = 0 := by
        rw [← v]
        rfl
      omega
  | @marked c n e m =>
    refine ⟨fun z => ?_, fun z => ?_⟩
    · have := tl_nil.mpr z
      rw [e] at this
      cases this
    · rw [z, m0] at e
      have e3 := (List.cons.inj e).1
      rw [← e3, marked_digit (by decide)] at m
      cases m
/-! piles as texts -/
def pileText (ws : List Wo) : Str := if ws = [] then "none" else Txt.join " " (ws.map wt)
theorem tl_blank : tl (Str.ofString " ") = [32] := by decide +kernel
theorem tl_pile {ws : List Wo} (h : ws ≠ []) : tl (pileText ws) = joinL [32] (ws.map fun w => tl (wt w)) := by
  unfold pileText
  rw [if_neg h, join_eq, tl_join, tl_blank, List.map_map]
  rfl
theorem signs_wt {w : Wo} (g : Good w) : (∃ c r, tl (wt w) = c :: r ∧ c ≠ 110) ∧ 32 ∉ tl (wt w) := by
  have f := fun n => numL_free (n := n) (s := 32) (.inl (by decide))
  cases begins g with
  | @digit c r h n e e2 c0 c1 =>
    rw [e]
    exact ⟨⟨c, r, e2, by omega⟩, f _⟩
  | minus h n e =>
    rw [e]
    refine ⟨⟨45, _, rfl, by decide⟩, fun m => ?_⟩
    rcases List.mem_cons.mp m with m | m
    · cases m
    · exact f _ m
  | @marked c n e m =>
    have nc : c = 64 ∨ c = 98 ∨ c = 103 := by
      by_cases q : c ≠ 64 ∧ c ≠ 98 ∧ c ≠ 103
      · rw [marked_digit q] at m
        cases m
      · omega
    rw [e]
    refine ⟨⟨c, _, rfl, by omega⟩, fun m => ?_⟩
    rcases List.mem_cons.mp m with m | m
    · omega
    · exact f _ m
theorem joinL_len {k : Nat} : ∀ {ps : List (List Nat)}, (∀ p ∈ ps, p.length ≤ k) → (joinL [32] ps).length ≤ (k + 1) * ps.length
  | [], _ => Nat.zero_le _
  | [p], h => by
    have := h p List.mem_cons_self
    show p.length ≤ _
    simp
    omega
  | p :: q :: r, h => by
    have h1 := h p List.mem_cons_self
    have h2 := joinL_len (ps := q :: r) fun x m => h x (List.mem_cons_of_mem _ m)
    show (p ++ ([32] ++ joinL [32] (q :: r))).length ≤ (k + 1) * (q :: r).length.succ
    rw [List.length_append, List.length_append, Nat.mul_succ]
    simp only [List.length_singleton]
    omega
theorem pile_text_len {ws : List Wo} (g : ∀ w ∈ ws, Good w) (l : ws.length ≤ 1000) : (pileText ws).length ≤ 63000 := by
  by_cases h : ws = []
  · unfold pileText
    rw [if_pos h]
    decide
  · rw [len_tl, tl_pile h]
    have := joinL_len (k := 62) (ps := ws.map fun w => tl (wt w)) fun p m => by
      obtain ⟨w, mw, rfl⟩ := List.mem_map.mp m
      have := wt_len (g w mw)
      rw [len_tl] at this
      exact this
    rw [List.length_map] at this
    omega
theorem pile_not_none {ws : List Wo} (g : ∀ w ∈ ws, Good w) (h : ws ≠ []) : pileText ws ≠ "none" := by
  intro e
  have := tl_pile h
  rw [e] at this
  cases ws with
  | nil => exact h rfl
  | cons w r =>
    obtain ⟨⟨c, q, e2, nc⟩, -⟩ := signs_wt (g w List.mem_cons_self)
    have e3 : tl (Str.ofString "none") = [110, 111, 110, 101] := by decide +kernel
    rw [e3] at this
    cases r with
    | nil =>
      have : [110, 111, 110, 101] = tl (wt w) := this
      rw [e2] at this
      exact nc (List.cons.inj this).1.symm
    | cons w2 r =>
      have : [110, 111, 110, 101] = tl (wt w) ++ ([32] ++ joinL [32] ((w2 :: r).map fun w => tl (wt w))) := this
      rw [e2] at this
      exact nc (List.cons.inj this).1.symm
theorem pile_split {ws : List Wo} (g : ∀ w ∈ ws, Good w) (h : ws ≠ []) : Txt.split (pileText ws) " " = ws.map wt := by
  unfold pileText
  rw [if_neg h]
  refine split_join (y := Str.ofString " ") (s := 32) (S := []) tl_blank (by decide +kernel) (by simpa using h) fun p m => ?_
  obtain ⟨w, mw, rfl⟩ := List.mem_map.mp m
  exact (signs_wt (g w mw)).2
/-- the law's own way: a blank ahead of each -/
def glue (ws : List Wo) : List Nat := (ws.map fun w => 32 :: tl (wt w)).flatten
theorem glue_drop : ∀ {ws : List Wo}, ws ≠ [] → (glue ws).drop 1 = joinL [32] (ws.map fun w => tl (wt w))
  | [], h => absurd rfl h
  | [w], _ => by simp [glue, joinL]
  | w :: v :: r, _ => by
    have ih := glue_drop (ws := v :: r) (by simp)
    have e : glue (w :: v :: r) = 32 :: (tl (wt w) ++ glue (v :: r)) := rfl
    have e2 : glue (v :: r) = 32 :: (glue (v :: r)).drop 1 := rfl
    rw [e, e2, ih]
    rfl
theorem glue_snoc (ws : List Wo) (w : Wo) : glue (ws ++ [w]) = glue ws ++ 32 :: tl (wt w) := by
  unfold glue
  rw [List.map_append, List.flatten_append]
  simp
theorem glue_len {ws : List Wo} (g : ∀ w ∈ ws, Good w) : (glue ws).length ≤ 63 * ws.length := by
  induction ws with
  | nil => exact Nat.zero_le _
  | cons w r ih =>
    have h1 := wt_len (g w List.mem_cons_self)
    rw [len_tl] at h1
    have h2 := ih fun x m => g x (List.mem_cons_of_mem _ m)
    have e : glue (w :: r) = 32 :: (tl (wt w) ++ glue r) := rfl
    rw [e]
    simp only [List.length_cons, List.length_append]
    omega
end G

namespace G
open PySem L2
/-! ### data by Lean's types -/
class Dat (α : Type) where
  At : Hp → V → α → Prop
  enc : α → PyData
  dep : Nat
  same : ∀ {H H' : Hp} {v : V} {a : α}, Same H H' → At H v a → At H' v a
  dp : ∀ {K : PySem.W.Frag} {H : Hp} {v : V} {a : α}, At H v a → Dp K H v (enc a)
  lay : ∀ {H : Hp} {v : V} {a : α}, At H v a → Ok dep (enc a)
  inj : ∀ {H H' : Hp} {v u : V} {a b : α}, At H v a → At H' u b → PyData.eqv (enc a) (enc b) = true → a = b
open Dat (At enc)
instance : Dat Int where
  At := fun _ v a => v = .int a
  enc := .int
  dep := 0
  same := fun _ h => h
  dp := fun h => h ▸ .int _
  lay := fun _ => .int _
  inj := fun _ _ e => by simpa [PyData.eqv] using e
instance : Dat Str where
  At := fun _ v a => v = .str a ∧ PyData.strOk a = true
  enc := .str
  dep := 0
  same := fun _ h => h
  dp := fun h => h.1 ▸ .str _
  lay := fun h => .str h.2
  inj := fun _ _ e => by simpa [PyData.eqv] using e
instance {α β : Type} [Dat α] [Dat β] : Dat (α × β) where
  At := fun H v p => ∃ t x y, v = .ref t ∧ H t = some (.tup [x, y]) ∧ At H x p.1 ∧ At H y p.2
  enc := fun p => .tuple [enc p.1, enc p.2]
  dep := max (Dat.dep α) (Dat.dep β) + 1
  same := fun s ⟨t, x, y, e, h, a, b⟩ => ⟨t, x, y, e, s _ _ h, Dat.same s a, Dat.same s b⟩
  dp := fun ⟨t, x, y, e, h, a, b⟩ => e ▸ .tup (.inl (.inl h)) (.cons (Dat.dp a) (.cons (Dat.dp b) .nil))
  lay := fun ⟨t, x, y, e, h, a, b⟩ => .tuple (.cons ⟨(Dat.lay a).1, Nat.le_trans (Dat.lay a).2 (Nat.le_max_left _ _)⟩ (.cons ⟨(Dat.lay b).1, Nat.le_trans (Dat.lay b).2 (Nat.le_max_right _ _)⟩ .nil))
  inj := fun ⟨t, x, y, e, h, a, b⟩ ⟨t', x', y', e', h', a', b'⟩ q => by
    simp [PyData.eqv, PyData.eqvAll] at q
    exact Prod.ext (Dat.inj a a' q.1) (Dat.inj b b' q.2)
structure T3 (α β γ : Type) where
  a : α
  b : β
  c : γ
  deriving DecidableEq
structure T4 (α β γ δ : Type) where
  a : α
  b : β
  c : γ
  d : δ
  deriving DecidableEq
instance {α β γ : Type} [Dat α] [Dat β] [Dat γ] : Dat (T3 α β γ) where
  At := fun H v p => ∃ t x y z, v = .ref t ∧ H t = some (.tup [x, y, z]) ∧ At H x p.a ∧ At H y p.b ∧ At H z p.c
  enc := fun p => .tuple [enc p.a, enc p.b, enc p.c]
  dep := max (Dat.dep α) (max (Dat.dep β) (Dat.dep γ)) + 1
  same := fun s ⟨t, x, y, z, e, h, a, b, c⟩ => ⟨t, x, y, z, e, s _ _ h, Dat.same s a, Dat.same s b, Dat.same s c⟩
  dp := fun ⟨t, x, y, z, e, h, a, b, c⟩ => e ▸ .tup (.inl (.inl h)) (.cons (Dat.dp a) (.cons (Dat.dp b) (.cons (Dat.dp c) .nil)))
  lay := fun ⟨t, x, y, z, e, h, a, b, c⟩ => by
    have h1 := (Dat.lay a).2
    have h2 := (Dat.lay b).2
    have h3 := (Dat.lay c).2
    exact .tuple (.cons ⟨(Dat.lay a).1, by omega⟩ (.cons ⟨(Dat.lay b).1, by omega⟩ (.cons ⟨(Dat.lay c).1, by omega⟩ .nil)))
  inj := fun {_ _ _ _ p p'} ⟨t, x, y, z, e, h, a, b, c⟩ ⟨t', x', y', z', e', h', a', b', c'⟩ q => by
    simp [PyData.eqv, PyData.eqvAll] at q
    obtain ⟨p1, p2, p3⟩ := p
    obtain ⟨q1, q2, q3⟩ := p'
    have e1 : p1 = q1 := Dat.inj a a' q.1
    have e2 : p2 = q2 := Dat.inj b b' q.2.1
    have e3 : p3 = q3 := Dat.inj c c' q.2.2
    rw [e1, e2, e3]
instance {α β γ δ : Type} [Dat α] [Dat β] [Dat γ] [Dat δ] : Dat (T4 α β γ δ) where
  At := fun H v p => ∃ t x y z u, v = .ref t ∧ H t = some (.tup [x, y, z, u]) ∧ At H x p.a ∧ At H y p.b ∧ At H z p.c ∧ At H u p.d
  enc := fun p => .tuple [enc p.a, enc p.b, enc p.c, enc p.d]
  dep := max (Dat.dep α) (max (Dat.dep β) (max (Dat.dep γ) (Dat.dep δ))) + 1
  same := fun s ⟨t, x, y, z, u, e, h, a, b, c, d⟩ => ⟨t, x, y, z, u, e, s _ _ h, Dat.same s a, Dat.same s b, Dat.same s c, Dat.same s d⟩
  dp := fun ⟨t, x, y, z, u, e, h, a, b, c, d⟩ => e ▸ .tup (.inl (.inl h)) (.cons (Dat.dp a) (.cons (Dat.dp b) (.cons (Dat.dp c) (.cons (Dat.dp d) .nil))))
  lay := fun ⟨t, x, y, z, u, e, h, a, b, c, d⟩ => by
    have h1 := (Dat.lay a).2
    have h2 := (Dat.lay b).2
    have h3 := (Dat.lay c).2
    have h4 := (Dat.lay d).2
    exact .tuple (.cons ⟨(Dat.lay a).1, by omega⟩ (.cons ⟨(Dat.lay b).1, by omega⟩ (.cons ⟨(Dat.lay c).1, by omega⟩ (.cons ⟨(Dat.lay d).1, by omega⟩ .nil))))
  inj := fun {_ _ _ _ p p'} ⟨t, x, y, z, u, e, h, a, b, c, d⟩ ⟨t', x', y', z', u', e', h', a', b', c', d'⟩ q => by
    simp [PyData.eqv, PyData.eqvAll] at q
    obtain ⟨p1, p2, p3, p4⟩ := p
    obtain ⟨q1, q2, q3, q4⟩ := p'
    have e1 : p1 = q1 := Dat.inj a a' q.1
    have e2 : p2 = q2 := Dat.inj b b' q.2.1
    have e3 : p3 = q3 := Dat.inj c c' q.2.2.1
    have e4 : p4 = q4 := Dat.inj d d' q.2.2.2
    rw [e1, e2, e3, e4]
theorem dec_any {p : Prop} (d1 d2 : Decidable p) : @decide p d1 = @decide p d2 := decide_eq_decide.mpr Iff.rfl
abbrev Ats {α : Type} [Dat α] (H : Hp) : List V → List α → Prop := Paired (Dat.At H)
theorem Ats.same {α : Type} [Dat α] {H H' : Hp} {xs : List V} {l : List α} (s : Same H H') (h : Ats H xs l) : Ats H' xs l := Paired.mapP h fun _ _ => Dat.same s
theorem Ats.dp {α : Type} [Dat α] {K : PySem.W.Frag} {H : Hp} : ∀ {xs : List V} {l : List α}, Ats H xs l → DpAll K H xs (l.map enc)
  | _, _, .nil => .nil
  | _, _, .cons a b => .cons (Dat.dp a) (Ats.dp b)
theorem Ats.lay {α : Type} [Dat α] {H : Hp} : ∀ {xs : List V} {l : List α}, Ats H xs l → OkAll (Dat.dep α) (l.map enc)
  | _, _, .nil => .nil
  | _, _, .cons a b => .cons (Dat.lay a) (Ats.lay b)
theorem Ats.inj {α : Type} [Dat α] {H H' : Hp} : ∀ {xs ys : List V} {l m : List α}, Ats H xs l → Ats H' ys m → PyData.eqvAll (l.map enc) (m.map enc) = true → l = m
  | _, _, _, _, .nil, .nil, _ => rfl
  | _, _, _, _, .nil, .cons _ _, h => by simp [PyData.eqvAll] at h
  | _, _, _, _, .cons _ _, .nil, h => by simp [PyData.eqvAll] at h
  | _, _, _, _, .cons a r, .cons b r', h => by
    simp [PyData.eqvAll] at h
    rw [Dat.inj a b h.1, Ats.inj r r' h.2]
theorem Ats.len {α : Type} [Dat α] {H : Hp} {xs : List V} {l : List α} (h : Ats H xs l) : xs.length = l.length := Paired.length h
theorem Ats.app {α : Type} [Dat α] {H : Hp} : ∀ {xs ys : List V} {l m : List α}, Ats H xs l → Ats H ys m → Ats H (xs ++ ys) (l ++ m)
  | _, _, _, _, .nil, h => h
  | _, _, _, _, .cons a r, h => .cons a (Ats.app r h)
theorem Ats.one {α : Type} [Dat α] {H : Hp} {x : V} {a : α} (h : At H x a) : Ats H [x] [a] := .cons h .nil
theorem Ats.rev {α : Type} [Dat α] {H : Hp} : ∀ {xs : List V} {l : List α}, Ats H xs l → Ats H xs.reverse l.reverse
  | _, _, .nil => .nil
  | _, _, .cons a r => by
    rw [List.reverse_cons, List.reverse_cons]
    exact (Ats.rev r).app (.one a)
theorem Ats.take {α : Type} [Dat α] {H : Hp} : ∀ {xs : List V} {l : List α} (n : Nat), Ats H xs l → Ats H (xs.take n) (l.take n)
  | _, _, 0, _ => .nil
  | _, _, _ + 1, .nil => .nil
  | _, _, n + 1, .cons a r => .cons a (Ats.take n r)
theorem Ats.drop {α : Type} [Dat α] {H : Hp} : ∀ {xs : List V} {l : List α} (n : Nat), Ats H xs l → Ats H (xs.drop n) (l.drop n)
  | _, _, 0, h => h
  | _, _, _ + 1, .nil => .nil
  | _, _, n + 1, .cons _ r => Ats.drop n r
theorem Ats.get {α : Type} [Dat α] {H : Hp} : ∀ {xs : List V} {l : List α} {i : Nat} {x : V}, Ats H xs l → xs[i]? = some x → ∃ a, l[i]? = some a ∧ At H x a
  | _, _, _, _, .nil, h => by cases h
  | _, _, 0, _, .cons a _, h => by
    cases h
    exact ⟨_, rfl, a⟩
  | _, _, i + 1, _, .cons _ r, h => Ats.get (i := i) r (by simpa using h)
theorem Ats.get' {α : Type} [Dat α] {H : Hp} : ∀ {xs : List V} {l : List α} {i : Nat} {a : α}, Ats H xs l → l[i]? = some a → ∃ x, xs[i]? = some x ∧ At H x a
  | _, _, _, _, .nil, h => by cases h
  | _, _, 0, _, .cons a _, h => by
    cases h
    exact ⟨_, rfl, a⟩
  | _, _, i + 1, _, .cons _ r, h => Ats.get' (i := i) r (by simpa using h)
theorem Ats.set {α : Type} [Dat α] {H : Hp} {x : V} {a : α} (h : At H x a) : ∀ {xs : List V} {l : List α} (n : Nat), Ats H xs l → Ats H (xs.set n x) (l.set n a)
  | _, _, _, .nil => .nil
  | _, _, 0, .cons _ r => .cons h r
  | _, _, n + 1, .cons b r => .cons b (Ats.set h n r)
theorem Ats.rep {α : Type} [Dat α] {H : Hp} {xs : List V} {l : List α} (h : Ats H xs l) : ∀ n : Nat, Ats H (List.replicate n xs).flatten (List.replicate n l).flatten
  | 0 => .nil
  | n + 1 => by
    rw [List.replicate_succ, List.replicate_succ, List.flatten_cons, List.flatten_cons]
    exact h.app (Ats.rep h n)
instance {α : Type} [Dat α] : Dat (List α) where
  At := fun H v l => ∃ a xs, v = .ref a ∧ H a = some (.lst xs) ∧ Ats H xs l
  enc := fun l => .list (l.map enc)
  dep := Dat.dep α + 1
  same := fun s ⟨a, xs, e, h, r⟩ => ⟨a, xs, e, s _ _ h, r.same s⟩
  dp := fun ⟨a, xs, e, h, r⟩ => e ▸ .lst (.inl (.inl h)) r.dp
  lay := fun ⟨a, xs, e, h, r⟩ => .list r.lay
  inj := fun ⟨a, xs, e, h, r⟩ ⟨a', xs', e', h', r'⟩ q => by
    simp only [PyData.eqv] at q
    exact r.inj r' q
section
variable {α β : Type} [Dat α] [Dat β] {K : PySem.W.Frag} {H H' : Hp} {x y v : V} {a b : α} {Q : VK} {ns : List Addr}
theorem Dat.eqv_eq [DecidableEq α] (h : At H x a) (h' : At H' y b) : PyData.eqv (enc a) (enc b) = decide (a = b) := by
  cases e : PyData.eqv (enc a) (enc b) with
  | true => exact (decide_eq_true (Dat.inj h h' e)).symm
  | false =>
    refine (decide_eq_false fun q => ?_).symm
    subst q
    rw [(Dat.lay h).refl] at e
    cases e
theorem r_eqA [DecidableEq α] (h : At H x a) (h' : At H y b) (q : Q (.bl (decide (a = b))) H) (l : Dat.dep α ≤ 64 := by decide) : rEqD K x y H Q :=
  ⟨_, _, Dat.dp h, Dat.dp h', (Dat.lay h).shaped l, (Dat.lay h').shaped l, by rw [Dat.eqv_eq h h']; exact q⟩
theorem r_neA [DecidableEq α] (h : At H x a) (h' : At H y b) (q : Q (.bl (!decide (a = b))) H) (l : Dat.dep α ≤ 64 := by decide) : rNeD K x y H Q :=
  ⟨_, _, Dat.dp h, Dat.dp h', (Dat.lay h).shaped l, (Dat.lay h').shaped l, by rw [Dat.eqv_eq h h']; exact q⟩
theorem any_dec {α : Type} [Dat α] [DecidableEq α] {H H' : Hp} {x : V} {a : α} (h : At H x a) : ∀ {xs : List V} {l : List α}, Ats H' xs l → ((l.map enc).any fun z => PyData.eqv z (enc a)) = decide (a ∈ l)
  | _, _, .nil => (decide_eq_false (by simp)).symm
  | _, _, .cons (a := z) (b := c) hz r => by
    rw [List.map_cons, List.any_cons, any_dec h r, Dat.eqv_eq hz h, Bool.eq_iff_iff]
    simp only [Bool.or_eq_true, decide_eq_true_eq, List.mem_cons]
    exact ⟨fun q => q.elim (fun e => .inl e.symm) .inr, fun q => q.elim (fun e => .inl e.symm) .inr⟩
theorem r_inA [DecidableEq α] {l : List α} [dc : Decidable (a ∈ l)] (h : At H x a) (h' : At H y l) (q : Q (.bl (decide (a ∈ l))) H) (k : Dat.dep α ≤ 63 := by decide) : rInD K x y H Q := by
  obtain ⟨p, xs, e, hp, r⟩ := id h'
  exact ⟨_, _, Dat.dp h, Dat.dp h', (Dat.lay h).shaped (by omega), (Dat.lay h').shaped (by show Dat.dep α + 1 ≤ 64; omega), by rw [any_dec h r, dec_any _ dc]; exact q⟩
theorem r_ninA [DecidableEq α] {l : List α} [dc : Decidable (a ∈ l)] (h : At H x a) (h' : At H y l) (q : Q (.bl (!decide (a ∈ l))) H) (k : Dat.dep α ≤ 63 := by decide) : rNotInD K x y H Q := by
  obtain ⟨p, xs, e, hp, r⟩ := id h'
  exact ⟨_, _, Dat.dp h, Dat.dp h', (Dat.lay h).shaped (by omega), (Dat.lay h').shaped (by show Dat.dep α + 1 ≤ 64; omega), by rw [any_dec h r, dec_any _ dc]; exact q⟩
end
/-! ### what may change: the addresses ns; all other data stand in the heap without them -/
def Lv (H : Hp) (a : Addr) : Prop := ∃ o, H a = some o ∧ ∀ xs, o ≠ .tup xs
def Live (ns : List Addr) (H : Hp) : Prop := ∀ a ∈ ns, Lv H a
theorem Lv.lst {H : Hp} {a : Addr} {xs : List V} (h : H a = some (.lst xs)) : Lv H a := ⟨_, h, fun _ e => by cases e⟩
/-- what stood without ns stands now without ms -/
structure Fr (ns : List Addr) (H : Hp) (ms : List Addr) (H' : Hp) : Prop where
  same : Same (del ns H) (del ms H')
  live : Live ms H'
/-- a list that may change, at p -/
def Own {α : Type} [Dat α] (ns : List Addr) (H : Hp) (p : Addr) (l : List α) : Prop := ∃ ys, H p = some (.lst ys) ∧ Ats (del ns H) ys l
section
variable {α β γ δ : Type} [Dat α] [Dat β] [Dat γ] [Dat δ] {K : PySem.W.Frag} {H H' H1 H2 : Hp} {x y v : V} {a b : α} {Q : VK} {ns ms ks : List Addr} {p q : Addr} {o : HO} {xs : List V}
theorem Live.not (l : Live ns H) (h : H p = none) : p ∉ ns := fun m => by
  obtain ⟨u, e, _⟩ := l p m
  rw [h] at e
  cases e
theorem Live.nil : Live [] H := fun _ m => by cases m
theorem Live.cons (h : Lv H p) (l : Live ns H) : Live (p :: ns) H := fun a m => (List.mem_cons.mp m).elim (fun e => e ▸ h) (l a)
theorem Live.one (h : Lv H p) : Live [p] H := .cons h .nil
theorem Live.app (h : Live ms H) (l : Live ns H) : Live (ms ++ ns) H := fun a m => (List.mem_append.mp m).elim (h a) (l a)
theorem Live.sub (l : Live ns H) (s : ∀ a ∈ ms, a ∈ ns) : Live ms H := fun a m => l a (s a m)
theorem Live.same (s : Same H H') (l : Live ns H) : Live ns H' := fun a m => by
  obtain ⟨u, e, n⟩ := l a m
  exact ⟨u, s _ _ e, n⟩
theorem Live.tup (l : Live ns H) (e : H p = some (.tup xs)) : p ∉ ns := fun m => by
  obtain ⟨u, e', n⟩ := l p m
  rw [e] at e'
  exact n xs (Option.some.inj e').symm
theorem Live.put (l : Live ns H) (n : ∀ xs, o ≠ .tup xs) : Live ns (upd H p o) := fun b hb => by
  by_cases e : b = p
  · exact ⟨o, by rw [e]; exact upd_same, n⟩
  · obtain ⟨u, h, k⟩ := l b hb
    exact ⟨u, by rw [upd_ne e]; exact h, k⟩
theorem Fr.refl (l : Live ns H) : Fr ns H ns H := ⟨Same.refl _, l⟩
theorem Fr.trans (f : Fr ns H ms H1) (g : Fr ms H1 ks H2) : Fr ns H ks H2 := ⟨f.same.trans g.same, g.live⟩
theorem Fr.of (l : Live ns H) (s : Same H H') : Fr ns H ns H' := ⟨del_same s, l.same s⟩
theorem Fr.mono (l : Live ms H) (s : ∀ a ∈ ns, a ∈ ms) (f : Fr ns H ns H') : Fr ms H ms H' := by
  refine ⟨fun b u e => ?_, fun b m => ?_⟩
  · obtain ⟨e1, n⟩ := of_del e
    have := f.same b u (del_at e1 fun m => n (s b m))
    exact del_at (of_del this).1 n
  · by_cases hb : b ∈ ns
    · exact f.live b hb
    · obtain ⟨u, e, n⟩ := l b m
      exact ⟨u, (of_del (f.same b u (del_at e hb))).1, n⟩
theorem Fr.back (f : Fr [] H [] H') : Same H H' := fun b u e => (of_del (f.same b u (del_at e (by simp)))).1
theorem Fr.keep (f : Fr ns H ms H') (h : H p = some o) (n : p ∉ ns) : H' p = some o := (of_del (f.same p o (del_at h n))).1
theorem Fr.out (f : Fr ns H ms H') (h : H p = some o) (n : p ∉ ns) : p ∉ ms := (of_del (f.same p o (del_at h n))).2
theorem Fr.at_ (f : Fr ns H ms H') (h : At (del ns H) v a) : At (del ms H') v a := Dat.same f.same h
theorem Fr.ats {l : List α} (f : Fr ns H ms H') (h : Ats (del ns H) xs l) : Ats (del ms H') xs l := h.same f.same
theorem Fr.new (l : Live ns H) (h : H p = none) : Fr ns H ns (upd H p o) := .of l (same_new h)
/-- a new thing that may change -/
theorem Fr.mkO (l : Live ns H) (h : H p = none) (n : ∀ xs, o ≠ .tup xs) : Fr ns H (p :: ns) (upd H p o) :=
  ⟨(del_more h).trans (del_upd List.mem_cons_self), Live.cons ⟨o, upd_same, n⟩ (l.same (same_new h))⟩
/-- a change of what may change -/
theorem Fr.put (l : Live ns H) (m : p ∈ ns) (n : ∀ xs, o ≠ .tup xs) : Fr ns H ns (upd H p o) := ⟨del_upd m, l.put n⟩
/-- what may change no more -/
theorem Fr.drop (l : Live (p :: ns) H) : Fr (p :: ns) H ns H := ⟨del_less, l.sub fun _ m => List.mem_cons_of_mem _ m⟩
theorem Fr.sub (l : Live ns H) (s : ∀ a ∈ ms, a ∈ ns) : Fr ns H ms H :=
  ⟨fun b u e => del_at (of_del e).1 fun m => (of_del e).2 (s b m), l.sub s⟩
/-- what is new is from now on what may change -/
theorem Fr.more (l : Live ns H) (h : H p = none) (s : Same H H') (t : Lv H' p) : Fr ns H (p :: ns) H' :=
  ⟨(del_more h).trans (del_same s), Live.cons t (l.same s)⟩
theorem Fr.free (f : Fr ns H ms H') (s : ∀ a ∈ ns, a ∈ ms) (h : H' p = none) : H p = none := by
  cases e : H p with
  | none => rfl
  | some u =>
    by_cases m : p ∈ ns
    · obtain ⟨z, q, _⟩ := f.live p (s p m)
      rw [h] at q
      cases q
    · rw [f.keep e m] at h
      cases h
theorem Fr.free' (f : Fr ns H ns H') (h : H' p = none) : H p = none := f.free (fun _ m => m) h
theorem But.fr (b : But p H H') (l : Live ns H) (m : p ∈ ns) (t : Lv H' p) : Fr ns H ns H' := by
  refine ⟨del_but b m, fun c hc => ?_⟩
  by_cases e : c = p
  · rw [e]
    exact t
  · obtain ⟨u, h, k⟩ := l c hc
    exact ⟨u, b _ _ h e, k⟩
/-! what has no lists in it stands without any ns -/
class Imm (α : Type) [Dat α] : Prop where
  out : ∀ {ns : List Addr} {H : Hp} {v : V} {a : α}, Live ns H → At H v a → At (del ns H) v a
instance : Imm Int := ⟨fun _ h => h⟩
instance : Imm Str := ⟨fun _ h => h⟩
instance [Imm α] [Imm β] : Imm (α × β) := ⟨fun l ⟨t, x, y, e, h, a, b⟩ => ⟨t, x, y, e, del_at h (l.tup h), Imm.out l a, Imm.out l b⟩⟩
theorem Ats.out [Imm α] {l : List α} (hl : Live ns H) (h : Ats H xs l) : Ats (del ns H) xs l := Paired.mapP h fun _ _ => Imm.out hl
theorem at_sub (h : At (del ns H) v a) : At H v a := Dat.same del_sub h
theorem at_wo {w : Wo} : At H v w ↔ WoAt H v w := by
  constructor
  · rintro ⟨t, x, y, e, h, ⟨rfl, o⟩, rfl⟩
    exact ⟨t, e, h, o⟩
  · rintro ⟨t, e, h, o⟩
    exact ⟨t, _, _, e, h, ⟨rfl, o⟩, rfl⟩
theorem ats_wos {ws : List Wo} : Ats H xs ws ↔ Wos H xs ws := ⟨fun h => Paired.mapP h fun _ _ => at_wo.mp, fun h => Paired.mapP h fun _ _ => at_wo.mpr⟩
/-! ### readings of data -/
theorem at_str {z : Str} (h : PyData.strOk z = true) : At H (.str z) z := ⟨rfl, h⟩
theorem at_int {n : Int} : At H (.int n) n := rfl
theorem r_t2 {ab : α × β} {ts : TGs} {σ : L2.St} {Q : L2.St → Hp → Prop} (h : At (del ns H) v ab) (q : ∀ x y, At (del ns H) x ab.1 → At (del ns H) y ab.2 → ts [x, y] σ H Q) : gTup K 2 ts v σ H Q := by
  obtain ⟨t, x, y, rfl, h, a, b⟩ := h
  exact ⟨t, _, rfl, .inl (.inl (of_del h).1), rfl, q _ _ a b⟩
theorem r_t3 {ab : T3 α β γ} {ts : TGs} {σ : L2.St} {Q : L2.St → Hp → Prop} (h : At (del ns H) v ab) (q : ∀ x y z, At (del ns H) x ab.a → At (del ns H) y ab.b → At (del ns H) z ab.c → ts [x, y, z] σ H Q) : gTup K 3 ts v σ H Q := by
  obtain ⟨t, x, y, z, rfl, h, a, b, c⟩ := h
  exact ⟨t, _, rfl, .inl (.inl (of_del h).1), rfl, q _ _ _ a b c⟩
theorem r_t4 {ab : T4 α β γ δ} {ts : TGs} {σ : L2.St} {Q : L2.St → Hp → Prop} (h : At (del ns H) v ab) (q : ∀ x y z u, At (del ns H) x ab.a → At (del ns H) y ab.b → At (del ns H) z ab.c → At (del ns H) u ab.d → ts [x, y, z, u] σ H Q) : gTup K 4 ts v σ H Q := by
  obtain ⟨t, x, y, z, u, rfl, h, a, b, c, d⟩ := h
  exact ⟨t, _, rfl, .inl (.inl (of_del h).1), rfl, q _ _ _ _ a b c d⟩
theorem r_x20 {ab : α × β} (h : At (del ns H) v ab) (q : ∀ x, At (del ns H) x ab.1 → Q x H) : rIxT K v (.int 0) H Q := by
  obtain ⟨t, x, y, rfl, h, a, b⟩ := h
  exact ⟨t, _, 0, _, rfl, rfl, .inl (.inl (of_del h).1), rfl, q _ a⟩
theorem r_x21 {ab : α × β} (h : At (del ns H) v ab) (q : ∀ x, At (del ns H) x ab.2 → Q x H) : rIxT K v (.int 1) H Q := by
  obtain ⟨t, x, y, rfl, h, a, b⟩ := h
  exact ⟨t, _, 1, _, rfl, rfl, .inl (.inl (of_del h).1), rfl, q _ b⟩
theorem r_x30 {ab : T3 α β γ} (h : At (del ns H) v ab) (q : ∀ x, At (del ns H) x ab.a → Q x H) : rIxT K v (.int 0) H Q := by
  obtain ⟨t, x, y, z, rfl, h, a, b, c⟩ := h
  exact ⟨t, _, 0, _, rfl, rfl, .inl (.inl (of_del h).1), rfl, q _ a⟩
theorem r_x31 {ab : T3 α β γ} (h : At (del ns H) v ab) (q : ∀ x, At (del ns H) x ab.b → Q x H) : rIxT K v (.int 1) H Q := by
  obtain ⟨t, x, y, z, rfl, h, a, b, c⟩ := h
  exact ⟨t, _, 1, _, rfl, rfl, .inl (.inl (of_del h).1), rfl, q _ b⟩
theorem r_x32 {ab : T3 α β γ} (h : At (del ns H) v ab) (q : ∀ x, At (del ns H) x ab.c → Q x H) : rIxT K v (.int 2) H Q := by
  obtain ⟨t, x, y, z, rfl, h, a, b, c⟩ := h
  exact ⟨t, _, 2, _, rfl, rfl, .inl (.inl (of_del h).1), rfl, q _ c⟩
theorem r_x40 {ab : T4 α β γ δ} (h : At (del ns H) v ab) (q : ∀ x, At (del ns H) x ab.a → Q x H) : rIxT K v (.int 0) H Q := by
  obtain ⟨t, x, y, z, u, rfl, h, a, b, c, d⟩ := h
  exact ⟨t, _, 0, _, rfl, rfl, .inl (.inl (of_del h).1), rfl, q _ a⟩
theorem r_x41 {ab : T4 α β γ δ} (h : At (del ns H) v ab) (q : ∀ x, At (del ns H) x ab.b → Q x H) : rIxT K v (.int 1) H Q := by
  obtain ⟨t, x, y, z, u, rfl, h, a, b, c, d⟩ := h
  exact ⟨t, _, 1, _, rfl, rfl, .inl (.inl (of_del h).1), rfl, q _ b⟩
theorem r_x42 {ab : T4 α β γ δ} (h : At (del ns H) v ab) (q : ∀ x, At (del ns H) x ab.c → Q x H) : rIxT K v (.int 2) H Q := by
  obtain ⟨t, x, y, z, u, rfl, h, a, b, c, d⟩ := h
  exact ⟨t, _, 2, _, rfl, rfl, .inl (.inl (of_del h).1), rfl, q _ c⟩
theorem r_x43 {ab : T4 α β γ δ} (h : At (del ns H) v ab) (q : ∀ x, At (del ns H) x ab.d → Q x H) : rIxT K v (.int 3) H Q := by
  obtain ⟨t, x, y, z, u, rfl, h, a, b, c, d⟩ := h
  exact ⟨t, _, 3, _, rfl, rfl, .inl (.inl (of_del h).1), rfl, q _ d⟩
theorem atI_ats {l : List α} {i : Int} (h : Ats H xs l) (e : atI l i = some a) : ∃ x, atI xs i = some x ∧ At H x a := by
  unfold atI at e ⊢
  rw [h.len]
  cases j : ixN l.length i with
  | none =>
    rw [j] at e
    cases e
  | some k =>
    rw [j] at e
    exact h.get' e
theorem r_xl {l : List α} {i : Int} (h : At (del ns H) v l) (e : atI l i = some a) (q : ∀ x, At (del ns H) x a → Q x H) : rIxL K v (.int i) H Q := by
  obtain ⟨t, xs, rfl, h, r⟩ := h
  obtain ⟨x, ex, hx⟩ := atI_ats r e
  exact ⟨t, xs, i, x, rfl, rfl, .inl (.inl (of_del h).1), ex, q _ hx⟩
theorem r_xo {l : List α} {i : Int} (h : Own ns H p l) (e : atI l i = some a) (q : ∀ x, At (del ns H) x a → Q x H) : rIxL K (.ref p) (.int i) H Q := by
  obtain ⟨xs, h, r⟩ := h
  obtain ⟨x, ex, hx⟩ := atI_ats r e
  exact ⟨p, xs, i, x, rfl, rfl, .inl (.inl h), ex, q _ hx⟩
theorem r_lenA {l : List α} {R : Nat → Prop} (h : At (del ns H) v l) (q : R l.length) : ∃ x n, [v] = [x] ∧ LenV K x H n ∧ R n := by
  obtain ⟨t, xs, rfl, h, r⟩ := h
  exact ⟨_, _, rfl, .inl ⟨xs, .inl (.inl (of_del h).1), rfl⟩, by rw [r.len]; exact q⟩
theorem r_lenO {l : List α} {R : Nat → Prop} (h : Own ns H p l) (q : R l.length) : ∃ x n, [V.ref p] = [x] ∧ LenV K x H n ∧ R n := by
  obtain ⟨xs, h, r⟩ := h
  exact ⟨_, _, rfl, .inl ⟨xs, .inl (.inl h), rfl⟩, by rw [r.len]; exact q⟩
theorem newL (l : Live ns H) (h : H p = none) {as : List α} (r : Ats (del ns H) xs as) : Fr ns H ns (upd H p (.lst xs)) ∧ At (del ns (upd H p (.lst xs))) (.ref p) as :=
  ⟨.new l h, p, xs, rfl, del_at upd_same (l.not h), r.same (del_same (same_new h))⟩
theorem newO (l : Live ns H) (h : H p = none) {as : List α} (r : Ats (del ns H) xs as) : Fr ns H (p :: ns) (upd H p (.lst xs)) ∧ Own (p :: ns) (upd H p (.lst xs)) p as :=
  ⟨.mkO l h (fun _ e => by cases e), xs, upd_same, r.same (Fr.mkO l h (fun _ e => by cases e)).same⟩
/-- a display of a list -/
theorem r_lstA {as : List α} (l : Live ns H) (r : Ats (del ns H) xs as) (hz : xs.length ≤ 100000) (q : ∀ p H', H p = none → Same H H' → At (del ns H') (.ref p) as → Q (.ref p) H') : NewL xs H Q :=
  ⟨sz hz, fun p hp => q p _ hp (same_new hp) (newL l hp r).2⟩
theorem r_lstO {as : List α} (l : Live ns H) (r : Ats (del ns H) xs as) (hz : xs.length ≤ 100000) (q : ∀ p H', H p = none → Same H H' → Fr ns H (p :: ns) H' → Own (p :: ns) H' p as → Q (.ref p) H') : NewL xs H Q :=
  ⟨sz hz, fun p hp => q p _ hp (same_new hp) (newO l hp r).1 (newO l hp r).2⟩
theorem r_tupA2 {ab : α × β} (l : Live ns H) (ha : At (del ns H) x ab.1) (hb : At (del ns H) y ab.2) (q : ∀ p H', H p = none → Same H H' → At (del ns H') (.ref p) ab → Q (.ref p) H') : NewT [x, y] H Q :=
  ⟨by show 2 ≤ sizeLine; decide, fun p hp => q p _ hp (same_new hp) ⟨p, x, y, rfl, del_at upd_same (l.not hp), Dat.same (del_same (same_new hp)) ha, Dat.same (del_same (same_new hp)) hb⟩⟩
theorem r_tupA3 {z : V} {ab : T3 α β γ} (l : Live ns H) (ha : At (del ns H) x ab.a) (hb : At (del ns H) y ab.b) (hc : At (del ns H) z ab.c) (q : ∀ p H', H p = none → Same H H' → At (del ns H') (.ref p) ab → Q (.ref p) H') : NewT [x, y, z] H Q :=
  ⟨by show 3 ≤ sizeLine; decide, fun p hp => q p _ hp (same_new hp) ⟨p, x, y, z, rfl, del_at upd_same (l.not hp), Dat.same (del_same (same_new hp)) ha, Dat.same (del_same (same_new hp)) hb, Dat.same (del_same (same_new hp)) hc⟩⟩
theorem r_tupA4 {z u : V} {ab : T4 α β γ δ} (l : Live ns H) (ha : At (del ns H) x ab.a) (hb : At (del ns H) y ab.b) (hc : At (del ns H) z ab.c) (hd : At (del ns H) u ab.d) (q : ∀ p H', H p = none → Same H H' → At (del ns H') (.ref p) ab → Q (.ref p) H') : NewT [x, y, z, u] H Q :=
  ⟨by show 4 ≤ sizeLine; decide, fun p hp => q p _ hp (same_new hp) ⟨p, x, y, z, u, rfl, del_at upd_same (l.not hp), Dat.same (del_same (same_new hp)) ha, Dat.same (del_same (same_new hp)) hb, Dat.same (del_same (same_new hp)) hc, Dat.same (del_same (same_new hp)) hd⟩⟩
/-- list(xs) -/
theorem r_listA {as : List α} (l : Live ns H) (h : At (del ns H) v as) (q : ∀ p H', H p = none → Same H H' → At (del ns H') (.ref p) as → Q (.ref p) H') : rListOf K [v] H Q := by
  obtain ⟨t, xs, rfl, h, r⟩ := h
  exact ⟨t, xs, rfl, .inl (.inl (.inl (of_del h).1)), fun p hp => q p _ hp (same_new hp) (newL l hp r).2⟩
theorem r_listO {as : List α} (l : Live ns H) (h : At (del ns H) v as) (q : ∀ p H', H p = none → Same H H' → Fr ns H (p :: ns) H' → Own (p :: ns) H' p as → Q (.ref p) H') : rListOf K [v] H Q := by
  obtain ⟨t, xs, rfl, h, r⟩ := h
  exact ⟨t, xs, rfl, .inl (.inl (.inl (of_del h).1)), fun p hp => q p _ hp (same_new hp) (newO l hp r).1 (newO l hp r).2⟩
theorem r_listOO {as : List α} (l : Live ns H) (h : Own ns H q as) (k : ∀ p H', H p = none → Same H H' → At (del ns H') (.ref p) as → Q (.ref p) H') : rListOf K [.ref q] H Q := by
  obtain ⟨xs, h, r⟩ := h
  exact ⟨q, xs, rfl, .inl (.inl (.inl h)), fun p hp => k p _ hp (same_new hp) (newL l hp r).2⟩
/-- xs + ys -/
theorem r_catA {as bs : List α} (l : Live ns H) (h : At (del ns H) x as) (g : At (del ns H) y bs) (hz : as.length + bs.length ≤ 100000) (q : ∀ p H', H p = none → Same H H' → At (del ns H') (.ref p) (as ++ bs) → Q (.ref p) H') : rCat x y H Q := by
  obtain ⟨t, xs, rfl, h, r⟩ := h
  obtain ⟨t', ys, rfl, h', r'⟩ := g
  exact ⟨t, t', xs, ys, rfl, rfl, (of_del h).1, (of_del h').1, sz (by rw [r.len, r'.len]; exact hz), fun p hp => q p _ hp (same_new hp) (newL l hp (r.app r')).2⟩
def cutL {α : Type} (xs : List α) (lo hi : Option Int) : List α := (xs.drop (HT.sIx xs.length 0 lo)).take (HT.sIx xs.length xs.length hi - HT.sIx xs.length 0 lo)
theorem cutL_from {α : Type} (l : List α) (k : Nat) : cutL l (some (k : Int)) none = l.drop k := by
  unfold cutL
  rw [HT.sIx_none, HT.sIx_nat]
  by_cases h : k ≤ l.length
  · rw [Nat.min_eq_left h, List.take_of_length_le (by rw [List.length_drop]; omega)]
  · rw [Nat.min_eq_right (by omega), List.drop_eq_nil_of_le (Nat.le_refl _), List.drop_eq_nil_of_le (by omega), List.take_nil]
theorem cutL_to {α : Type} (l : List α) (k : Nat) : cutL l none (some (k : Int)) = l.take k := by
  unfold cutL
  rw [HT.sIx_none, HT.sIx_nat, List.drop_zero, Nat.sub_zero]
  by_cases h : k ≤ l.length
  · rw [Nat.min_eq_left h]
  · rw [Nat.min_eq_right (by omega), List.take_of_length_le (Nat.le_refl _), List.take_of_length_le (by omega)]
theorem cutL_len {α : Type} (l : List α) (lo hi : Option Int) : (cutL l lo hi).length ≤ l.length := by
  unfold cutL
  rw [List.length_take, List.length_drop]
  omega
theorem cut_ats {as : List α} {lo hi : Option Int} (r : Ats H xs as) : Ats H (cutV xs lo hi) (cutL as lo hi) := by
  unfold cutV cutL
  rw [r.len]
  exact (r.drop _).take _
theorem r_slA {as : List α} {lo hi : Option Int} (l : Live ns H) (h : At (del ns H) v as) (q : ∀ p H', H p = none → Same H H' → At (del ns H') (.ref p) (cutL as lo hi) → Q (.ref p) H') : rSlL K v lo hi H Q := by
  obtain ⟨t, xs, rfl, h, r⟩ := h
  exact ⟨t, xs, rfl, .inl (.inl (of_del h).1), fun p hp => q p _ hp (same_new hp) (newL l hp (cut_ats r)).2⟩
theorem r_catO {as bs : List α} (l : Live ns H) (h : At (del ns H) x as) (g : At (del ns H) y bs) (hz : as.length + bs.length ≤ 100000) (q : ∀ p H', H p = none → Same H H' → Fr ns H (p :: ns) H' → Own (p :: ns) H' p (as ++ bs) → Q (.ref p) H') : rCat x y H Q := by
  obtain ⟨t, xs, rfl, h, r⟩ := h
  obtain ⟨t', ys, rfl, h', r'⟩ := g
  exact ⟨t, t', xs, ys, rfl, rfl, (of_del h).1, (of_del h').1, sz (by rw [r.len, r'.len]; exact hz), fun p hp => q p _ hp (same_new hp) (newO l hp (r.app r')).1 (newO l hp (r.app r')).2⟩
/-- xs[::-1] -/
theorem r_revA {as : List α} {v : V} (l : Live ns H) (h : At (del ns H) v as) (q : ∀ p H', H p = none → Same H H' → At (del ns H') (.ref p) as.reverse → Q (.ref p) H') : RevG K v H Q := by
  obtain ⟨t, xs, rfl, h, r⟩ := h
  exact ⟨t, xs, rfl, .inl (.inl (of_del h).1), fun p hp => q p _ hp (same_new hp) (newL l hp r.rev).2⟩
/-- changes of a list that may change -/
theorem r_appO {as : List α} (l : Live ns H) (m : p ∈ ns) (h : Own ns H p as) (g : At (del ns H) x a) (hz : as.length < 100000) (q : ∀ H', Fr ns H ns H' → But p H H' → Own ns H' p (as ++ [a]) → Q .non H') : rAppend (.ref p) [x] H Q := by
  obtain ⟨xs, h, r⟩ := h
  have f : Fr ns H ns (upd H p (.lst (xs ++ [x]))) := .put l m (fun _ e => by cases e)
  exact ⟨p, xs, x, rfl, rfl, h, szl (by rw [r.len]; exact hz), q _ f But.upd ⟨_, upd_same, f.ats (r.app (.one g))⟩⟩
theorem r_extO {as bs : List α} (l : Live ns H) (m : p ∈ ns) (h : Own ns H p as) (g : At (del ns H) x bs) (hz : as.length + bs.length ≤ 100000) (q : ∀ H', Fr ns H ns H' → But p H H' → Own ns H' p (as ++ bs) → Q .non H') : rExtend (.ref p) [x] H Q := by
  obtain ⟨xs, h, r⟩ := h
  obtain ⟨t, ys, rfl, h', r'⟩ := g
  have f : Fr ns H ns (upd H p (.lst (xs ++ ys))) := .put l m (fun _ e => by cases e)
  exact ⟨p, t, xs, ys, rfl, rfl, h, (of_del h').1, sz (by rw [r.len, r'.len]; exact hz), q _ f But.upd ⟨_, upd_same, f.ats (r.app r')⟩⟩
def insAt {α : Type} (l : List α) (i : Nat) (a : α) : List α := l.take i ++ [a] ++ l.drop i
theorem r_insO {as : List α} {i : Int} (l : Live ns H) (m : p ∈ ns) (h : Own ns H p as) (g : At (del ns H) x a) (hz : as.length < 100000) (i0 : 0 ≤ i) (i1 : i < 1000000) (k : ∀ H', Fr ns H ns H' → But p H H' → Own ns H' p (insAt as i.toNat a) → Q .non H') :
    rInsert (.ref p) [.int i, x] H Q := by
  obtain ⟨xs, h, r⟩ := h
  have f : Fr ns H ns (upd H p (.lst (xs.take i.toNat ++ [x] ++ xs.drop i.toNat))) := .put l m (fun _ e => by cases e)
  exact ⟨p, xs, i, x, rfl, rfl, h, szl (by rw [r.len]; exact hz), i0, by omega, k _ f But.upd ⟨_, upd_same, f.ats (((r.take _).app (.one g)).app (r.drop _))⟩⟩
theorem at_of_wos {l : List Wo} {ys : List V} (lv : Live ns H) (n : p ∉ ns) (e : H p = some (.lst ys)) (w : Wos H ys l) : At (del ns H) (.ref p) l := ⟨p, ys, rfl, del_at e n, Ats.out lv (ats_wos.mpr w)⟩
theorem Own.tyL {R : Prop} {as : List α} (h : Own ns H p as) (q : R) : tyV K "list" (.ref p) H ∧ R := by
  obtain ⟨xs, h, r⟩ := h
  exact ⟨.inl ⟨rfl, _, .inl (.inl h)⟩, q⟩
theorem at_tyL {R : Prop} {as : List α} (h : At (del ns H) v as) (q : R) : tyV K "list" v H ∧ R := by
  obtain ⟨t, xs, rfl, h, r⟩ := h
  exact ⟨.inl ⟨rfl, _, .inl (.inl (of_del h).1)⟩, q⟩
theorem Own.but {as : List α} (f : Fr ns H ns H') (b : But q H H') (n : p ≠ q) (h : Own ns H p as) : Own ns H' p as := by
  obtain ⟨xs, h, r⟩ := h
  exact ⟨xs, b _ _ h n, f.ats r⟩
theorem Own.fr {as : List α} (f : Fr ns H ms H') (e : ∀ o, H p = some o → H' p = some o) (h : Own ns H p as) : Own ms H' p as := by
  obtain ⟨xs, h, r⟩ := h
  exact ⟨xs, e _ h, f.ats r⟩
theorem Own.lv {as : List α} (h : Own ns H p as) : Lv H p := .lst h.choose_spec.1
/-- it changes no more -/
theorem Own.shut {as : List α} (h : Own (p :: ns) H p as) (n : p ∉ ns) : At (del ns H) (.ref p) as := by
  obtain ⟨xs, h, r⟩ := h
  exact ⟨p, xs, rfl, del_at h n, r.same del_less⟩
/-- it may change from now on: what else stands must stand elsewhere -/
theorem ty_listA {as : List α} (h : At (del ns H) v as) : TyX K H v (.type "list") := by
  obtain ⟨t, xs, rfl, h, r⟩ := h
  exact ty_lst (of_del h).1
theorem ty_tupA2 {ab : α × β} (h : At (del ns H) v ab) : TyX K H v (.type "tuple") := by
  obtain ⟨t, x, y, rfl, h, r⟩ := h
  exact ty_tup (of_del h).1
/-! loops over data -/
theorem LA {l : List α} {σ : L2.St} {g : TG} {tb : TS} {nx : L2.St → Hp → Prop} {rt : VK} (h : At (del ns H) v l) (Pv : Nat → L2.St → Hp → Prop) (h0 : Pv 0 σ H) (hF : ∀ i σ H', i ≤ l.length → Pv i σ H' → Fr ns H ms H')
    (hs : ∀ i b x σ H', l[i]? = some b → At (del ms H') x b → Pv i σ H' → g x σ H' fun σ2 H2 => tb ⟨Pv (i + 1), rt, nx, Pv (i + 1)⟩ σ2 H2) (hd : ∀ σ H', Pv l.length σ H' → nx σ H') :
    ∃ a, v = .ref a ∧ (∃ xs, SqL K H a xs) ∧ ForL (Itl K a) g tb nx rt σ H := by
  obtain ⟨t, xs, rfl, h, r⟩ := h
  have sq : ∀ i σ H', i ≤ xs.length → Pv i σ H' → SqL K H' t xs := fun i σ H' hi hp => .inl (.inl (of_del ((hF i σ H' (by rw [← r.len]; exact hi) hp).same _ _ h)).1)
  refine ⟨t, rfl, ⟨xs, .inl (.inl (of_del h).1)⟩, L_list Pv h0 sq (fun i x σ H' hx hp => ?_) (by rw [r.len]; exact hd)⟩
  obtain ⟨b, eb, hb⟩ := r.get hx
  have hi : i < l.length := (List.getElem?_eq_some_iff.mp eb).1
  exact hs i b x σ H' eb ((hF i σ H' (Nat.le_of_lt hi) hp).at_ hb) hp
/-! comprehensions over data -/
structure CInv (ns : List Addr) (H : Hp) (E : Nat → Hp → Prop) (R : Nat → List γ → Prop) (D : Addr) (i : Nat) (zs : List γ) (H1 : Hp) : Prop where
  D0 : H D = none
  own : Own (D :: ns) H1 D zs
  r : R i zs
  len : zs.length ≤ i
  fr : Fr ns H (D :: ns) H1
  ex : E i H1
  out : D ∉ ns
def CPv (ns : List Addr) (H : Hp) (E : Nat → Hp → Prop) (R : Nat → List γ → Prop) (D : Addr) (i : Nat) (H1 : Hp) : Prop := ∃ zs, CInv ns H E R D i zs H1
section
variable {E : Nat → Hp → Prop} {R : Nat → List γ → Prop} {D : Addr} {i : Nat} {zs : List γ} {c : γ}
/-- with what has been made so far as what may change -/
theorem CInv.lv (k : CInv ns H E R D i zs H1) : Live (D :: ns) H1 := k.fr.live
theorem CInv.step (k : CInv ns H E R D i zs H1) (f : Fr ns H1 ns H2) : Fr (D :: ns) H1 (D :: ns) H2 := f.mono k.lv fun _ m => List.mem_cons_of_mem _ m
theorem CInv.put (k : CInv ns H E R D i zs H1) (f : Fr ns H1 ns H2) (e : E (i + 1) H2) (a : At (del (D :: ns) H2) y c) (r : R (i + 1) (zs ++ [c])) (hi : i < 100000) (est : ∀ o, E (i + 1) H2 → E (i + 1) (upd H2 D o)) :
    ∃ acc, H2 D = some (.lst acc) ∧ acc.length < sizeLine ∧ CPv ns H E R D (i + 1) (upd H2 D (.lst (acc ++ [y]))) := by
  obtain ⟨ys, ey, ry⟩ := k.own
  have g := k.step f
  have eD : H2 D = some (.lst ys) := f.keep ey k.out
  have p : Fr (D :: ns) H2 (D :: ns) (upd H2 D (.lst (ys ++ [y]))) := .put g.live List.mem_cons_self (fun _ e => by cases e)
  have hl := k.len
  refine ⟨ys, eD, szl (by rw [ry.len]; omega), zs ++ [c], k.D0, ⟨_, upd_same, p.ats ((g.ats ry).app (.one a))⟩, r, by rw [List.length_append, List.length_singleton]; omega, (k.fr.trans g).trans p, est _ e, k.out⟩
theorem CInv.skip (k : CInv ns H E R D i zs H1) (f : Fr ns H1 ns H2) (e : E (i + 1) H2) (r : R (i + 1) zs) : CPv ns H E R D (i + 1) H2 := by
  have g := k.step f
  obtain ⟨ys, ey, ry⟩ := k.own
  exact ⟨zs, k.D0, ⟨ys, f.keep ey k.out, g.ats ry⟩, r, Nat.le_succ_of_le k.len, k.fr.trans g, e, k.out⟩
theorem CA_core {J : It} {n : Nat} {Gd : Hp → Prop} {Y : Nat → Hp → V → Hp → Prop} (w : L2.Walk J n Gd Y) {g : TG} {tt : TT} {te : TE} {vs : List Nat} {σ : L2.St} (lv : Live ns H)
    (E : Nat → Hp → Prop) (R : Nat → List γ → Prop) (r0 : R 0 []) (e0 : E 0 H) (est : ∀ i D o H', H D = none → D ∉ ns → E i H' → E i (upd H' D o))
    (hG : ∀ D H', Fr ns H (D :: ns) H' → Gd H')
    (hs : ∀ D i x zs H1 H', i < n → CInv ns H E R D i zs H1 → Y i H1 x H' → g x (wipe σ vs) H' fun σ2 H2 => wipe σ2 vs = wipe σ vs ∧ tt σ2 H2 fun b H3 =>
      if b = true then te σ2 H3 fun y H4 => ∃ acc, H4 D = some (.lst acc) ∧ acc.length < sizeLine ∧ CPv ns H E R D (i + 1) (upd H4 D (.lst (acc ++ [y]))) else CPv ns H E R D (i + 1) H3)
    (hd : ∀ D H' zs, H D = none → Fr ns H ns H' → E n H' → R n zs → zs.length ≤ n → At (del ns H') (.ref D) zs → Q (.ref D) H') : LcL J g tt te vs σ H Q := by
  refine C_it w (CPv ns H E R) (fun D hD => ⟨[], hD, ⟨[], upd_same, .nil⟩, r0, Nat.le_refl _, .mkO lv hD (fun _ e => by cases e), est _ _ _ _ hD (lv.not hD) e0, lv.not hD⟩) (fun D i H' _ ⟨zs, k⟩ => hG D H' k.fr) ?_ ?_
  · rintro D i x H1 H' hi ⟨zs, k⟩ hy
    exact hs D i x zs H1 H' hi k hy
  · rintro D H' hD ⟨zs, k⟩
    exact hd D H' zs hD (k.fr.trans (.drop k.lv)) k.ex k.r k.len (k.own.shut k.out)
end
/-- the same, the list may change from now on -/
theorem CO_core {J : It} {n : Nat} {Gd : Hp → Prop} {Y : Nat → Hp → V → Hp → Prop} (w : L2.Walk J n Gd Y) {g : TG} {tt : TT} {te : TE} {vs : List Nat} {σ : L2.St} (lv : Live ns H)
    (E : Nat → Hp → Prop) (R : Nat → List γ → Prop) (r0 : R 0 []) (e0 : E 0 H) (est : ∀ i D o H', H D = none → D ∉ ns → E i H' → E i (upd H' D o))
    (hG : ∀ D H', Fr ns H (D :: ns) H' → Gd H')
    (hs : ∀ D i x zs H1 H', i < n → CInv ns H E R D i zs H1 → Y i H1 x H' → g x (wipe σ vs) H' fun σ2 H2 => wipe σ2 vs = wipe σ vs ∧ tt σ2 H2 fun b H3 =>
      if b = true then te σ2 H3 fun y H4 => ∃ acc, H4 D = some (.lst acc) ∧ acc.length < sizeLine ∧ CPv ns H E R D (i + 1) (upd H4 D (.lst (acc ++ [y]))) else CPv ns H E R D (i + 1) H3)
    (hd : ∀ D H' zs, CInv ns H E R D n zs H' → Q (.ref D) H') : LcL J g tt te vs σ H Q := by
  refine C_it w (CPv ns H E R) (fun D hD => ⟨[], hD, ⟨[], upd_same, .nil⟩, r0, Nat.le_refl _, .mkO lv hD (fun _ e => by cases e), est _ _ _ _ hD (lv.not hD) e0, lv.not hD⟩) (fun D i H' _ ⟨zs, k⟩ => hG D H' k.fr) ?_ ?_
  · rintro D i x H1 H' hi ⟨zs, k⟩ hy
    exact hs D i x zs H1 H' hi k hy
  · rintro D H' hD ⟨zs, k⟩
    exact hd D H' zs k
/-- [.. for x in l], l data -/
theorem CA {l : List β} {g : TG} {tt : TT} {te : TE} {vs : List Nat} {σ : L2.St} (lv : Live ns H) (h : At (del ns H) v l)
    (E : Nat → Hp → Prop) (R : Nat → List γ → Prop) (r0 : R 0 []) (e0 : E 0 H) (est : ∀ i D o H', H D = none → D ∉ ns → E i H' → E i (upd H' D o))
    (hs : ∀ D i x b zs H1, l[i]? = some b → CInv ns H E R D i zs H1 → At (del (D :: ns) H1) x b → g x (wipe σ vs) H1 fun σ2 H2 => wipe σ2 vs = wipe σ vs ∧ tt σ2 H2 fun b H3 =>
      if b = true then te σ2 H3 fun y H4 => ∃ acc, H4 D = some (.lst acc) ∧ acc.length < sizeLine ∧ CPv ns H E R D (i + 1) (upd H4 D (.lst (acc ++ [y]))) else CPv ns H E R D (i + 1) H3)
    (hd : ∀ D H' zs, H D = none → Fr ns H ns H' → E l.length H' → R l.length zs → zs.length ≤ l.length → At (del ns H') (.ref D) zs → Q (.ref D) H') :
    ∃ a, v = .ref a ∧ (∃ xs, SqL K H a xs) ∧ LcL (Itl K a) g tt te vs σ H Q := by
  obtain ⟨t, xs, rfl, h, r⟩ := h
  refine ⟨t, rfl, ⟨xs, .inl (.inl (of_del h).1)⟩, CA_core (walk_list (K := K) (a := t) (xs := xs)) lv E R r0 e0 est (fun D H' f => .inl (.inl (of_del (f.same _ _ h)).1)) ?_ (by rw [r.len]; exact hd)⟩
  rintro D i x zs H1 H' hi k ⟨rfl, ex⟩
  obtain ⟨b, eb, hb⟩ := r.get ex
  exact hs D i x b zs H' eb k (k.fr.at_ hb)
/-- [.. for k in range(n)] -/
theorem CR {lo : Int} {n : Nat} {g : TG} {tt : TT} {te : TE} {vs : List Nat} {σ : L2.St} (lv : Live ns H)
    (E : Nat → Hp → Prop) (R : Nat → List γ → Prop) (r0 : R 0 []) (e0 : E 0 H) (est : ∀ i D o H', H D = none → D ∉ ns → E i H' → E i (upd H' D o))
    (hs : ∀ D i zs H1, i < n → CInv ns H E R D i zs H1 → g (.int (lo + i)) (wipe σ vs) H1 fun σ2 H2 => wipe σ2 vs = wipe σ vs ∧ tt σ2 H2 fun b H3 =>
      if b = true then te σ2 H3 fun y H4 => ∃ acc, H4 D = some (.lst acc) ∧ acc.length < sizeLine ∧ CPv ns H E R D (i + 1) (upd H4 D (.lst (acc ++ [y]))) else CPv ns H E R D (i + 1) H3)
    (hd : ∀ D H' zs, H D = none → Fr ns H ns H' → E n H' → R n zs → zs.length ≤ n → At (del ns H') (.ref D) zs → Q (.ref D) H') : LcL (Itr lo n) g tt te vs σ H Q := by
  refine CA_core (walk_range (lo := lo) (n := n)) lv E R r0 e0 est (fun _ _ _ => trivial) ?_ hd
  rintro D i x zs H1 H' hi k ⟨rfl, rfl⟩
  exact hs D i zs H' hi k
theorem CRo {lo : Int} {n : Nat} {g : TG} {tt : TT} {te : TE} {vs : List Nat} {σ : L2.St} (lv : Live ns H)
    (E : Nat → Hp → Prop) (R : Nat → List γ → Prop) (r0 : R 0 []) (e0 : E 0 H) (est : ∀ i D o H', H D = none → D ∉ ns → E i H' → E i (upd H' D o))
    (hs : ∀ D i zs H1, i < n → CInv ns H E R D i zs H1 → g (.int (lo + i)) (wipe σ vs) H1 fun σ2 H2 => wipe σ2 vs = wipe σ vs ∧ tt σ2 H2 fun b H3 =>
      if b = true then te σ2 H3 fun y H4 => ∃ acc, H4 D = some (.lst acc) ∧ acc.length < sizeLine ∧ CPv ns H E R D (i + 1) (upd H4 D (.lst (acc ++ [y]))) else CPv ns H E R D (i + 1) H3)
    (hd : ∀ D H' zs, CInv ns H E R D n zs H' → Q (.ref D) H') : LcL (Itr lo n) g tt te vs σ H Q := by
  refine CO_core (walk_range (lo := lo) (n := n)) lv E R r0 e0 est (fun _ _ _ => trivial) ?_ hd
  rintro D i x zs H1 H' hi k ⟨rfl, rfl⟩
  exact hs D i zs H' hi k
/-- the same where nothing that stood is changed: [f b for b in l if ..] -/
abbrev CMI (ns : List Addr) (H : Hp) (l : List β) (f : β → Option γ) : Addr → Nat → List γ → Hp → Prop := CInv ns H (fun _ H' => Same H H') (fun i zs => zs = (l.take i).filterMap f)
abbrev CMP (ns : List Addr) (H : Hp) (l : List β) (f : β → Option γ) : Addr → Nat → Hp → Prop := CPv ns H (fun _ H' => Same H H') (fun i zs => zs = (l.take i).filterMap f)
section
variable {l : List β} {f : β → Option γ} {D : Addr} {i : Nat} {zs : List γ} {c : γ} {b : β}
theorem CInv.mput (k : CMI ns H l f D i zs H1) (eb : l[i]? = some b) (ef : f b = some c) (s : Same H1 H2) (a : At (del (D :: ns) H2) y c) (hl : l.length ≤ 100000 := by omega) :
    ∃ acc, H2 D = some (.lst acc) ∧ acc.length < sizeLine ∧ CMP ns H l f D (i + 1) (upd H2 D (.lst (acc ++ [y]))) := by
  have hi : i < l.length := (List.getElem?_eq_some_iff.mp eb).1
  have r := k.r
  exact k.put (.of (k.lv.sub fun _ m => List.mem_cons_of_mem _ m) s) (Same.trans k.ex s) a (by rw [List.take_add_one, eb, r]; simp [ef]) (by omega) fun o e => Same.own e k.D0
theorem CInv.mskip (k : CMI ns H l f D i zs H1) (eb : l[i]? = some b) (ef : f b = none) (s : Same H1 H2) : CMP ns H l f D (i + 1) H2 := by
  have r := k.r
  exact k.skip (.of (k.lv.sub fun _ m => List.mem_cons_of_mem _ m) s) (Same.trans k.ex s) (by rw [List.take_add_one, eb, r]; simp [ef])
end
theorem CM {l : List β} {g : TG} {tt : TT} {te : TE} {vs : List Nat} {σ : L2.St} (f : β → Option γ) (lv : Live ns H) (h : At (del ns H) v l)
    (hs : ∀ D i x b zs H1, l[i]? = some b → CMI ns H l f D i zs H1 → At (del (D :: ns) H1) x b → g x (wipe σ vs) H1 fun σ2 H2 => wipe σ2 vs = wipe σ vs ∧ tt σ2 H2 fun b H3 =>
      if b = true then te σ2 H3 fun y H4 => ∃ acc, H4 D = some (.lst acc) ∧ acc.length < sizeLine ∧ CMP ns H l f D (i + 1) (upd H4 D (.lst (acc ++ [y]))) else CMP ns H l f D (i + 1) H3)
    (hd : ∀ D H', H D = none → Same H H' → At (del ns H') (.ref D) (l.filterMap f) → Q (.ref D) H') :
    ∃ a, v = .ref a ∧ (∃ xs, SqL K H a xs) ∧ LcL (Itl K a) g tt te vs σ H Q :=
  CA lv h _ _ rfl (Same.refl _) (fun _ D o H' hD _ e => Same.own e hD) hs fun D H' zs hD f' e r _ a => hd D H' hD e (by rw [← List.take_length (l := l), ← r]; exact a)
/-- [.. for b, c in zip(l, m)] -/
theorem CZ {ζ : Type} [Dat ζ] {l : List β} {m : List γ} {g : TG} {tt : TT} {te : TE} {vs : List Nat} {σ : L2.St} {u : V} (f : β × γ → Option ζ) (lv : Live ns H) (h : At (del ns H) v l) (h' : At (del ns H) u m)
    (hs : ∀ D i x b zs H1, (l.zip m)[i]? = some b → CMI ns H (l.zip m) f D i zs H1 → At (del (D :: ns) H1) x b → g x (wipe σ vs) H1 fun σ2 H2 => wipe σ2 vs = wipe σ vs ∧ tt σ2 H2 fun b H3 =>
      if b = true then te σ2 H3 fun y H4 => ∃ acc, H4 D = some (.lst acc) ∧ acc.length < sizeLine ∧ CMP ns H (l.zip m) f D (i + 1) (upd H4 D (.lst (acc ++ [y]))) else CMP ns H (l.zip m) f D (i + 1) H3)
    (hd : ∀ D H', H D = none → Same H H' → At (del ns H') (.ref D) ((l.zip m).filterMap f) → Q (.ref D) H') :
    ∃ a b xs ys, [v, u] = [.ref a, .ref b] ∧ SqL K H a xs ∧ SqL K H b ys ∧ LcL (Itz K a b) g tt te vs σ H Q := by
  obtain ⟨t, xs, rfl, h, r⟩ := h
  obtain ⟨t', ys, rfl, h', r'⟩ := h'
  refine ⟨t, t', xs, ys, rfl, .inl (.inl (of_del h).1), .inl (.inl (of_del h').1), CA_core (walk_zip (K := K) (a := t) (b := t') (n := (l.zip m).length) (by rw [List.length_zip, r.len, r'.len])) lv (fun _ H' => Same H H') (fun i zs => zs = ((l.zip m).take i).filterMap f) rfl (Same.refl _) (fun _ D o H' hD _ e => Same.own e hD) (fun D H' f => ⟨.inl (.inl (of_del (f.same _ _ h)).1), .inl (.inl (of_del (f.same _ _ h')).1)⟩) ?_ fun D H' zs hD f' e r _ a => hd D H' hD e (by rw [← List.take_length (l := l.zip m), ← r]; exact a)⟩
  rintro D i _ zs H1 H' hi k ⟨T, x, y, rfl, hT, rfl, ex, ey⟩
  obtain ⟨b, eb, hb⟩ := (r.same k.fr.same).get ex
  obtain ⟨c, ec, hc⟩ := (r'.same k.fr.same).get ey
  have s := same_new (o := .tup [x, y]) hT
  have lD : Live (D :: ns) H1 := k.lv
  obtain ⟨zy, ezy, rz⟩ := k.own
  refine hs D i _ (b, c) zs _ (List.getElem?_zip_eq_some.mpr ⟨eb, ec⟩) ⟨k.D0, ⟨zy, s _ _ ezy, rz.same (del_same s)⟩, k.r, k.len, k.fr.trans (.of lD s), Same.trans k.ex s, k.out⟩ ?_
  exact ⟨T, x, y, rfl, del_at upd_same (lD.not hT), Dat.same (del_same s) hb, Dat.same (del_same s) hc⟩
instance : Dat Bool where
  At := fun _ v a => v = .bl a
  enc := .bool
  dep := 0
  same := fun _ h => h
  dp := fun h => h ▸ .bl _
  lay := fun _ => ⟨by simp [PyData.canLay0], by simp [PyData.depth]⟩
  inj := fun {_ _ _ _ a b} _ _ e => by cases a <;> cases b <;> simp_all [PyData.eqv]
theorem at_bl {H : Hp} {b : Bool} : At H (.bl b) b := rfl
theorem ats_bool {H : Hp} : ∀ {xs : List V} {l : List Bool}, Ats H xs l → xs = l.map V.bl
  | _, _, .nil => rfl
  | _, _, .cons a r => by rw [show _ = V.bl _ from a, ats_bool r]; rfl
theorem ats_int {H : Hp} : ∀ {xs : List V} {l : List Int}, Ats H xs l → xs = l.map V.int
  | _, _, .nil => rfl
  | _, _, .cons a r => by rw [show _ = V.int _ from a, ats_int r]; rfl
theorem ats_str {H : Hp} : ∀ {xs : List V} {l : List Str}, Ats H xs l → xs = l.map V.str
  | _, _, .nil => rfl
  | _, _, .cons a r => by rw [show _ = V.str _ from a.1, ats_str r]; rfl
theorem ats_of_str {H : Hp} : ∀ {l : List Str}, (∀ s ∈ l, PyData.strOk s = true) → Ats H (l.map V.str) l
  | [], _ => .nil
  | _ :: _, h => .cons ⟨rfl, h _ List.mem_cons_self⟩ (ats_of_str fun s m => h s (List.mem_cons_of_mem _ m))
theorem ats_of_int {H : Hp} : ∀ {l : List Int}, Ats H (l.map V.int) l
  | [] => .nil
  | _ :: _ => .cons rfl ats_of_int
instance : Dat Nat where
  At := fun _ v a => v = .int (a : Int)
  enc := fun a => .int (a : Int)
  dep := 0
  same := fun _ h => h
  dp := fun h => h ▸ .int _
  lay := fun _ => .int _
  inj := fun _ _ e => by
    simp [PyData.eqv] at e
    omega
theorem r_allA {l : List Bool} (h : At (del ns H) v l) (q : Q (.bl (l.all id)) H) : rAll K [v] H Q := by
  obtain ⟨p, xs, rfl, ep, rx⟩ := h
  exact ⟨p, l, rfl, .inl (.inl (by rw [← ats_bool rx]; exact (of_del ep).1)), q⟩
theorem r_anyA {l : List Bool} (h : At (del ns H) v l) (q : Q (.bl (l.any id)) H) : rAny K [v] H Q := by
  obtain ⟨p, xs, rfl, ep, rx⟩ := h
  exact ⟨p, l, rfl, .inl (.inl (by rw [← ats_bool rx]; exact (of_del ep).1)), q⟩
/-- [.. for sign in text] -/
theorem CS {z : Str} {g : TG} {tt : TT} {te : TE} {vs : List Nat} {σ : L2.St} (f : Nat → Option γ) (lv : Live ns H)
    (hs : ∀ D i b zs H1, z.cps.toList[i]? = some b → CMI ns H z.cps.toList f D i zs H1 → g (.str ⟨#[b]⟩) (wipe σ vs) H1 fun σ2 H2 => wipe σ2 vs = wipe σ vs ∧ tt σ2 H2 fun b H3 =>
      if b = true then te σ2 H3 fun y H4 => ∃ acc, H4 D = some (.lst acc) ∧ acc.length < sizeLine ∧ CMP ns H z.cps.toList f D (i + 1) (upd H4 D (.lst (acc ++ [y]))) else CMP ns H z.cps.toList f D (i + 1) H3)
    (hd : ∀ D H', H D = none → Same H H' → At (del ns H') (.ref D) (z.cps.toList.filterMap f) → Q (.ref D) H') : LcL (Its z) g tt te vs σ H Q := by
  refine CA_core (walk_str (z := z)) lv (fun _ H' => Same H H') (fun i zs => zs = (z.cps.toList.take i).filterMap f) rfl (Same.refl _) (fun _ D o H' hD _ e => Same.own e hD) (fun _ _ _ => trivial) ?_ fun D H' zs hD f' e r _ a => hd D H' hD e (by rw [← List.take_length (l := z.cps.toList), Array.length_toList, ← r]; exact a)
  rintro D i x zs H1 H' hi k ⟨rfl, c, ec, rfl⟩
  exact hs D i c zs H' (by rw [Array.getElem?_toList]; exact ec) k
/-- [f k for k in range(n) if ..] where nothing that stood is changed -/
abbrev CRI (ns : List Addr) (H : Hp) (f : Nat → Option γ) : Addr → Nat → List γ → Hp → Prop := CInv ns H (fun _ H' => Same H H') (fun i zs => zs = (List.range i).filterMap f)
abbrev CRP (ns : List Addr) (H : Hp) (f : Nat → Option γ) : Addr → Nat → Hp → Prop := CPv ns H (fun _ H' => Same H H') (fun i zs => zs = (List.range i).filterMap f)
section
variable {f : Nat → Option γ} {D : Addr} {i : Nat} {zs : List γ} {c : γ}
theorem CInv.rput (k : CRI ns H f D i zs H1) (ef : f i = some c) (s : Same H1 H2) (a : At (del (D :: ns) H2) y c) (hl : i < 100000 := by omega) :
    ∃ acc, H2 D = some (.lst acc) ∧ acc.length < sizeLine ∧ CRP ns H f D (i + 1) (upd H2 D (.lst (acc ++ [y]))) := by
  have r := k.r
  exact k.put (.of (k.lv.sub fun _ m => List.mem_cons_of_mem _ m) s) (Same.trans k.ex s) a (by rw [List.range_succ, r]; simp [ef]) hl fun o e => Same.own e k.D0
theorem CInv.rskip (k : CRI ns H f D i zs H1) (ef : f i = none) (s : Same H1 H2) : CRP ns H f D (i + 1) H2 := by
  have r := k.r
  exact k.skip (.of (k.lv.sub fun _ m => List.mem_cons_of_mem _ m) s) (Same.trans k.ex s) (by rw [List.range_succ, r]; simp [ef])
end
theorem CRM {lo : Int} {n : Nat} {g : TG} {tt : TT} {te : TE} {vs : List Nat} {σ : L2.St} (f : Nat → Option γ) (lv : Live ns H)
    (hs : ∀ D i zs H1, i < n → CRI ns H f D i zs H1 → g (.int (lo + i)) (wipe σ vs) H1 fun σ2 H2 => wipe σ2 vs = wipe σ vs ∧ tt σ2 H2 fun b H3 =>
      if b = true then te σ2 H3 fun y H4 => ∃ acc, H4 D = some (.lst acc) ∧ acc.length < sizeLine ∧ CRP ns H f D (i + 1) (upd H4 D (.lst (acc ++ [y]))) else CRP ns H f D (i + 1) H3)
    (hd : ∀ D H', H D = none → Same H H' → At (del ns H') (.ref D) ((List.range n).filterMap f) → Q (.ref D) H') : LcL (Itr lo n) g tt te vs σ H Q :=
  CR lv _ _ rfl (Same.refl _) (fun _ D o H' hD _ e => Same.own e hD) hs fun D H' zs hD f' e r _ a => hd D H' hD e (by rw [← r]; exact a)
theorem r_catOA {as bs : List α} (l : Live ns H) (h : Own ns H q as) (g : At (del ns H) y bs) (hz : as.length + bs.length ≤ 100000) (k : ∀ p H', H p = none → Same H H' → At (del ns H') (.ref p) (as ++ bs) → Q (.ref p) H') : rCat (.ref q) y H Q := by
  obtain ⟨xs, h, r⟩ := h
  obtain ⟨t', ys, rfl, h', r'⟩ := g
  exact ⟨q, t', xs, ys, rfl, rfl, h, (of_del h').1, sz (by rw [r.len, r'.len]; exact hz), fun p hp => k p _ hp (same_new hp) (newL l hp (r.app r')).2⟩
/-- for .. in zip(l, m) -/
theorem LZ {l : List α} {m : List β} {u : V} {σ : L2.St} {g : TG} {tb : TS} {nx : L2.St → Hp → Prop} {rt : VK} (h : At (del ns H) v l) (h' : At (del ns H) u m) (Pv : Nat → L2.St → Hp → Prop) (h0 : Pv 0 σ H) (hF : ∀ i σ H', i ≤ (l.zip m).length → Pv i σ H' → Fr ns H ms H')
    (hs : ∀ i b x σ H', (l.zip m)[i]? = some b → At (del ms H') x b → Pv i σ H' → g x σ H' fun σ2 H2 => tb ⟨Pv (i + 1), rt, nx, Pv (i + 1)⟩ σ2 H2) (hd : ∀ σ H', Pv (l.zip m).length σ H' → nx σ H')
    (hk : ∀ i σ H' H2, Pv i σ H' → Same H' H2 → Pv i σ H2 := by (rintro i σ H' H2 ⟨u3, u4, rfl, s5, al⟩ s; exact ⟨_, _, rfl, s5.trans s, al⟩)) :
    ∃ a b xs ys, [v, u] = [.ref a, .ref b] ∧ SqL K H a xs ∧ SqL K H b ys ∧ ForL (Itz K a b) g tb nx rt σ H := by
  obtain ⟨t, xs, rfl, h, r⟩ := h
  obtain ⟨t', ys, rfl, h', r'⟩ := h'
  refine ⟨t, t', xs, ys, rfl, .inl (.inl (of_del h).1), .inl (.inl (of_del h').1), L_it (walk_zip (K := K) (a := t) (b := t') (n := (l.zip m).length) (by rw [List.length_zip, r.len, r'.len])) Pv h0 (fun i σ H' hi hp => ⟨.inl (.inl (of_del ((hF i σ H' hi hp).same _ _ h)).1), .inl (.inl (of_del ((hF i σ H' hi hp).same _ _ h')).1)⟩) ?_ hd⟩
  rintro i _ σ H1 H' hi hp ⟨T, x, y, rfl, hT, rfl, ex, ey⟩
  have f := hF i σ H1 (Nat.le_of_lt hi) hp
  obtain ⟨b, eb, hb⟩ := (r.same f.same).get ex
  obtain ⟨c, ec, hc⟩ := (r'.same f.same).get ey
  have s := same_new (o := .tup [x, y]) hT
  exact hs i (b, c) _ σ _ (List.getElem?_zip_eq_some.mpr ⟨eb, ec⟩) ⟨T, x, y, rfl, del_at upd_same (f.live.not hT), Dat.same (del_same s) hb, Dat.same (del_same s) hc⟩ (hk i σ H1 _ hp s)
/-- xs * k -/
theorem r_repA {as : List α} {k : Int} (l : Live ns H) (h : At (del ns H) v as) (k0 : -1000 ≤ k) (k1 : k ≤ 1000) (hl : as.length ≤ 10000) (q : ∀ p H', H p = none → Same H H' → At (del ns H') (.ref p) (List.replicate k.toNat as).flatten → Q (.ref p) H') : rRep v (.int k) H Q := by
  obtain ⟨t, xs, rfl, h, r⟩ := h
  refine ⟨t, k, xs, rfl, rfl, (of_del h).1, by omega, by omega, ?_, fun p hp => q p _ hp (same_new hp) (newL l hp (r.rep _)).2⟩
  rw [r.len, show sizeLine = 16777216 from rfl]
  have := Nat.mul_le_mul hl (show k.toNat ≤ 1000 by omega)
  omega
end
end G
namespace G
open PySem L2 TL
open Dat (At enc)
section
variable {α : Type} [Dat α] {H : Hp} {ns : List Addr} {p : Addr} {a : α} {Q : VK}
/-- a list of what never changes may change from now on -/
theorem Own.of_at [Imm α] {l : List α} (lv : Live (p :: ns) H) (h : At (del ns H) (.ref p) l) : Own (p :: ns) H p l := by
  obtain ⟨t, xs, e, h, r⟩ := h
  cases e
  exact ⟨xs, (of_del h).1, (r.same del_sub).out lv⟩
theorem at_lv {l : List α} (h : At (del ns H) (.ref p) l) : Lv H p := by
  obtain ⟨t, xs, e, h, r⟩ := h
  cases e
  exact .lst (of_del h).1
theorem Own.at_ {l : List α} (h : Own ns H p l) : At H (.ref p) l := by
  obtain ⟨xs, e, r⟩ := h
  exact ⟨p, xs, rfl, e, r.same del_sub⟩
theorem r_popO {as : List α} (l : Live ns H) (m : p ∈ ns) (h : Own ns H p (as ++ [a])) (q : ∀ y H', Fr ns H ns H' → But p H H' → At (del ns H') y a → Own ns H' p as → Q y H') : rPop (.ref p) [] H Q := by
  obtain ⟨xs, e, r⟩ := h
  have lx := r.len
  rw [List.length_append, List.length_singleton] at lx
  obtain ⟨y, ey, hy⟩ := r.get' (i := as.length) (a := a) (by rw [List.getElem?_append_right (Nat.le_refl _), Nat.sub_self]; rfl)
  have f : Fr ns H ns (upd H p (.lst xs.dropLast)) := .put l m (fun _ e => by cases e)
  refine ⟨p, xs, y, rfl, rfl, e, by rw [lx, Nat.add_sub_cancel]; exact ey, q y _ f But.upd (f.at_ hy) ⟨_, upd_same, ?_⟩⟩
  have := r.take as.length
  rw [List.take_left] at this
  have e2 : xs.dropLast = xs.take as.length := by rw [List.dropLast_eq_take, lx, Nat.add_sub_cancel]
  have g : Ats (del ns H) xs.dropLast as := by
    rw [e2]
    exact this
  exact f.ats g
end
end G

namespace G
open PySem PySem.Spec PyProof.Rows L2
/-! ### xs[lo::2] -/
def tStepL (K : PySem.W.Frag) (te : TE) (tl : TO) : TE := fun σ H Q => te σ H fun x H1 => tl σ H1 fun _ H2 => ∃ a xs, x = .ref a ∧ SqL K H2 a xs ∧ ∀ p ys, (∀ y ∈ ys, y ∈ xs) → ys.length ≤ xs.length → H2 p = none → Q (.ref p) (upd H2 p (.lst ys))
theorem vals_pick {xs : List V} {its : List Value} (r : Vals xs its) : ∀ l : List Nat, Vals (l.filterMap (xs[·]?)) (l.filterMap (its.toArray[·]?))
  | [] => .nil
  | i :: l => by
    have ih := vals_pick r l
    rw [List.filterMap_cons, List.filterMap_cons]
    cases e : xs[i]? with
    | none =>
      have := r.none_of e
      rw [show its.toArray[i]? = none by simpa using this]
      exact ih
    | some x =>
      obtain ⟨u, eu, ru⟩ := r.get e
      rw [show its.toArray[i]? = some u by simpa using eu]
      exact .cons ru ih
theorem pick_len {α : Type} (xs : List α) : ∀ l : List Nat, (l.filterMap (xs[·]?)).length ≤ l.length := fun l => List.length_filterMap_le _ _
theorem pe_step2 {X : Cx} {e : PySem.Expr} {te : TE} {lo : Option PySem.Expr} {tl : TO} {k : Nat} {p1 p3 pos : Pos} (he : PE X e te) (hl : PO X lo tl) : PE X (.Subscript e (.Slice lo none (some (.Constant (.int 2) k p1)) p3) pos) (tStepL X.K te tl) := by
  refine ⟨fun pins s σ H Q I h => ?_⟩
  refine Subscript_ (thn (he.run pins s σ H _ I h) fun v s1 ⟨x, H1, I1, r1, q1⟩ => ?_)
  have hst : PO X (some (.Constant (.int 2) k p1)) (tPart (tC (.int 2))) := po_some pe_int
  refine wpAny_Slice (thn (hl.run pins s1 σ H1 _ I1 q1) fun vl s2 ⟨l, H2, I2, pl, q2⟩ => ?_)
  obtain ⟨a, xs, ex, hx, q⟩ := q2
  subst ex
  cases r1
  refine thn (po_none.run pins s2 σ H2 (fun o H3 => o = none ∧ H3 = H2) I2 ⟨rfl, rfl⟩) fun vu s3 ⟨u, H3, I3, pu, eu, e3⟩ => ?_
  subst eu e3
  refine thn (hst.run pins s3 σ H3 (fun o H4 => o = some 2 ∧ H4 = H3) I3 ⟨2, rfl, rfl, rfl⟩) fun vs s4 ⟨o, H4, I4, ps, eo, e4⟩ => ?_
  subst eo e4
  have I5 : L2.Inv X pins σ H4 { s4 with heap := s4.heap.push { cls := .type "slice", data := .fields #[vl, vu, vs] } } := I4.kept (t' := s4.toks) fun b ob q => Heap.get?_push_of_some _ q
  obtain ⟨its, r, ht, hz⟩ := I5.list hx
  have hlen := r.length
  show wpAny (model X.prog X.w) X.A (subscriptTail e (.Slice lo none (some (.Constant (.int 2) k p1)) p3) (.ref a) (.ref s4.heap.objs.size)) (L2.EP X pins σ Q) X.xe { s4 with heap := s4.heap.push { cls := .type "slice", data := .fields #[vl, vu, vs] } }
  refine tail_any (ops := [.ref a, .ref s4.heap.objs.size]) ht.isList.typeIs (PySem.slot_list_getitem.lookup) ?_ (by with_unfolding_all rfl)
  refine wpAny_getItem_list_slice ht.isList (Heap.IsSliceOf.new _ vl vu vs) pl pu ps (by decide) ?_ (by rw [List.size_toArray]; omega)
  have hb : (sliceRange (sliceBounds l none (some 2) its.toArray.size).1 (sliceBounds l none (some 2) its.toArray.size).2.1 (sliceBounds l none (some 2) its.toArray.size).2.2).length ≤ its.length := by
    have := sliceRange_length_le (sliceBounds l none (some 2) its.toArray.size).1 (sliceBounds l none (some 2) its.toArray.size).2.1 (sliceBounds l none (some 2) its.toArray.size).2.2 its.toArray.size ?_ ?_
    · rw [List.size_toArray] at this ⊢
      exact this
    · intro _
      refine ⟨?_, ?_⟩
      · unfold sliceBounds
        cases l with
        | none => simp
        | some i => simp; omega
      · unfold sliceBounds
        simp
    · intro h
      exact absurd (show (sliceBounds l none (some 2) its.toArray.size).2.2 > 0 from by unfold sliceBounds; simp) h
  unfold slicePick
  generalize sliceRange _ _ _ = idx at hb ⊢
  have lz : (idx.filterMap (xs[·]?)).length ≤ xs.length := by
    have := pick_len xs idx
    omega
  refine ⟨.ref _, _, I5.laid (t' := s4.toks) (o := .lst (idx.filterMap (xs[·]?))) (fun b ob q => Heap.get?_push_of_some _ q) (Nat.le_refl _) ?_, rfl, q _ _ (fun y my => ?_) lz (I5.hok.fresh (Nat.le_refl _))⟩
  · exact ⟨by omega, _, 0, vals_pick r idx, Heap.get?_push_size _ rfl⟩
  · obtain ⟨i, _, ei⟩ := List.mem_filterMap.mp my
    exact List.mem_of_getElem? ei
end G
namespace G
open PySem L2
abbrev StepG (K : PySem.W.Frag) (x : V) (H : Hp) (Q : VK) : Prop := ∃ a xs, x = .ref a ∧ SqL K H a xs ∧ ∀ p ys, (∀ y ∈ ys, y ∈ xs) → ys.length ≤ xs.length → H p = none → Q (.ref p) (upd H p (.lst ys))
theorem r_step2 {K : PySem.W.Frag} {te : TE} {tl : TO} {σ : L2.St} {H : Hp} {Q : VK} (h : te σ H fun x H1 => tl σ H1 fun _ H2 => StepG K x H2 Q) : tStepL K te tl σ H Q := h
/-- a part of the script -/
theorem r_cells {K : PySem.W.Frag} {a : Addr} {ns : List Int} {H : Hp} {Q : VK} (h : SqL K H a (ns.map V.int)) (q : ∀ (p : Addr) (ms : List Int) (H' : Hp), ms.length ≤ ns.length → H p = none → Same H H' → H' p = some (.lst (ms.map V.int)) → Q (.ref p) H') : StepG K (.ref a) H Q := by
  refine ⟨a, _, rfl, h, fun p ys hy hl hp => ?_⟩
  have : ∀ zs : List V, (∀ y ∈ zs, y ∈ ns.map V.int) → ∃ ms : List Int, zs = ms.map V.int := by
    intro zs
    induction zs with
    | nil => exact fun _ => ⟨[], rfl⟩
    | cons z r ih =>
      intro h
      obtain ⟨ms, e⟩ := ih fun y m => h y (List.mem_cons_of_mem _ m)
      obtain ⟨i, _, ei⟩ := List.mem_map.mp (h z List.mem_cons_self)
      exact ⟨i :: ms, by rw [e, ← ei]; rfl⟩
  obtain ⟨ms, e⟩ := this ys hy
  rw [List.length_map] at hl
  exact q p ms _ (by have := congrArg List.length e; rw [List.length_map] at this; omega) hp (same_new hp) (by rw [upd_same, e])
end G

namespace G
open PySem PySem.Spec PyProof.Rows L2 L2.DX
/-! ### views of a dict; pairs sorted -/
def valuesO (p d : Addr) : HO := .ext fun h => h.IsValuesView p d
section
variable {X : Cx}
def rItemsK : V → List V → Hp → VK → Prop := fun x xs H Q => ∃ (a : Addr) (kvs : List (L2.Key × V)), x = .ref a ∧ xs = [] ∧ H a = some (.dK kvs) ∧ ∀ p, H p = none → Q (.ref p) (upd H p (itemsO p a))
theorem mt_itemsK : MtR X "dict.items" rItemsK := by
  intro pins s σ H x xs v us Q I rx rxs h
  obtain ⟨a, kvs, rfl, rfl, ha, q⟩ := h
  cases rx
  cases rxs
  obtain ⟨z, hd, vs, kv, o, es, ep, ho, hx, hdat, _⟩ := I.hok a _ ha
  refine DT.callItems (es := es) (ep := ep) hd ⟨o, ho, hx, hdat⟩ ?_
  have hf : H s.heap.objs.size = none := I.hok.fresh (Nat.le_refl _)
  exact ⟨.ref s.heap.objs.size, upd H s.heap.objs.size (itemsO s.heap.objs.size a), I.laid (t' := s.toks) (fun b u e => Heap.get?_push_of_some _ e) (Nat.le_refl _) (itemsO_ok (Heap.get?_push_size _ rfl)), rfl, q _ hf⟩
def rValuesK : V → List V → Hp → VK → Prop := fun x xs H Q => ∃ (a : Addr) (kvs : List (L2.Key × V)), x = .ref a ∧ xs = [] ∧ H a = some (.dK kvs) ∧ ∀ p, H p = none → Q (.ref p) (upd H p (valuesO p a))
theorem mt_valuesK : MtR X "dict.values" rValuesK := by
  intro pins s σ H x xs v us Q I rx rxs h
  obtain ⟨a, kvs, rfl, rfl, ha, q⟩ := h
  cases rx
  cases rxs
  obtain ⟨z, hd, vs, kv, D⟩ := I.hok a _ ha
  have hf : H s.heap.objs.size = none := I.hok.fresh (Nat.le_refl _)
  refine call_meetsIn PySem.F.slot_dict_values D.typeIs PySem.F.entry_dict_values (PySem.F.args_dict_values_1 _) (meets_dict_values (mixKind X.prog X.w) a hd) ⟨⟨vs, D⟩, ?_⟩
  exact ⟨.ref s.heap.objs.size, upd H s.heap.objs.size (valuesO s.heap.objs.size a), I.laid (t' := s.toks) (fun b u e => Heap.get?_push_of_some _ e) (Nat.le_refl _) ⟨⟨_, Heap.get?_push_size _ rfl, rfl, rfl⟩, ⟨_, Heap.get?_push_size _ rfl⟩, fun h1 h2 x k => let ⟨o, ho, r⟩ := x; ⟨o, k o ho, r⟩⟩, rfl, q _ hf⟩
def rListVals : List V → Hp → VK → Prop := fun vs H Q => ∃ (p a : Addr) (kvs : List (L2.Key × V)), vs = [.ref p] ∧ H p = some (valuesO p a) ∧ H a = some (.dK kvs) ∧ ∀ l, H l = none → Q (.ref l) (upd H l (.lst (kvs.map Prod.snd)))
theorem kv_snd {κ : Type} : ∀ {kvs : List (κ × V)} {vs : List (κ × Value)}, KV kvs vs → Vals (kvs.map Prod.snd) (vs.map (·.2))
  | _, _, .nil => .nil
  | _, _, .cons a b => .cons a.2 (kv_snd b)
theorem call_listVals (hc : X.calm = true) : CallR X (.type "list") rListVals := by
  intro pins s σ H xs us Q I r h
  obtain ⟨p, a, kvs, rfl, hp, ha, q⟩ := h
  obtain rfl := Vals.ref1 r
  have view : s.heap.IsValuesView p a := (show ObjOk X.prog X.w H s.heap p (valuesO p a) from I.hok p _ hp).1
  obtain ⟨z, hd, vs, kv, D⟩ := I.hok a _ ha
  obtain ⟨ep, hat⟩ := D.dictAt
  have lk : kvs.length = vs.length := Paired.length kv
  refine PySem.W.kdl_call (PySem.W.kdl_values (knd := mixKind X.prog X.w) (kvs := vs) (ep := ep)) (I.ok.hd hc) ⟨view, hat⟩ (by omega) fun h' tk acc c hk hS hacc => ?_
  have e : acc.toList = vs.map (·.2) := PySem.W.kdl_vals_eq acc.toList (by rw [Array.length_toList]; exact hacc.1) fun j v e => hacc.2 j v (by rw [← Array.getElem?_toList]; exact e)
  refine ⟨.ref s.heap.objs.size, upd H s.heap.objs.size (.lst (kvs.map Prod.snd)), I.laid (t' := tk) hk (Nat.le_refl _) ⟨by rw [List.length_map]; exact z, acc.toList, c, by rw [e]; exact kv_snd kv, by rw [Array.toArray_toList]; exact hS⟩, rfl, q _ (I.hok.fresh (Nat.le_refl _))⟩
/-! sorted(d.items()), the keys texts, the values worths -/
def encI (e : Str × V × Wo) : PyData := .tuple [.str e.1, wd e.2.2]
def lower (a b : Str) : Prop := a.cps.toList < b.cps.toList
def rSortItK : List V → Hp → VK → Prop := fun vs H Q => ∃ (p a : Addr) (ps : List (Str × V × Wo)), vs = [.ref p] ∧ H p = some (itemsO p a) ∧ H a = some (.dK (ps.map fun e => (.inr e.1, e.2.1))) ∧ (∀ e ∈ ps, WoAt H e.2.1 e.2.2) ∧ ps.length ≤ 1000 ∧
  ∀ (H' : Hp) (l : Addr) (zs : List (Addr × Str × V × Wo)), Same H H' → H l = none → (zs.map (·.2)).Perm ps → (zs.map (·.2)).Pairwise (fun e f => lower e.1 f.1) → (∀ z ∈ zs, H z.1 = none) → H' l = some (.lst (zs.map fun z => .ref z.1)) →
    (∀ z ∈ zs, H' z.1 = some (.tup [.str z.2.1, z.2.2.1])) → Q (.ref l) H'
theorem pairs_get {prog : Program} {w : World} {K : Type} [DecidableEq K] {knd : PySem.KeyKind prog w K} : ∀ {es : List DictEntry} {kvs : List (K × Value)}, Pairs knd es kvs → ∀ {j : Nat} {e : DictEntry}, es[j]? = some e → ∃ kv, kvs[j]? = some kv ∧ knd.is kv.1 e.key = true ∧ e.val = kv.2
  | _, _, .nil, _, _, h => by cases h
  | _, _, .cons a b _, 0, _, h => by
    cases h
    exact ⟨_, rfl, a, b⟩
  | _, _, .cons _ _ t, j + 1, _, h => pairs_get (j := j) t (by simpa using h)
theorem each_zip {α β : Type} (f : α → Value) : ∀ (as : List α) (ps : List β), as.length = ps.length → PySem.W.EachIs (fun (v : Value) (b : α × β) => v = f b.1) (as.map f) (as.zip ps)
  | [], [], _ => .nil
  | a :: as, p :: ps, h => .cons rfl (each_zip f as ps (by simpa using h))
  | [], _ :: _, h => by cases h
  | _ :: _, [], h => by cases h
theorem each_at {α β : Type} {R : α → β → Prop} : ∀ {as : List α} {bs : List β}, as.length = bs.length → (∀ (j : Nat) (a : α) (b : β), as[j]? = some a → bs[j]? = some b → R a b) → PySem.W.EachIs R as bs
  | [], [], _, _ => .nil
  | a :: as, b :: bs, h, k => .cons (k 0 a b rfl rfl) (each_at (by simpa using h) fun j x y h1 h2 => k (j + 1) x y (by simpa using h1) (by simpa using h2))
  | [], _ :: _, h, _ => by cases h
  | _ :: _, [], h, _ => by cases h
theorem each_eq {α β : Type} (f : β → α) : ∀ {as : List α} {bs : List β}, PySem.W.EachIs (fun a b => a = f b) as bs → as = bs.map f
  | _, _, .nil => rfl
  | _, _, .cons h t => by rw [h, each_eq f t]; rfl
theorem str_lt_irrefl {a b : Str} (h : ¬ lower b a) (n : a ≠ b) : lower a b := by
  unfold lower at h ⊢
  by_cases l : a.cps.toList < b.cps.toList
  · exact l
  · exact absurd (PySem.W.str_of_cps (List.le_antisymm (List.not_lt.mp h) (List.not_lt.mp l))) n
theorem cr_sortedItK (hc : X.calm = true) (hu : X.A.units + 64 < cLine) : CallR X (.builtin "sorted") rSortItK := by
  intro pins s σ H xs us Q I r h
  obtain ⟨p, a, ps, rfl, hp, ha, hw, h1000, q⟩ := h
  obtain rfl := Vals.ref1 r
  have view : s.heap.IsItemsView p a := (show ObjOk X.prog X.w H s.heap p (itemsO p a) from I.hok p _ hp).1
  obtain ⟨z, hd, vs, kv, o, es, ep, ho, hx, hdat, hkk, hpr, hnd⟩ := I.hok a _ ha
  have l1 : ps.length = vs.length := by
    have := Paired.length kv
    rwa [List.length_map] at this
  have l2 : es.size = vs.length := by rw [← Array.length_toList]; exact hpr.length
  have nd0 : (ps.map (·.1)).Nodup := by
    have e : (ps.map fun e => (Sum.inr e.1 : L2.Key)) = vs.map (·.1) := by
      have : ∀ {xs : List (L2.Key × V)} {ys : List (L2.Key × Value)}, KV xs ys → xs.map (·.1) = ys.map (·.1) := by
        intro xs ys h
        induction h with
        | nil => rfl
        | cons h _ ih => rw [List.map_cons, List.map_cons, h.1, ih]
      have := this kv
      rwa [List.map_map] at this
    rw [← e] at hnd
    rw [List.nodup_iff_pairwise_ne, List.pairwise_map] at hnd ⊢
    exact hnd.imp fun h e => h (by rw [e])
  refine DT.sortedI (es := es) (ep := ep) (I.ok.hd hc) view ⟨o, ho, hx, hdat⟩ (by rw [sizeLine_eq]; omega) fun h' tk as hk hlt hl hG => ?_
  have lak : as.length = ps.length := by omega
  have nd : as.Nodup := List.Pairwise.imp (fun h => Nat.ne_of_lt h) hG.rise
  have pr : ∀ (j : Nat) (b : Addr), as[j]? = some b → ∃ (e : Str × V × Wo) (t : Tok) (u : Value), ps[j]? = some e ∧ RelV e.2.1 u ∧ h'.get? b = some { cls := .type "tuple", data := .seq #[Value.str e.1 t, u] } := by
    intro j b hj
    obtain ⟨en, he, hg⟩ := hG.pairs j b hj
    obtain ⟨kvj, h1, h2, h3⟩ := pairs_get hpr (by rw [Array.getElem?_toList]; exact he)
    obtain ⟨pk, h4, h5, h6⟩ := pget kv h1
    rw [List.getElem?_map] at h4
    obtain ⟨e, h7, rfl⟩ := Option.map_eq_some_iff.mp h4
    have r1 : RelV (kV (Sum.inr e.1)) en.key := relV_key (by have := h2; rw [← h5] at this; exact this)
    obtain ⟨t, rt⟩ := r1
    exact ⟨e, t, en.val, h7, by rw [h3]; exact h6, by rw [hg, rt]⟩
  have hob : (h'.push { cls := .type "list", data := .seq (as.map Value.ref).toArray }).get? h'.objs.size = some (seqObj "list" (as.map Value.ref).toArray 0) := Heap.get?_push_size _ rfl
  have kb : ∀ b o, s.heap.get? b = some o → (h'.push { cls := .type "list", data := .seq (as.map Value.ref).toArray }).get? b = some o := fun b o e => Heap.get?_push_of_some _ (hk b o e)
  have ne0 : ∀ b o, h'.get? b = some o → b ≠ h'.objs.size := fun b o e => Nat.ne_of_lt (Heap.lt_size e)
  generalize hh2 : h'.push { cls := .type "list", data := .seq (as.map Value.ref).toArray } = h2 at hob kb ⊢
  have ka : ∀ b o, h'.get? b = some o → h2.get? b = some o := fun b o e => by rw [← hh2]; exact Heap.get?_push_of_some _ e
  have lz : (as.zip ps).length = ps.length := by rw [List.length_zip]; omega
  refine PySem.W.list_sort_data (s := { s with heap := h2, toks := tk }) (R := fun v (b : Addr × Str × V × Wo) => v = Value.ref b.1) (enc := fun b => encI b.2) (bs := as.zip ps) hob (each_zip Value.ref as ps lak)
    (each_at (by rw [List.length_map, lz, lak]) fun j v b hv hb => ?_) (PySem.W.AllAlike.of fun b b' => by simp [PySem.W.alike, PySem.W.alikeAll, encI, wd]) (PySem.W.Sortable.tuples fun b => ⟨_, _, rfl⟩) (by rw [lz]; rw [sizeLine_eq]; omega)
    (fun b _ => ?_) fun out hlo eo => ?_
  · obtain ⟨hb1, hb2⟩ := List.getElem?_zip_eq_some.mp hb
    rw [List.getElem?_map, hb1] at hv
    cases hv
    obtain ⟨e, t, u, he, ru, hg⟩ := pr j _ hb1
    rw [hb2] at he
    cases he
    obtain ⟨ta, et, eh, _⟩ := hw b.2 (List.mem_of_getElem? hb2)
    rw [et] at ru
    obtain rfl : u = Value.ref ta := ru
    obtain ⟨_, its, rv, ot, hot, hct, nt, hdt⟩ := (show ObjOk X.prog X.w H s.heap ta (.tup (wv b.2.2.2)) from I.hok ta _ eh)
    obtain ⟨t1, t2, rfl⟩ : ∃ t1 t2, its = [Value.str b.2.2.2.1 t1, Value.int b.2.2.2.2 t2] := by
      cases rv with
      | cons r1 r2 =>
        cases r2 with
        | cons r3 r4 =>
          cases r4
          obtain ⟨t1, rfl⟩ := r1
          obtain ⟨t2, rfl⟩ := r3
          exact ⟨t1, t2, rfl⟩
    refine ⟨[], ?_, List.not_mem_nil⟩
    have r3 : Reads h2 (.ref ta) (wd b.2.2.2) [] := .tuple (kb _ _ hot) hct hdt (.cons (as := []) (bs := []) (.str _ _) (.cons (as := []) (bs := []) (.int _ _) .nil))
    exact .tuple (ka _ _ hg) rfl rfl (.cons (as := []) (bs := []) (.str _ _) (.cons (as := []) (bs := []) r3 .nil))
  · have hd : (encI b.2).depth = 2 := by simp [encI, wd, PyData.depth, PyData.depthAll]
    show X.A.units + 1 + 1 + (encI b.2).depth < cLine
    omega
  · have eo' := each_eq (fun b : Addr × Str × V × Wo => Value.ref b.1) eo
    have hTL : PySem.W.TotalLe (PySem.W.dataLe false fun b : Addr × Str × V × Wo => encI b.2) := PySem.W.sortLe_total _ _ _
    have pz := List.mergeSort_perm (as.zip ps) (PySem.W.dataLe false fun b : Addr × Str × V × Wo => encI b.2)
    have oz := PySem.W.sort_pairwise hTL (as.zip ps)
    generalize (as.zip ps).mergeSort (PySem.W.dataLe false fun b : Addr × Str × V × Wo => encI b.2) = zs at eo' pz oz
    have idx : ∀ z ∈ zs, ∃ j : Nat, as[j]? = some z.1 ∧ ps[j]? = some z.2 := by
      intro z' hz'
      obtain ⟨j, hj⟩ := List.mem_iff_getElem?.mp (pz.mem_iff.mp hz')
      exact ⟨j, List.getElem?_zip_eq_some.mp hj⟩
    have hperm : (zs.map (·.2)).Perm ps := by
      have e := pz.map (·.2)
      have m2 : (as.zip ps).map (·.2) = ps := List.map_snd_zip (by rw [lak]; exact Nat.le_refl _)
      rw [m2] at e
      exact e
    have hsort : (zs.map (·.2)).Pairwise (fun e f => lower e.1 f.1) := by
      have nn : ((zs.map (·.2)).map (·.1)).Nodup := (hperm.map (·.1)).nodup_iff.mpr nd0
      rw [List.map_map, List.nodup_iff_pairwise_ne, List.pairwise_map] at nn
      rw [List.pairwise_map]
      refine (oz.and nn).imp fun {x y} h => ?_
      obtain ⟨h1, h2⟩ := h
      refine str_lt_irrefl (fun hl => ?_) h2
      rw [PySem.W.dataLe_eq] at h1
      have h3 : PySem.W.dataLt (encI y.2) (encI x.2) = false := by simpa using h1
      have h4 : PySem.W.dataLt (.str y.2.1) (.str x.2.1) = false := by
        have e : PyData.eqv (.str y.2.1) (.str x.2.1) = false := by
          simp [PyData.eqv]
          exact fun e => h2 e.symm
        unfold encI at h3
        rw [PySem.W.dataLt_pair (by simp [PySem.W.alike]) (by simp [PySem.W.alike, PySem.W.alikeAll, wd]), e] at h3
        simpa using h3
      have h5 : (!PySem.W.dataLt (.str y.2.1) (.str x.2.1)) = decide (x.2.1.cps.toList ≤ y.2.1.cps.toList) := by
        have := congrFun (congrFun (PySem.W.dataLe_str (β := Str) id) x.2.1) y.2.1
        rw [PySem.W.dataLe_eq] at this
        exact this
      rw [h4] at h5
      have h6 : x.2.1.cps.toList ≤ y.2.1.cps.toList := of_decide_eq_true h5.symm
      exact List.not_lt.mpr h6 hl
    have kF : ∀ b o, b ≠ h'.objs.size → h2.get? b = some o → (sortedHeap h2 h'.objs.size (as.map Value.ref) out.toArray).get? b = some o := fun b o hb e => (PyProof.Rows.sortedHeap_old hb (Heap.lt_size e)).trans e
    have kS : ∀ b o, s.heap.get? b = some o → (sortedHeap h2 h'.objs.size (as.map Value.ref) out.toArray).get? b = some o := fun b o e => kF b o (ne0 _ _ (hk b o e)) (kb b o e)
    obtain ⟨eF, heF⟩ := PyProof.Rows.sortedHeap_at (vs := as.map Value.ref) (out := out.toArray) hob
    have I1 : Inv X pins σ H { s with heap := sortedHeap h2 h'.objs.size (as.map Value.ref) out.toArray, toks := tk } := I.kept (t' := tk) kS
    have hn0 : H h'.objs.size = none := I.hok.fresh (Nat.le_of_lt hlt)
    have hlen : (zs.map fun z => V.ref z.1).length ≤ sizeLine := by
      have e := hperm.length_eq
      rw [List.length_map] at e
      rw [List.length_map, sizeLine_eq]
      omega
    have rv : Vals (zs.map fun z => V.ref z.1) out.toArray.toList := by
      rw [eo']
      exact vals_maps (fun z : Addr × Str × V × Wo => V.ref z.1) (fun z => Value.ref z.1) zs fun _ _ => rfl
    have I2 : Inv X pins σ (upd H h'.objs.size (.lst (zs.map fun z => V.ref z.1))) { s with heap := sortedHeap h2 h'.objs.size (as.map Value.ref) out.toArray, toks := tk } :=
      I1.take (h' := sortedHeap h2 h'.objs.size (as.map Value.ref) out.toArray) (t' := tk) (fun b ob _ e => e) (I.fpOk (Nat.le_of_lt hlt) hn0) ⟨hlen, out.toArray.toList, eF, rv, heF⟩
    obtain ⟨H2, I3, g, qt⟩ := takeT (P := fun b vs => ∃ (j : Nat) (e : Str × V × Wo), as[j]? = some b ∧ ps[j]? = some e ∧ vs = [.str e.1, e.2.1]) I as _ I2 nd fun b hb => by
      obtain ⟨j, hj⟩ := List.mem_iff_getElem?.mp hb
      obtain ⟨e, t, u, he, ru, hg⟩ := pr j b hj
      have hbl : s.heap.objs.size ≤ b := Nat.le_of_lt (hG.above b hb)
      refine ⟨hbl, ?_, [.str e.1, e.2.1], ⟨j, e, hj, he, rfl⟩, fun H3 => ⟨(by rw [sizeLine_eq]; show 2 ≤ 16777216; omega), [Value.str e.1 t, u], .cons ⟨t, rfl⟩ (.cons ru .nil), ⟨_, kF _ _ (ne0 _ _ hg) (ka _ _ hg), rfl, 0, rfl⟩⟩⟩
      rw [upd_ne (ne0 _ _ hg)]
      exact I.hok.fresh hbl
    have gr : ∀ b o, H b = some o → H2 b = some o := fun b o e => g b o (by rw [upd_ne (ne_of_none e hn0)]; exact e)
    refine ⟨.ref h'.objs.size, H2, I3, rfl, q H2 h'.objs.size zs gr hn0 hperm hsort (fun z' hz' => ?_) (g _ _ upd_same) fun z' hz' => ?_⟩
    · obtain ⟨i, i1, i2⟩ := idx z' hz'
      exact I.hok.fresh (Nat.le_of_lt (hG.above _ (List.mem_of_getElem? i1)))
    · obtain ⟨i, i1, i2⟩ := idx z' hz'
      obtain ⟨vs, ⟨j, e, j1, j2, ev⟩, hH⟩ := qt z'.1 (List.mem_of_getElem? i1)
      have eij : i = j := (List.getElem?_inj (List.getElem?_eq_some_iff.mp i1).1 nd).mp (i1.trans j1.symm)
      subst eij
      have ee : e = z'.2 := Option.some.inj (j2.symm.trans i2)
      rw [ev, ee] at hH
      exact hH
theorem lower_of {a b c d : PyData} {x y : Str} (n : x ≠ y) (ha : PySem.W.alike d c = true) (h : PySem.W.dataLt (.tuple [.str y, d]) (.tuple [.str x, c]) = false) : lower x y := by
  refine str_lt_irrefl (fun hl => ?_) n
  have e : PyData.eqv (.str y) (.str x) = false := by
    simp [PyData.eqv]
    exact fun e => n e.symm
  rw [PySem.W.dataLt_pair (by simp [PySem.W.alike]) ha, e] at h
  have h4 : PySem.W.dataLt (.str y) (.str x) = false := by simpa using h
  have h5 : (!PySem.W.dataLt (.str y) (.str x)) = decide (x.cps.toList ≤ y.cps.toList) := by
    have := congrFun (congrFun (PySem.W.dataLe_str (β := Str) id) x) y
    rw [PySem.W.dataLe_eq] at this
    exact this
  rw [h4] at h5
  exact List.not_lt.mpr (of_decide_eq_true h5.symm) hl
def rSortPr : List V → Hp → VK → Prop := fun vs H Q => ∃ (a : Addr) (xs : List V) (ls : List (Str × Wo)), vs = [.ref a] ∧ H a = some (.lst xs) ∧ Ats H xs ls ∧ (ls.map (·.1)).Nodup ∧
  ∀ (ys : List V) (ls' : List (Str × Wo)) (p : Addr), ls'.Perm ls → ls'.Pairwise (fun e f => lower e.1 f.1) → H p = none → Ats H ys ls' → Q (.ref p) (upd H p (.lst ys))
theorem cr_sortedPr (hu : X.A.units + 64 < cLine) : CallR X (.builtin "sorted") rSortPr := by
  intro pins s σ H vs us Q I r h
  obtain ⟨a, xs, ls, rfl, ha, hr, nd, q⟩ := h
  obtain ⟨its, rv, hl, hz⟩ := I.list (.inl (.inl ha))
  rw [Vals.ref1 r]
  have e1 : xs.length = ls.length := hr.len
  have lz : (xs.zip ls).length = xs.length := by rw [List.length_zip]; omega
  have eI : PySem.W.EachIs (fun u (b : V × Str × Wo) => RelV b.1 u) its (xs.zip ls) := each_at (by rw [lz, rv.length]) fun j u b hu hb => by
    obtain ⟨hb1, hb2⟩ := List.getElem?_zip_eq_some.mp hb
    obtain ⟨u', e, ru⟩ := rv.get hb1
    rw [hu] at e
    cases e
    exact ru
  have eR : PySem.W.EachIs (fun u (b : V × Str × Wo) => ∃ as, Reads s.heap u (Dat.enc b.2) as) its (xs.zip ls) := each_at (by rw [lz, rv.length]) fun j u b hu hb => by
    obtain ⟨hb1, hb2⟩ := List.getElem?_zip_eq_some.mp hb
    obtain ⟨u', e, ru⟩ := rv.get hb1
    rw [hu] at e
    cases e
    obtain ⟨c, ec, hc⟩ := hr.get hb1
    rw [hb2] at ec
    cases ec
    exact Dp.reads I _ _ _ (Dat.dp (K := X.K) hc) ru
  refine PySem.W.sorted_data (bs := xs.zip ls) (enc := fun b => Dat.enc b.2) (R := fun u (b : V × Str × Wo) => RelV b.1 u) hl.isList eI eR (PySem.W.AllAlike.of fun b b' => by simp [PySem.W.alike, PySem.W.alikeAll, Dat.enc]) (PySem.W.Sortable.tuples fun b => ⟨_, _, rfl⟩) (by rw [lz]; exact hz) (fun b _ => ?_) fun out hlo eo => ?_
  · have hd : (Dat.enc b.2 : PyData).depth = 2 := by simp [Dat.enc, PyData.depth, PyData.depthAll]
    omega
  · have hTL : PySem.W.TotalLe (PySem.W.dataLe false fun b : V × Str × Wo => Dat.enc b.2) := PySem.W.sortLe_total _ _ _
    have pz := List.mergeSort_perm (xs.zip ls) (PySem.W.dataLe false fun b : V × Str × Wo => Dat.enc b.2)
    have oz := PySem.W.sort_pairwise hTL (xs.zip ls)
    generalize (xs.zip ls).mergeSort (PySem.W.dataLe false fun b : V × Str × Wo => Dat.enc b.2) = zs at eo pz oz
    have hperm : (zs.map (·.2)).Perm ls := by
      have e := pz.map (·.2)
      rw [List.map_snd_zip (by omega)] at e
      exact e
    have hsort : (zs.map (·.2)).Pairwise (fun e f => lower e.1 f.1) := by
      have nn : ((zs.map (·.2)).map (·.1)).Nodup := (hperm.map (·.1)).nodup_iff.mpr nd
      rw [List.map_map, List.nodup_iff_pairwise_ne, List.pairwise_map] at nn
      rw [List.pairwise_map]
      refine (oz.and nn).imp fun {x y} h => ?_
      obtain ⟨h1, h2⟩ := h
      rw [PySem.W.dataLe_eq] at h1
      have h3 : PySem.W.dataLt (Dat.enc y.2) (Dat.enc x.2) = false := by simpa using h1
      exact lower_of (a := .none) (b := .none) h2 (by simp [PySem.W.alike, PySem.W.alikeAll, Dat.enc]) h3
    have hv : Vals (zs.map (·.1)) out := by
      clear hlo oz hsort hperm pz
      induction eo with
      | nil => exact .nil
      | cons h _ ih => exact .cons h ih
    have hats : Ats H (zs.map (·.1)) (zs.map (·.2)) := by
      have m : ∀ z ∈ zs, Dat.At H z.1 z.2 := fun z hz => by
        obtain ⟨j, hj⟩ := List.mem_iff_getElem?.mp (pz.mem_iff.mp hz)
        obtain ⟨hb1, hb2⟩ := List.getElem?_zip_eq_some.mp hj
        obtain ⟨c, ec, hc⟩ := hr.get hb1
        rw [hb2] at ec
        cases ec
        exact hc
      clear hv hlo oz hsort hperm pz eo
      induction zs with
      | nil => exact .nil
      | cons z r ih => exact .cons (m z List.mem_cons_self) (ih fun y hy => m y (List.mem_cons_of_mem _ hy))
    obtain ⟨ep, he'⟩ := PyProof.Rows.sortedAll_at s.heap its out.toArray
    have hlen : (zs.map (·.1)).length ≤ sizeLine := by
      have := hperm.length_eq
      rw [List.length_map] at this ⊢
      omega
    exact ⟨.ref _, upd H (s.heap.objs.size + 1) (.lst (zs.map (·.1))), I.laid (t' := s.toks) (fun _ _ => PyProof.Rows.sortedAll_old) (Nat.le_succ _) ⟨hlen, out, ep, hv, he'⟩, rfl, q _ _ _ hperm hsort (I.hok.fresh (Nat.le_succ _)) hats⟩
end
end G

namespace G
open PySem L2
open Dat (At enc)
/-! ### dicts of data -/
class DKey (κ : Type) [Dat κ] [DecidableEq κ] where
  κ' : Type
  dec : DecidableEq κ'
  kf : κ → κ'
  kinj : ∀ {a b : κ}, kf a = kf b → a = b
  ho : List (κ' × V) → HO
  noT : ∀ {kvs : List (κ' × V)} {xs : List V}, ho kvs ≠ .tup xs
  get : ∀ {H : Hp} {d : Addr} {kvs : List (κ' × V)} {y : V} {k : κ}, Rd H d (ho kvs) → At H y k → DGet H d y (valV kvs (kf k))
  put : ∀ {H : Hp} {d : Addr} {kvs : List (κ' × V)} {y v : V} {k : κ}, H d = some (ho kvs) → At H y k → kvs.length < sizeLine → DPut H d y v (upd H d (ho (putK kvs (kf k) v)))
instance {κ : Type} [Dat κ] [DecidableEq κ] [DKey κ] : DecidableEq (DKey.κ' κ) := DKey.dec
instance : DKey Int where
  κ' := Key
  dec := inferInstance
  kf := .inl
  kinj := fun h => Sum.inl.inj h
  ho := .dK
  noT := fun h => by cases h
  get := fun {H d kvs y k} h e => by
    subst e
    exact .inl ⟨kvs, .inl k, h, rfl, rfl⟩
  put := fun {H d kvs y v k} h e hl => by
    subst e
    exact DPut.k (k := .inl k) h hl
instance : DKey Str where
  κ' := Key
  dec := inferInstance
  kf := .inr
  kinj := fun h => Sum.inr.inj h
  ho := .dK
  noT := fun h => by cases h
  get := fun {H d kvs y k} h e => by
    obtain ⟨rfl, _⟩ := e
    exact .inl ⟨kvs, .inr k, h, rfl, rfl⟩
  put := fun {H d kvs y v k} h e hl => by
    obtain ⟨rfl, _⟩ := e
    exact DPut.k (k := .inr k) h hl
instance : DKey (Str × Int) where
  κ' := List Key
  dec := inferInstance
  kf := wk
  kinj := wk_inj
  ho := .dT
  noT := fun h => by cases h
  get := fun {H d kvs y k} h e => by
    obtain ⟨t, rfl, e, _⟩ := at_wo.mp e
    exact .inr ⟨kvs, wk k, t, h, rfl, e, rfl⟩
  put := fun {H d kvs y v k} h e hl => by
    obtain ⟨t, rfl, e, _⟩ := at_wo.mp e
    exact DPut.t (k := wk k) h e hl
/-- put in its place, or at the end -/
def putA {κ α : Type} [DecidableEq κ] (l : List (κ × α)) (k : κ) (a : α) : List (κ × α) := if k ∈ l.map (·.1) then l.map (fun e => if e.1 = k then (e.1, a) else e) else l ++ [(k, a)]
def getA {κ α : Type} [DecidableEq κ] (l : List (κ × α)) (k : κ) : Option α := (l.find? fun e => decide (e.1 = k)).map (·.2)
section
variable {κ α : Type} [DecidableEq κ] {l : List (κ × α)} {k j : κ} {a : α}
theorem getA_pos {p : κ × α} (e : p.1 = k) : getA (p :: l) k = some p.2 := by simp [getA, e]
theorem getA_neg {p : κ × α} (e : ¬ p.1 = k) : getA (p :: l) k = getA l k := by simp [getA, e]
theorem getA_none : getA l k = none ↔ k ∉ l.map (·.1) := by
  induction l with
  | nil => simp [getA]
  | cons p r ih =>
    by_cases e : p.1 = k
    · rw [getA_pos e]
      simp [e]
    · rw [getA_neg e, ih]
      simp [Ne.symm e]
theorem getA_isSome [dc : Decidable (k ∈ l.map (·.1))] : (getA l k).isSome = decide (k ∈ l.map (·.1)) := by
  by_cases m : k ∈ l.map (·.1)
  · rw [decide_eq_true m]
    cases h : getA l k with
    | none => exact absurd m (getA_none.mp h)
    | some _ => rfl
  · rw [decide_eq_false m, getA_none.mpr m]
    rfl
theorem getA_mem (h : getA l k = some a) : (k, a) ∈ l := by
  induction l with
  | nil => simp [getA] at h
  | cons p r ih =>
    by_cases e : p.1 = k
    · rw [getA_pos e] at h
      cases h
      rw [← e]
      exact List.mem_cons_self
    · rw [getA_neg e] at h
      exact List.mem_cons_of_mem _ (ih h)
theorem getA_of (nd : (l.map (·.1)).Nodup) (h : (k, a) ∈ l) : getA l k = some a := by
  induction l with
  | nil => cases h
  | cons p r ih =>
    rw [List.map_cons, List.nodup_cons] at nd
    rcases List.mem_cons.mp h with e | h
    · subst e
      exact getA_pos rfl
    · by_cases e : p.1 = k
      · exact absurd (List.mem_map.mpr ⟨_, h, e.symm⟩) nd.1
      · rw [getA_neg e]
        exact ih nd.2 h
theorem putA_keys : (putA l k a).map (·.1) = if k ∈ l.map (·.1) then l.map (·.1) else l.map (·.1) ++ [k] := by
  unfold putA
  split
  · rw [List.map_map]
    refine List.map_congr_left fun e _ => ?_
    show (if e.1 = k then (e.1, a) else e).1 = e.1
    split <;> rfl
  · rw [List.map_append]
    rfl
theorem putA_nodup (nd : (l.map (·.1)).Nodup) : ((putA l k a).map (·.1)).Nodup := by
  rw [putA_keys]
  split
  · exact nd
  · rename_i n
    rw [List.nodup_append]
    exact ⟨nd, by simp, fun x hx y hy e => n (by rw [List.mem_singleton] at hy; subst hy; subst e; exact hx)⟩
theorem putA_mem_keys : j ∈ (putA l k a).map (·.1) ↔ j = k ∨ j ∈ l.map (·.1) := by
  rw [putA_keys]
  split
  · rename_i m
    exact ⟨.inr, fun h => h.elim (fun e => e ▸ m) id⟩
  · rw [List.mem_append, List.mem_singleton]
    exact ⟨fun h => h.symm, fun h => h.symm⟩
theorem putA_len : (putA l k a).length ≤ l.length + 1 := by
  unfold putA
  split
  · rw [List.length_map]; omega
  · simp
theorem getA_map_put : ∀ l : List (κ × α), getA (l.map fun e => if e.1 = k then (e.1, a) else e) j = if j = k then (getA l k).map (fun _ => a) else getA l j
  | [] => by simp [getA]
  | p :: r => by
    rw [List.map_cons]
    by_cases e : p.1 = k
    · rw [if_pos e]
      by_cases ej : j = k
      · rw [if_pos ej, getA_pos (by rw [ej]; exact e), getA_pos e]
        rfl
      · rw [if_neg ej, getA_neg (p := (p.1, a)) (fun z => ej (z.symm.trans e)), getA_neg (fun z => ej (z.symm.trans e)), getA_map_put r, if_neg ej]
    · rw [if_neg e]
      by_cases z : p.1 = j
      · rw [getA_pos z, if_neg (fun q => e (z.trans q)), getA_pos z]
      · rw [getA_neg z, getA_map_put r, getA_neg e]
        split
        · rfl
        · rw [getA_neg z]
theorem getA_app_none (h : k ∉ l.map (·.1)) : getA (l ++ [(k, a)]) j = if j = k then some a else getA l j := by
  induction l with
  | nil =>
    by_cases e : j = k
    · rw [if_pos e]
      exact getA_pos e.symm
    · rw [if_neg e]
      exact getA_neg (Ne.symm e)
  | cons p r ih =>
    have ih := ih fun m => h (List.mem_cons_of_mem _ m)
    have nk : p.1 ≠ k := fun e => h (by rw [← e]; exact List.mem_cons_self)
    rw [List.cons_append]
    by_cases z : p.1 = j
    · rw [getA_pos z, getA_pos z, if_neg (fun q => nk (z.trans q))]
    · rw [getA_neg z, getA_neg z, ih]
theorem getA_put : getA (putA l k a) j = if j = k then some a else getA l j := by
  unfold putA
  split
  · rename_i m
    rw [getA_map_put]
    split
    · cases h : getA l k with
      | none => exact absurd m (getA_none.mp h)
      | some _ => rfl
    · rfl
  · rename_i m
    exact getA_app_none m
theorem putA_new (h : k ∉ l.map (·.1)) : putA l k a = l ++ [(k, a)] := if_neg h
end
section
variable {κ α : Type} [Dat κ] [DecidableEq κ] [DKey κ] [Dat α] {K : PySem.W.Frag} {H H' H1 : Hp} {ns ms : List Addr} {d : Addr} {l : List (κ × α)} {k : κ} {a : α} {x y v : V} {Q : VK} {o : HO}
abbrev DR (ns : List Addr) (H : Hp) : List (DKey.κ' κ × V) → List (κ × α) → Prop := Paired fun kv e => kv.1 = DKey.kf e.1 ∧ At (del ns H) kv.2 e.2
/-- at d stands a dict of l; Dcr: it can be read -/
def Dc (ns : List Addr) (H : Hp) (d : Addr) (l : List (κ × α)) : Prop := ∃ kvs : List (DKey.κ' κ × V), H d = some (DKey.ho (κ := κ) kvs) ∧ DR ns H kvs l
def Dcr (ns : List Addr) (H : Hp) (d : Addr) (l : List (κ × α)) : Prop := ∃ kvs : List (DKey.κ' κ × V), Rd H d (DKey.ho (κ := κ) kvs) ∧ DR ns H kvs l
theorem Dc.rd (h : Dc ns H d l) : Dcr ns H d l := by
  obtain ⟨kvs, e, r⟩ := h
  exact ⟨kvs, .inl e, r⟩
theorem DR.fr {kvs : List (DKey.κ' κ × V)} (f : Fr ns H ms H') (h : DR ns H kvs l) : DR ms H' kvs l := Paired.mapP h fun _ _ h => ⟨h.1, f.at_ h.2⟩
theorem Dc.fr (f : Fr ns H ms H') (e : ∀ o, H d = some o → H' d = some o) (h : Dc ns H d l) : Dc ms H' d l := by
  obtain ⟨kvs, q, r⟩ := h
  exact ⟨kvs, e _ q, r.fr f⟩
theorem Dcr.fr (f : Fr ns H ms H') (e : ∀ o, H d = some o → H' d = some o) (h : Dcr ns H d l) : Dcr ms H' d l := by
  obtain ⟨kvs, q, r⟩ := h
  exact ⟨kvs, q.elim (fun q => .inl (e _ q)) (fun ⟨o, q⟩ => .inr ⟨o, e _ q⟩), r.fr f⟩
theorem Dc.lv (h : Dc ns H d l) : Lv H d := by
  obtain ⟨kvs, q, r⟩ := h
  exact ⟨_, q, fun xs => DKey.noT⟩
theorem DR.look {kvs : List (DKey.κ' κ × V)} (h : DR ns H kvs l) (k : κ) : (valV kvs (DKey.kf k) = none ∧ getA l k = none) ∨ ∃ v a, valV kvs (DKey.kf k) = some v ∧ getA l k = some a ∧ At (del ns H) v a := by
  induction h with
  | nil => exact .inl ⟨rfl, rfl⟩
  | @cons kv e kvs l h _ ih =>
    by_cases z : e.1 = k
    · exact .inr ⟨_, _, valV_pos (by rw [h.1, z]), getA_pos z, h.2⟩
    · rw [valV_neg (fun q => z (DKey.kinj (h.1.symm.trans q))), getA_neg z]
      exact ih
theorem DR.keys {kvs : List (DKey.κ' κ × V)} (h : DR ns H kvs l) : kvs.map (·.1) = l.map fun e => DKey.kf e.1 := by
  induction h with
  | nil => rfl
  | cons h _ ih => rw [List.map_cons, List.map_cons, h.1, ih]
theorem DR.put {kvs : List (DKey.κ' κ × V)} (h : DR ns H kvs l) (g : At (del ns H) v a) (k : κ) : DR ns H (putK kvs (DKey.kf k) v) (putA l k a) := by
  have lk := h.look k
  unfold putK putA
  rw [valV_any]
  have app : ∀ {xs : List (DKey.κ' κ × V)} {ys : List (κ × α)}, DR ns H xs ys → DR ns H (xs ++ [(DKey.kf k, v)]) (ys ++ [(k, a)]) := by
    intro xs ys h
    induction h with
    | nil => exact .cons ⟨rfl, g⟩ .nil
    | cons h _ ih => exact .cons h ih
  have mp : ∀ {xs : List (DKey.κ' κ × V)} {ys : List (κ × α)}, DR ns H xs ys → DR ns H (xs.map fun kv => if kv.1 = DKey.kf k then (kv.1, v) else kv) (ys.map fun e => if e.1 = k then (e.1, a) else e) := by
    intro xs ys h
    induction h with
    | nil => exact .nil
    | @cons kv e _ _ h _ ih =>
      refine .cons ?_ ih
      show (if kv.1 = DKey.kf k then (kv.1, v) else kv).1 = DKey.kf (if e.1 = k then (e.1, a) else e).1 ∧ At (del ns H) (if kv.1 = DKey.kf k then (kv.1, v) else kv).2 (if e.1 = k then (e.1, a) else e).2
      by_cases z : e.1 = k
      · rw [if_pos (by rw [h.1, z]), if_pos z]
        exact ⟨h.1, g⟩
      · rw [if_neg (fun q => z (DKey.kinj (h.1.symm.trans q))), if_neg z]
        exact h
  rcases lk with ⟨e1, e2⟩ | ⟨u, b, e1, e2, _⟩
  · rw [e1, if_neg (by decide), if_neg (getA_none.mp e2)]
    exact app h
  · rw [e1, if_pos (show (some u).isSome = true from rfl), if_pos (by
      have := getA_isSome (l := l) (k := k)
      rw [e2] at this
      exact of_decide_eq_true this.symm)]
    exact mp h
theorem DR.len {kvs : List (DKey.κ' κ × V)} (h : DR ns H kvs l) : kvs.length = l.length := Paired.length h
theorem r_dinA [dc : Decidable (k ∈ l.map (·.1))] (h : Dcr ns H d l) (g : At H y k) (q : Q (.bl (decide (k ∈ l.map (·.1)))) H) : DInG (.ref d) y H Q := by
  obtain ⟨kvs, e, r⟩ := h
  refine ⟨d, _, rfl, DKey.get e g, ?_⟩
  rw [← getA_isSome] at q
  rcases r.look k with ⟨e1, e2⟩ | ⟨v, a, e1, e2, _⟩
  · rw [e1]
    rw [e2] at q
    exact q
  · rw [e1]
    rw [e2] at q
    exact q
theorem r_dninA [dc : Decidable (k ∈ l.map (·.1))] (h : Dcr ns H d l) (g : At H y k) (q : Q (.bl (!decide (k ∈ l.map (·.1)))) H) : DNinG (.ref d) y H Q := by
  obtain ⟨kvs, e, r⟩ := h
  refine ⟨d, _, rfl, DKey.get e g, ?_⟩
  rw [← getA_isSome] at q
  rcases r.look k with ⟨e1, e2⟩ | ⟨v, a, e1, e2, _⟩
  · rw [e1]
    rw [e2] at q
    exact q
  · rw [e1]
    rw [e2] at q
    exact q
theorem r_dgetA (h : Dcr ns H d l) (g : At H y k) (e : getA l k = some a) (q : ∀ x, At (del ns H) x a → Q x H) : DGetG (.ref d) y H Q := by
  obtain ⟨kvs, ed, r⟩ := h
  rcases r.look k with ⟨e1, e2⟩ | ⟨v, a', e1, e2, hv⟩
  · rw [e] at e2
    cases e2
  · rw [e] at e2
    cases e2
    exact ⟨d, v, rfl, e1 ▸ DKey.get ed g, q v hv⟩
theorem r_dputA {nx : Hp → Prop} (lv : Live ns H) (m : d ∈ ns) (h : Dc ns H d l) (g : At H y k) (gv : At (del ns H) v a) (hl : l.length < 100000) (q : ∀ H', Fr ns H ns H' → But d H H' → Dc ns H' d (putA l k a) → nx H') : ∃ b H4, V.ref d = .ref b ∧ DPut H b y v H4 ∧ nx H4 := by
  obtain ⟨kvs, e, r⟩ := h
  have f : Fr ns H ns (upd H d (DKey.ho (κ := κ) (putK kvs (DKey.kf k) v))) := .put lv m (fun _ => DKey.noT)
  exact ⟨d, _, rfl, DKey.put e g (szl (by rw [r.len]; exact hl)), q _ f But.upd ⟨_, upd_same, (r.put gv k).fr f⟩⟩
/-- a new dict without entries -/
theorem newD (lv : Live ns H) (h : H d = none) : Fr ns H (d :: ns) (upd H d (DKey.ho (κ := κ) [])) ∧ Dc (κ := κ) (α := α) (d :: ns) (upd H d (DKey.ho (κ := κ) [])) d [] := ⟨.mkO lv h (fun _ => DKey.noT), [], upd_same, .nil⟩
end
/-- the pairs of a dict of texts and worths -/
theorem Dc.pairs {ns : List Addr} {H : Hp} {d : Addr} {l : List (Str × Wo)} (h : Dc ns H d l) : ∃ ps : List (Str × V × Wo), H d = some (.dK (ps.map fun e => (.inr e.1, e.2.1))) ∧ ps.map (fun e => (e.1, e.2.2)) = l ∧ ∀ e ∈ ps, At (del ns H) e.2.1 e.2.2 := by
  obtain ⟨kvs, e, r⟩ := h
  have : ∀ {xs : List (Key × V)} {ys : List (Str × Wo)}, DR ns H xs ys → ∃ ps : List (Str × V × Wo), xs = ps.map (fun e => (.inr e.1, e.2.1)) ∧ ps.map (fun e => (e.1, e.2.2)) = ys ∧ ∀ e ∈ ps, At (del ns H) e.2.1 e.2.2 := by
    intro xs ys h
    induction h with
    | nil => exact ⟨[], rfl, rfl, fun e m => by cases m⟩
    | @cons kv e _ _ h _ ih =>
      obtain ⟨ps, h1, h2, h3⟩ := ih
      refine ⟨(e.1, kv.2, e.2) :: ps, ?_, by rw [List.map_cons, h2], fun f m => ?_⟩
      · rw [List.map_cons, ← h1, ← show kv.1 = .inr e.1 from h.1]
      · rcases List.mem_cons.mp m with rfl | m
        · exact h.2
        · exact h3 f m
  obtain ⟨ps, h1, h2, h3⟩ := this r
  exact ⟨ps, by rw [e, h1]; rfl, h2, h3⟩
/-- for k in d, d a dict of worths -/
theorem LK {α : Type} [Dat α] {K : PySem.W.Frag} {ns : List Addr} {H : Hp} {d : Addr} {l : List (Wo × α)} {σ : L2.St} {g : TG} {tb : TS} {nx : L2.St → Hp → Prop} {rt : VK} {bk ct : L2.St → Hp → Prop} {te : TE} (lv : Live ns H) (m : d ∈ ns) (h : Dc ns H d l) (ok : ∀ e ∈ l, PyData.strOk e.1.1 = true) (hte : ∀ {H1 : Hp} {R : VK}, R (.ref d) H1 → te σ H1 R)
    (Pv : Hp → Nat → L2.St → Hp → Prop) (h0 : ∀ H1, Fr ns H ns H1 → But d H H1 → Dcr ns H1 d l → Pv H1 0 σ H1) (hF : ∀ H1 i σ H', Pv H1 i σ H' → Fr ns H1 ns H' ∧ H' d = H1 d)
    (hs : ∀ H1 i e x σ H' (rt2 : VK) (nx2 : L2.St → Hp → Prop), Dcr ns H1 d l → Fr ns H ns H1 → But d H H1 → (∀ v H', Fr ns H1 ns H' → H' d = H1 d → (∀ H2, Fr ns H' ns H2 → But d H' H2 → H2 d = H d → Dc ns H2 d l → rt v H2) → rt2 v H') → l[i]? = some e → At (del ns H') x e.1 → Pv H1 i σ H' → g x σ H' fun σ2 H2 => tb ⟨Pv H1 (i + 1), rt2, nx2, Pv H1 (i + 1)⟩ σ2 H2)
    (hd : ∀ H1 σ H' H2, Pv H1 l.length σ H' → Fr ns H ns H1 → But d H H1 → Fr ns H' ns H2 → But d H' H2 → H2 d = H d → Dc ns H2 d l → nx σ H2) : tLock (tFor (iKeys te) g tb) ⟨nx, rt, bk, ct⟩ σ H := by
  obtain ⟨kvs, e, r⟩ := h
  refine ⟨d, _, e, trivial, fun od => ?_⟩
  have f1 : Fr ns H ns (upd H d (.frz od (.dT kvs))) := .put lv m (fun _ e => by cases e)
  have b1 : But d H (upd H d (.frz od (.dT kvs))) := But.upd
  have e1 : (upd H d (.frz od (.dT kvs))) d = some (.frz od (.dT kvs)) := upd_same
  have r1 := r.fr f1
  generalize upd H d (.frz od (.dT kvs)) = H1 at f1 b1 e1 r1 ⊢
  have dr1 : Dcr ns H1 d l := ⟨kvs, .inr ⟨od, e1⟩, r1⟩
  have un : ∀ H', Fr ns H1 ns H' → H' d = H1 d → H' d = some (.frz od (.dT kvs)) ∧ Fr ns H' ns (upd H' d (.dT kvs)) ∧ But d H' (upd H' d (.dT kvs)) ∧ (upd H' d (.dT kvs)) d = H d ∧ Dc ns (upd H' d (.dT kvs)) d l := fun H' f hd => by
    have f2 : Fr ns H' ns (upd H' d (.dT kvs)) := .put f.live m (fun _ e => by cases e)
    exact ⟨hd.trans e1, f2, But.upd, upd_same.trans e.symm, kvs, upd_same, (r1.fr f).fr f2⟩
  refine r_for (r_ikeys (hte ?_))
  refine ⟨d, od, rfl, .inr ⟨kvs, e1, ?_⟩⟩
  refine L_it (walk_keysT (d := d) (o := od) (kvs := kvs)) (Pv H1) (h0 H1 f1 b1 dr1) (fun i σ H' _ hp => (hF H1 i σ H' hp).2.trans e1) ?_ ?_
  · rintro i x σ H' H'' hi hp ⟨rfl, k, v, q, ek, rfl, eq⟩
    obtain ⟨e2, ee2, hk2⟩ : ∃ e2, l[i]? = some e2 ∧ k = wk e2.1 := by
      have hl : i < l.length := by rw [← r.len]; exact hi
      have := r.keys
      have h3 : (kvs.map (·.1))[i]? = some k := by rw [List.getElem?_map, ek]; rfl
      rw [this, List.getElem?_map] at h3
      obtain ⟨e2, h4, h5⟩ := Option.map_eq_some_iff.mp h3
      exact ⟨e2, h4, h5.symm⟩
    have fH := (hF H1 i σ H'' hp)
    have hx : At (del ns H'') (.ref q) e2.1 := Imm.out fH.1.live (at_wo.mpr ⟨q, rfl, by rw [eq, hk2, wk_kV], ok e2 (List.mem_of_getElem? ee2)⟩)
    exact hs H1 i e2 _ σ H'' _ _ dr1 f1 b1 (fun v H3 f3 h3 k3 => ⟨(un H3 f3 h3).1, k3 _ (un H3 f3 h3).2.1 (un H3 f3 h3).2.2.1 (un H3 f3 h3).2.2.2.1 (un H3 f3 h3).2.2.2.2⟩) ee2 hx hp
  · intro σ H' hp
    have fH := hF H1 _ σ H' hp
    have u := un H' fH.1 fH.2
    exact ⟨u.1, hd H1 σ H' _ (by rw [← r.len]; exact hp) f1 b1 u.2.1 u.2.2.1 u.2.2.2.1 u.2.2.2.2⟩
end G

namespace G
open PySem L2 TL
open Dat (At enc)
/-! ### pictures -/
abbrev Going := T3 Int Int (List Wo)
abbrev Pic := T4 (List Wo) (List (Str × Wo)) (List Going) (List (Int × Wo))
instance : DecidableEq Going := inferInstanceAs (DecidableEq (T3 Int Int (List Wo)))
instance : DecidableEq Pic := inferInstanceAs (DecidableEq (T4 (List Wo) (List (Str × Wo)) (List Going) (List (Int × Wo))))
def lets : List Nat := ("abcdefghijklmnopqrstuvwxyz" : Str).cps.toList
def isName (z : Str) : Bool := (decide (1 ≤ z.length) && decide (z.length ≤ 8)) && z.cps.toList.all fun c => decide (c ∈ lets)
def isPileW (ws : List Wo) : Bool := ws.all fun w => isW w.1 w.2
def riseI (l : List Int) : Bool := (l.zip (l.drop 1)).all fun p => decide (p.1 < p.2)
def riseS (l : List Str) : Bool := (l.zip (l.drop 1)).all fun p => decide (p.1.cps.toList < p.2.cps.toList)
def arePegs (l : List (Str × Wo)) : Bool := (l.all fun r => isName r.1 && isW r.2.1 r.2.2) && riseS (l.map (·.1))
def areGoings (l : List Going) : Bool := (l.all fun r => decide (0 ≤ r.a) && (decide (0 ≤ r.b) && isPileW r.c)) && riseI (l.map (·.a))
def areBoxes (l : List (Int × Wo)) : Bool := (l.all fun r => decide (0 ≤ r.1) && isW r.2.1 r.2.2) && riseI (l.map (·.1))
def standingP (p : Pic) : List Wo := p.a ++ p.b.map (·.2) ++ p.d.map (·.2) ++ (p.c.map (·.c)).flatten
def thingsP (p : Pic) : List Wo := p.d.map (fun r => (("box", r.1) : Wo)) ++ p.c.map (fun r => (("go", r.a) : Wo))
def rootsP (p : Pic) : List Wo := thingsOf (p.a ++ p.b.map (·.2))
def isPic (p : Pic) : Bool := isPileW p.a && (arePegs p.b && (areGoings p.c && (areBoxes p.d && (decide ((thingsOf (standingP p)).length = (thingsP p).length) && (thingsP p).all fun t => decide (t ∈ thingsOf (standingP p))))))
theorem ok_box : PyData.strOk "box" = true := by decide +kernel
theorem ok_go : PyData.strOk "go" = true := by decide +kernel
theorem ok_num : PyData.strOk "num" = true := by decide +kernel
theorem ok_at : PyData.strOk "at" = true := by decide +kernel
theorem len_flat_mem {α β : Type} (f : α → List β) : ∀ {l : List α} {a : α}, a ∈ l → (f a).length ≤ ((l.map f).flatten).length
  | b :: r, a, m => by
    rw [List.map_cons, List.flatten_cons, List.length_append]
    rcases List.mem_cons.mp m with rfl | m
    · omega
    · have := len_flat_mem f m
      omega
theorem nodup_take {α : Type} : ∀ {l : List α} {i : Nat} {a : α}, l.Nodup → l[i]? = some a → a ∉ l.take i
  | _ :: _, 0, _, _, _ => by simp
  | b :: r, i + 1, a, nd, h => by
    rw [List.nodup_cons] at nd
    have h' : r[i]? = some a := by simpa using h
    rw [List.take_succ_cons]
    intro m
    rcases List.mem_cons.mp m with e | m
    · subst e
      exact nd.1 (List.mem_of_getElem? h')
    · exact nodup_take nd.2 h' m
theorem WellAt.lv {H : Hp} {p : Addr} {n : Nat} (h : WellAt H p n) : Lv H p := by
  obtain ⟨a, b, c, e, _⟩ := h
  exact .lst e
theorem pick2 {α : Type} {a b : α} {i : Int} (h0 : 0 ≤ i) (h1 : i < 2) : ∃ m, atI [a, b] i = some m ∧ ((i = 0 ∧ m = a) ∨ (i = 1 ∧ m = b)) := by
  have c : i = 0 ∨ i = 1 := by omega
  rcases c with rfl | rfl
  · exact ⟨a, rfl, .inl ⟨rfl, rfl⟩⟩
  · exact ⟨b, rfl, .inr ⟨rfl, rfl⟩⟩
theorem e30 : (10 : Int) ^ Int.toNat 30 = 1000000000000000000000000000000 := by decide +kernel
theorem atI_mem' {α : Type} {l : List α} {i : Int} {a : α} (h : atI l i = some a) : a ∈ l := by
  unfold atI at h
  cases j : ixN l.length i with
  | none =>
    rw [j] at h
    cases h
  | some k =>
    rw [j] at h
    exact List.mem_of_getElem? h
theorem isW_at {n : Int} (h : 0 ≤ n) : isW "at" n = true := by
  unfold isW
  rw [decide_eq_true h]
  decide +kernel
theorem isW_num {n : Int} : isW "num" n = true := rfl
theorem isT_at {n : Int} : isT ("at", n) = false := by
  show (("at" : Str) == "box" || ("at" : Str) == "go") = false
  decide +kernel
theorem isT_num {n : Int} : isT ("num", n) = false := by
  show (("num" : Str) == "box" || ("num" : Str) == "go") = false
  decide +kernel
/-! names -/
theorem isName_iff {z : Str} : isName z = true ↔ 1 ≤ (tl z).length ∧ (tl z).length ≤ 8 ∧ ∀ c ∈ tl z, c ∈ lets := by
  unfold isName
  rw [Bool.and_eq_true, Bool.and_eq_true, decide_eq_true_eq, decide_eq_true_eq, List.all_eq_true]
  have : z.length = (tl z).length := len_tl z
  rw [this]
  constructor
  · rintro ⟨⟨h1, h2⟩, h3⟩
    exact ⟨h1, h2, fun c m => of_decide_eq_true (h3 c m)⟩
  · rintro ⟨h1, h2, h3⟩
    exact ⟨⟨h1, h2⟩, fun c m => decide_eq_true (h3 c m)⟩
theorem isName_ok {z : Str} (h : isName z = true) : PyData.strOk z = true := by
  have := (isName_iff.mp h).2.2
  have b : ∀ c ∈ lets, c < 1114112 := by decide +kernel
  unfold PyData.strOk
  rw [← Array.all_toList, List.all_eq_true]
  exact fun c m => decide_eq_true (b c (this c m))
theorem est_well {w0 D : Addr} {H H' : Hp} {n : Nat} {o : HO} (h : H D = none) (ne : w0 ≠ D) (e : But w0 H H' ∧ WellAt H' w0 n) : But w0 H (upd H' D o) ∧ WellAt (upd H' D o) w0 n := by
  obtain ⟨b, a, b1, c, e, r⟩ := e
  exact ⟨But.upd' b h, a, b1, c, by rw [upd_ne ne]; exact e, r⟩
theorem joinL_nil : ∀ ps : List (List Nat), joinL [] ps = ps.flatten
  | [] => rfl
  | [p] => by simp [joinL]
  | p :: q :: r => by
    have ih := joinL_nil (q :: r)
    show p ++ ([] ++ joinL [] (q :: r)) = _
    rw [ih]
    simp
theorem isName_join {zs : List Str} (h0 : 1 ≤ zs.length) (h8 : zs.length ≤ 8) (h : ∀ s ∈ zs, ∃ c ∈ lets, s = (⟨#[c]⟩ : Str)) : isName (Txt.join "" zs) = true ∧ (zs.map (·.length)).sum = zs.length := by
  have e : tl (Txt.join "" zs) = (zs.map tl).flatten := by
    rw [← joinL_nil, join_eq]
    exact tl_join _ _
  have k : ∀ l : List Str, (∀ s ∈ l, ∃ c ∈ lets, s = (⟨#[c]⟩ : Str)) → (l.map tl).flatten.length = l.length ∧ (l.map (·.length)).sum = l.length ∧ ∀ c ∈ (l.map tl).flatten, c ∈ lets := by
    intro l
    induction l with
    | nil => exact fun _ => ⟨rfl, rfl, fun c m => by cases m⟩
    | cons s r ih =>
      intro h
      obtain ⟨i1, i2, i3⟩ := ih fun x m => h x (List.mem_cons_of_mem _ m)
      obtain ⟨c, mc, rfl⟩ := h s List.mem_cons_self
      have t1 : tl (⟨#[c]⟩ : Str) = [c] := rfl
      have t2 : (⟨#[c]⟩ : Str).length = 1 := rfl
      refine ⟨?_, ?_, ?_⟩
      · rw [List.map_cons, List.flatten_cons, List.length_append, i1, t1]
        simp
        omega
      · rw [List.map_cons, List.sum_cons, i2, t2]
        simp
        omega
      · rw [List.map_cons, List.flatten_cons, t1]
        intro d m
        rcases List.mem_append.mp m with m | m
        · rw [List.mem_singleton.mp m]
          exact mc
        · exact i3 d m
  obtain ⟨k1, k2, k3⟩ := k zs h
  refine ⟨isName_iff.mpr ⟨?_, ?_, ?_⟩, k2⟩
  · rw [e, k1]
    exact h0
  · rw [e, k1]
    exact h8
  · rw [e]
    exact k3
/-! ### many wells -/
def Buts (W : List Addr) (H H' : Hp) : Prop := ∀ b o, H b = some o → b ∉ W → H' b = some o
def Wls (W : List Addr) (n : Nat) (H : Hp) : Prop := ∀ p ∈ W, WellAt H p n
section
variable {W ns ms : List Addr} {H H' H1 H2 : Hp} {p q d : Addr} {n m : Nat} {o : HO}
theorem Buts.refl : Buts W H H := fun _ _ h _ => h
theorem Buts.trans (a : Buts W H H1) (b : Buts W H1 H2) : Buts W H H2 := fun c o e k => b c o (a c o e k) k
theorem Buts.of (s : Same H H') : Buts W H H' := fun b o h _ => s b o h
theorem But.buts (b : But p H H') (m : p ∈ W) : Buts W H H' := fun c o e k => b c o e fun z => k (z ▸ m)
theorem Buts.but (b : Buts W H H1) (n : H d = none) (c : But d H1 H2) : Buts W H H2 := fun x o e k => c x o (b x o e k) (ne_of_none e n)
theorem Buts.own (b : Buts W H H1) (n : H d = none) : Buts W H (upd H1 d o) := b.but n But.upd
theorem Buts.fr (b : Buts W H H') (l : Live ns H) (s : ∀ a ∈ W, a ∈ ns) (t : ∀ a ∈ W, Lv H' a) : Fr ns H ns H' := by
  refine ⟨fun c u e => ?_, fun c hc => ?_⟩
  · obtain ⟨e1, k⟩ := of_del e
    exact del_at (b c u e1 fun z => k (s c z)) k
  · by_cases z : c ∈ W
    · exact t c z
    · obtain ⟨u, h, k⟩ := l c hc
      exact ⟨u, b _ _ h z, k⟩
theorem Wls.mono (h : Wls W n H) (l : n ≤ m) : Wls W m H := fun p hp => (h p hp).mono l
theorem Wls.same (h : Wls W n H) (s : Same H H') : Wls W n H' := fun p hp => (h p hp).same s
theorem Wls.draw (h : Wls W n H) (b : But p H H') (w : WellAt H' p (n + m)) : Wls W (n + m) H' := fun q hq => by
  by_cases e : q = p
  · rw [e]
    exact w
  · obtain ⟨x, y, z, eq, r⟩ := h q hq
    exact WellAt.mono ⟨x, y, z, b _ _ eq e, r⟩ (by omega)
theorem Wls.but (h : Wls W n H) (b : But d H H') (k : d ∉ W) : Wls W n H' := fun q hq => by
  obtain ⟨x, y, z, eq, r⟩ := h q hq
  exact ⟨x, y, z, b _ _ eq (fun e => k (e ▸ hq)), r⟩
theorem Wls.lv (h : Wls W n H) : ∀ a ∈ W, Lv H a := fun a m => (h a m).lv
theorem Wls.upd (h : Wls W n H) (k : d ∉ W) : Wls W n (upd H d o) := h.but But.upd k
/-- a list of wells that stands -/
def WellsAt (ns : List Addr) (H : Hp) (v : V) (wa : List Addr) : Prop := ∃ a, v = .ref a ∧ del ns H a = some (.lst (wa.map .ref))
theorem WellsAt.fr {v : V} {wa : List Addr} (f : Fr ns H ms H') (h : WellsAt ns H v wa) : WellsAt ms H' v wa := by
  obtain ⟨a, e, h⟩ := h
  exact ⟨a, e, f.same _ _ h⟩
theorem r_ixW {K : PySem.W.Frag} {Q : VK} {v : V} {wa : List Addr} {i : Int} (h : WellsAt ns H v wa) (e : atI wa i = some p) (q : Q (.ref p) H) : rIxL K v (.int i) H Q := by
  obtain ⟨a, rfl, h⟩ := h
  refine ⟨a, _, i, _, rfl, rfl, .inl (.inl (of_del h).1), ?_, q⟩
  unfold atI at e ⊢
  rw [List.length_map]
  cases j : ixN wa.length i with
  | none =>
    rw [j] at e
    cases e
  | some k =>
    rw [j] at e
    show (wa.map V.ref)[k]? = _
    rw [List.getElem?_map]
    rw [show wa[k]? = some p from e]
    rfl
theorem r_lenW {K : PySem.W.Frag} {v : V} {wa : List Addr} {R : Nat → Prop} (h : WellsAt ns H v wa) (q : R wa.length) : ∃ x n, [v] = [x] ∧ LenV K x H n ∧ R n := by
  obtain ⟨a, rfl, h⟩ := h
  exact ⟨_, _, rfl, .inl ⟨_, .inl (.inl (of_del h).1), rfl⟩, by rw [List.length_map]; exact q⟩
end
/-- things by their numbers -/
structure NamesOk (names : List Wo) (x y : Int) : Prop where
  kind : ∀ w ∈ names, (w.1 = "box" ∧ w.2 ≤ x) ∨ (w.1 = "go" ∧ w.2 ≤ y)
  pos : ∀ w ∈ names, 0 ≤ w.2
  rise : names.Pairwise fun a b => a.1 = b.1 → a.2 < b.2
theorem NamesOk.snoc {names : List Wo} {x y x' y' : Int} {w : Wo} (h : NamesOk names x y) (hx : x ≤ x') (hy : y ≤ y') (k : (w.1 = "box" ∧ w.2 = x' ∧ x < x') ∨ (w.1 = "go" ∧ w.2 = y' ∧ y < y')) (p : 0 ≤ w.2) : NamesOk (names ++ [w]) x' y' := by
  refine ⟨fun a m => ?_, fun a m => ?_, ?_⟩
  · rcases List.mem_append.mp m with m | m
    · rcases h.kind a m with ⟨e, l⟩ | ⟨e, l⟩
      · exact .inl ⟨e, by omega⟩
      · exact .inr ⟨e, by omega⟩
    · rw [List.mem_singleton.mp m]
      rcases k with ⟨e, l, _⟩ | ⟨e, l, _⟩
      · exact .inl ⟨e, by omega⟩
      · exact .inr ⟨e, by omega⟩
  · rcases List.mem_append.mp m with m | m
    · exact h.pos a m
    · rw [List.mem_singleton.mp m]
      exact p
  · rw [List.pairwise_append]
    refine ⟨h.rise, by simp, fun a ma b mb e => ?_⟩
    rw [List.mem_singleton] at mb
    subst mb
    have ne : ("box" : Str) ≠ "go" := by decide +kernel
    rcases h.kind a ma with ⟨e1, l⟩ | ⟨e1, l⟩ <;> rcases k with ⟨e2, l2, _⟩ | ⟨e2, l2, _⟩
    · omega
    · exact absurd (e1.symm.trans (e.trans e2)) ne
    · exact absurd (e2.symm.trans (e.symm.trans e1)) ne
    · omega
/-! ### many lists that may change -/
structure Rows (ns : List Addr) (H : Hp) (cs : List (Addr × List Wo)) : Prop where
  own : ∀ e ∈ cs, e.1 ∈ ns ∧ Own ns H e.1 e.2
  nd : (cs.map (·.1)).Nodup
section
variable {ns ms hs W : List Addr} {H H' : Hp} {cs : List (Addr × List Wo)} {a : Addr} {ws ws' : List Wo} {j : Nat} {v : V}
theorem Rows.at_ (R : Rows ns H cs) (m : a ∈ cs.map (·.1)) : ∃ (j : Nat) (ws : List Wo), cs[j]? = some (a, ws) ∧ a ∈ ns ∧ Own ns H a ws := by
  obtain ⟨e, me, rfl⟩ := List.mem_map.mp m
  obtain ⟨j, hj⟩ := List.mem_iff_getElem?.mp me
  exact ⟨j, e.2, hj, R.own e me⟩
theorem Rows.keep (R : Rows ns H cs) (f : Fr ns H ns H') (k : ∀ e ∈ cs, ∀ o, H e.1 = some o → H' e.1 = some o) : Rows ns H' cs :=
  ⟨fun e m => ⟨(R.own e m).1, (R.own e m).2.fr f (k e m)⟩, R.nd⟩
theorem set_fst {α β : Type} : ∀ {cs : List (α × β)} {j : Nat} {a : α} {ws ws' : β}, cs[j]? = some (a, ws) → (cs.set j (a, ws')).map (·.1) = cs.map (·.1)
  | [], _, _, _, _, h => by cases h
  | _ :: _, 0, _, _, _, h => by
    cases h
    rfl
  | _ :: r, j + 1, _, _, _, h => by
    rw [List.set_cons_succ, List.map_cons, List.map_cons, set_fst (cs := r) (j := j) (by simpa using h)]
theorem mem_set_ne {α β : Type} : ∀ {cs : List (α × β)} {j : Nat} {a : α} {ws ws' : β}, (cs.map (·.1)).Nodup → cs[j]? = some (a, ws) → ∀ e ∈ cs.set j (a, ws'), e = (a, ws') ∨ (e ∈ cs ∧ e.1 ≠ a)
  | [], _, _, _, _, _, h, _, _ => by cases h
  | x :: r, 0, a, ws, ws', nd, h, e, m => by
    cases h
    rw [List.set_cons_zero] at m
    rw [List.map_cons, List.nodup_cons] at nd
    rcases List.mem_cons.mp m with m | m
    · exact .inl m
    · exact .inr ⟨List.mem_cons_of_mem _ m, fun q => nd.1 (List.mem_map.mpr ⟨e, m, q⟩)⟩
  | x :: r, j + 1, a, ws, ws', nd, h, e, m => by
    rw [List.set_cons_succ] at m
    rw [List.map_cons, List.nodup_cons] at nd
    have h' : r[j]? = some (a, ws) := by simpa using h
    rcases List.mem_cons.mp m with m | m
    · refine .inr ⟨by rw [m]; exact List.mem_cons_self, fun q => nd.1 (List.mem_map.mpr ⟨_, List.mem_of_getElem? h', ?_⟩)⟩
      rw [← q, m]
    · rcases mem_set_ne nd.2 h' e m with q | ⟨q, n⟩
      · exact .inl q
      · exact .inr ⟨List.mem_cons_of_mem _ q, n⟩
theorem Rows.ins (R : Rows ns H cs) (hj : cs[j]? = some (a, ws)) (f : Fr ns H ns H') (b : But a H H') (o : Own ns H' a ws') : Rows ns H' (cs.set j (a, ws')) := by
  refine ⟨fun e m => ?_, by rw [set_fst hj]; exact R.nd⟩
  rcases mem_set_ne R.nd hj e m with rfl | ⟨m, n⟩
  · exact ⟨(R.own _ (List.mem_of_getElem? hj)).1, o⟩
  · exact ⟨(R.own e m).1, (R.own e m).2.but f b n⟩
theorem hosts_at (h : WellsAt ns H v hs) (R : Rows ns H cs) (s : ∀ a ∈ hs, a ∈ cs.map (·.1)) : ∃ ls : List (List Wo), At H v ls ∧ ls.length = hs.length := by
  obtain ⟨a, rfl, h⟩ := h
  have k : ∀ l : List Addr, (∀ a ∈ l, a ∈ cs.map (·.1)) → ∃ ls : List (List Wo), Ats H (l.map V.ref) ls ∧ ls.length = l.length := by
    intro l
    induction l with
    | nil => exact fun _ => ⟨[], .nil, rfl⟩
    | cons x r ih =>
      intro s
      obtain ⟨ls, h1, h2⟩ := ih fun a m => s a (List.mem_cons_of_mem _ m)
      obtain ⟨j, ws, _, _, ys, e, ra⟩ := R.at_ (s x List.mem_cons_self)
      exact ⟨ws :: ls, .cons ⟨x, ys, rfl, e, ra.same del_sub⟩ h1, by rw [List.length_cons, h2]; rfl⟩
  obtain ⟨ls, h1, h2⟩ := k hs s
  exact ⟨ls, ⟨a, _, rfl, (of_del h).1, h1⟩, h2⟩
end
theorem insAt_mem {α : Type} {l : List α} {i : Nat} {a b : α} : b ∈ insAt l i a ↔ b = a ∨ b ∈ l := by
  unfold insAt
  rw [List.mem_append, List.mem_append, List.mem_singleton]
  have h := List.take_append_drop i l
  constructor
  · rintro ((m | m) | m)
    · exact .inr (List.mem_of_mem_take m)
    · exact .inl m
    · exact .inr (List.mem_of_mem_drop m)
  · rintro (m | m)
    · exact .inl (.inr m)
    · rw [← h] at m
      rcases List.mem_append.mp m with m | m
      · exact .inl (.inl m)
      · exact .inr m
theorem insAt_len {α : Type} {l : List α} {i : Nat} {a : α} : (insAt l i a).length = l.length + 1 := by
  unfold insAt
  have h := congrArg List.length (List.take_append_drop i l)
  rw [List.length_append] at h
  rw [List.length_append, List.length_append, List.length_singleton]
  omega
/-- what a thing was put on -/
def Held (t : Wo) (P : Addr) (hs : List Addr) (cs cs' : List (Addr × List Wo)) (pl pl' : List (Str × Wo)) : Prop :=
  (cs' = cs ∧ ∃ z, isName z = true ∧ z ∉ pl.map (·.1) ∧ pl' = pl ++ [(z, t)]) ∨ (pl' = pl ∧ ∃ (j : Nat) (a : Addr) (ws : List Wo) (i : Nat), cs[j]? = some (a, ws) ∧ (a = P ∨ a ∈ hs) ∧ cs' = cs.set j (a, insAt ws i t))
/-- [.. for a in l], l a list of lists that may change -/
theorem CW {γ : Type} [Dat γ] {K : PySem.W.Frag} {ns : List Addr} {H : Hp} {v : V} {wa : List Addr} {Q : VK} {g : TG} {tt : TT} {te : TE} {vs : List Nat} {σ : L2.St} (lv : Live ns H) (h : WellsAt ns H v wa)
    (E : Nat → Hp → Prop) (R : Nat → List γ → Prop) (r0 : R 0 []) (e0 : E 0 H) (est : ∀ i D o H', H D = none → D ∉ ns → E i H' → E i (upd H' D o))
    (hs : ∀ D i p zs H1, wa[i]? = some p → CInv ns H E R D i zs H1 → g (.ref p) (wipe σ vs) H1 fun σ2 H2 => wipe σ2 vs = wipe σ vs ∧ tt σ2 H2 fun b H3 =>
      if b = true then te σ2 H3 fun y H4 => ∃ acc, H4 D = some (.lst acc) ∧ acc.length < sizeLine ∧ CPv ns H E R D (i + 1) (upd H4 D (.lst (acc ++ [y]))) else CPv ns H E R D (i + 1) H3)
    (hd : ∀ D H' zs, H D = none → Fr ns H ns H' → E wa.length H' → R wa.length zs → zs.length ≤ wa.length → At (del ns H') (.ref D) zs → Q (.ref D) H') :
    ∃ a, v = .ref a ∧ (∃ xs, SqL K H a xs) ∧ LcL (Itl K a) g tt te vs σ H Q := by
  obtain ⟨t, rfl, h⟩ := h
  refine ⟨t, rfl, ⟨_, .inl (.inl (of_del h).1)⟩, CA_core (walk_list (K := K) (a := t) (xs := wa.map V.ref)) lv E R r0 e0 est (fun D H' f => .inl (.inl (of_del (f.same _ _ h)).1)) ?_ (by rw [List.length_map]; exact hd)⟩
  rintro D i x zs H1 H' hi k ⟨rfl, ex⟩
  rw [List.getElem?_map] at ex
  obtain ⟨p, ep, rfl⟩ := Option.map_eq_some_iff.mp ex
  exact hs D i p zs H' ep k
theorem Fr.mores {ns W : List Addr} {H H' : Hp} (l : Live ns H) (s : Same H H') (n : ∀ p ∈ W, H p = none) (t : ∀ p ∈ W, Lv H' p) : Fr ns H (W ++ ns) H' := by
  refine ⟨fun b u e => ?_, fun a m => ?_⟩
  · obtain ⟨e1, k⟩ := of_del e
    refine del_at (s b u e1) fun m => ?_
    rcases List.mem_append.mp m with m | m
    · rw [n b m] at e1
      cases e1
    · exact k m
  · rcases List.mem_append.mp m with m | m
    · exact t a m
    · exact l.same s a m
theorem atI_get {α : Type} {l : List α} {j : Nat} {a : α} (h : l[j]? = some a) : atI l (0 + (j : Int)) = some a := by
  rw [Int.zero_add]
  exact atI_nat h
theorem get_lt {α : Type} {l : List α} {j : Nat} (h : j < l.length) : l[j]? = some l[j] := List.getElem?_eq_getElem h
/-- one that is no thing -/
def Pl (w : Wo) : Prop := isW w.1 w.2 = true ∧ isT w = false
theorem gz_name {i : Nat} {σ : L2.St} {H : Hp} {Q : L2.St → Hp → Prop} {z : Int} (h0 : 0 ≤ z ∧ z ≤ 40) (h : ∀ n : Nat, n ≤ 40 → gName i (.int (n : Int)) σ H Q) : gName i (.int z) σ H Q := by
  have := h z.toNat (by omega)
  rwa [show ((z.toNat : Nat) : Int) = z by omega] at this
structure GoodPic (p : Pic) : Prop where
  pic : isPic p = true
  la : p.a.length ≤ 600
  lb : p.b.length ≤ 200
  lc : p.c.length ≤ 130
  ld : p.d.length ≤ 130
  ls : (standingP p).length ≤ 6000
theorem putA_mem {κ α : Type} [DecidableEq κ] {l : List (κ × α)} {k : κ} {a : α} {q : κ × α} (h : q ∈ putA l k a) : q ∈ l ∨ q = (k, a) := by
  unfold putA at h
  split at h
  · obtain ⟨e, me, rfl⟩ := List.mem_map.mp h
    by_cases z : e.1 = k
    · rw [if_pos z, z]
      exact .inr rfl
    · rw [if_neg z]
      exact .inl me
  · rcases List.mem_append.mp h with h | h
    · exact .inl h
    · exact .inr (List.mem_singleton.mp h)
def goF (names : List Wo) (pls : List Int) (rows : List (List Wo)) (k : Nat) : Option Going := if (names.getD k ("", 0)).1 = "go" then some ⟨(names.getD k ("", 0)).2, pls.getD k 0, rows.getD k []⟩ else none
def boF (names : List Wo) (rows : List (List Wo)) (k : Nat) : Option (Int × Wo) := if (names.getD k ("", 0)).1 = "box" then some ((names.getD k ("", 0)).2, (rows.getD k []).getD 0 ("", 0)) else none
theorem rise_of {α : Type} {r : α → α → Bool} : ∀ {l : List α}, l.Pairwise (fun a b => r a b = true) → ((l.zip (l.drop 1)).all fun p => r p.1 p.2) = true
  | [], _ => rfl
  | [a], _ => rfl
  | a :: b :: t, h => by
    rw [List.pairwise_cons] at h
    have ih := rise_of h.2
    show (r a b && (((b :: t).zip ((b :: t).drop 1)).all fun p => r p.1 p.2)) = true
    rw [h.1 b List.mem_cons_self, Bool.true_and]
    exact ih
theorem isT_box {n : Int} : isT ("box", n) = true := rfl
theorem isT_go {n : Int} : isT ("go", n) = true := by
  show (("go" : Str) == "box" || ("go" : Str) == "go") = true
  decide +kernel
theorem isW_box {n : Int} (h : 0 ≤ n) : isW "box" n = true := by
  unfold isW
  rw [decide_eq_true h]
  decide +kernel
theorem isW_go {n : Int} (h : 0 ≤ n) : isW "go" n = true := by
  unfold isW
  rw [decide_eq_true h]
  decide +kernel
theorem good_pic {names : List Wo} {x y : Int} {m : Nat} (no : NamesOk names x y) (ln : names.length = m) (hm : m ≤ 40) {pw : List Wo} {rows : List (List Wo)} {pls : List Int} {sp : List (Str × Wo)} (lr : rows.length = m) (lp : pls.length = m) (hp : ∀ z ∈ pls, 0 ≤ z)
    (kw : ∀ x ∈ pw, x ∈ names ∨ Pl x) (kr : ∀ r ∈ rows, r.length ≤ 60 ∧ ∀ x ∈ r, x ∈ names ∨ Pl x) (kb : ∀ (i : Nat) (r : List Wo) (w : Wo), rows[i]? = some r → names[i]? = some w → w.1 = "box" → r.length = 1) (ks : ∀ q ∈ sp, isName q.1 = true ∧ (q.2 ∈ names ∨ Pl q.2))
    (so : sp.Pairwise fun e f => lower e.1 f.1) (hd : ∀ (i : Nat) (w : Wo), i < m → names[i]? = some w → w ∈ pw ∨ (∃ q ∈ sp, q.2 = w) ∨ ∃ r ∈ rows, w ∈ r) (lpw : pw.length ≤ 300) (lsp : sp.length ≤ 100) :
    GoodPic ⟨pw, sp, (List.range m).filterMap (goF names pls rows), (List.range m).filterMap (boF names rows)⟩ ∧ (standingP ⟨pw, sp, (List.range m).filterMap (goF names pls rows), (List.range m).filterMap (boF names rows)⟩).length ≤ 5000 := by
  have nbg : ("box" : Str) ≠ "go" := by decide +kernel
  have gw : ∀ w, w ∈ names ∨ Pl w → isW w.1 w.2 = true := fun w h => by
    rcases h with h | h
    · have p := no.pos w h
      obtain ⟨a, b⟩ := w
      rcases no.kind _ h with ⟨e, _⟩ | ⟨e, _⟩
      · rw [show a = "box" from e]
        exact isW_box p
      · rw [show a = "go" from e]
        exact isW_go p
    · exact h.1
  have gt : ∀ w ∈ names, isT w = true := fun w h => by
    obtain ⟨a, b⟩ := w
    rcases no.kind _ h with ⟨e, _⟩ | ⟨e, _⟩
    · rw [show a = "box" from e]
      exact isT_box
    · rw [show a = "go" from e]
      exact isT_go
  have pile : ∀ l : List Wo, (∀ x ∈ l, x ∈ names ∨ Pl x) → isPileW l = true := fun l h => by
    unfold isPileW
    rw [List.all_eq_true]
    exact fun w mw => gw w (h w mw)
  have at_ : ∀ k, k < m → ∃ w r z, names[k]? = some w ∧ rows[k]? = some r ∧ pls[k]? = some z ∧ names.getD k ("", 0) = w ∧ rows.getD k [] = r ∧ pls.getD k 0 = z := fun k hk => by
    have h1 := get_lt (l := names) (j := k) (by omega)
    have h2 := get_lt (l := rows) (j := k) (by omega)
    have h3 := get_lt (l := pls) (j := k) (by omega)
    refine ⟨_, _, _, h1, h2, h3, ?_, ?_, ?_⟩
    · rw [List.getD_eq_getElem?_getD, h1]; rfl
    · rw [List.getD_eq_getElem?_getD, h2]; rfl
    · rw [List.getD_eq_getElem?_getD, h3]; rfl
  have mgo : ∀ g, g ∈ (List.range m).filterMap (goF names pls rows) ↔ ∃ (k : Nat) (w : Wo) (r : List Wo) (z : Int), k < m ∧ names[k]? = some w ∧ rows[k]? = some r ∧ pls[k]? = some z ∧ w.1 = "go" ∧ g = ⟨w.2, z, r⟩ := fun g => by
    rw [List.mem_filterMap]
    constructor
    · rintro ⟨k, hk, e⟩
      rw [List.mem_range] at hk
      obtain ⟨w, r, z, h1, h2, h3, h4, h5, h6⟩ := at_ k hk
      unfold goF at e
      rw [h4, h5, h6] at e
      split at e
      · rename_i c
        cases e
        exact ⟨k, w, r, z, hk, h1, h2, h3, c, rfl⟩
      · cases e
    · rintro ⟨k, w, r, z, hk, h1, h2, h3, c, rfl⟩
      refine ⟨k, List.mem_range.mpr hk, ?_⟩
      obtain ⟨w', r', z', g1, g2, g3, g4, g5, g6⟩ := at_ k hk
      rw [h1] at g1
      rw [h2] at g2
      rw [h3] at g3
      cases g1
      cases g2
      cases g3
      unfold goF
      rw [g4, g5, g6, if_pos c]
  have mbo : ∀ b, b ∈ (List.range m).filterMap (boF names rows) ↔ ∃ (k : Nat) (w x : Wo), k < m ∧ names[k]? = some w ∧ rows[k]? = some [x] ∧ w.1 = "box" ∧ b = (w.2, x) := fun b => by
    rw [List.mem_filterMap]
    constructor
    · rintro ⟨k, hk, e⟩
      rw [List.mem_range] at hk
      obtain ⟨w, r, z, h1, h2, h3, h4, h5, h6⟩ := at_ k hk
      unfold boF at e
      rw [h4, h5] at e
      split at e
      · rename_i c
        have l1 := kb k r w h2 h1 c
        obtain ⟨x, rfl⟩ := List.length_eq_one_iff.mp l1
        cases e
        exact ⟨k, w, x, hk, h1, h2, c, rfl⟩
      · cases e
    · rintro ⟨k, w, x, hk, h1, h2, c, rfl⟩
      refine ⟨k, List.mem_range.mpr hk, ?_⟩
      obtain ⟨w', r', z', g1, g2, g3, g4, g5, g6⟩ := at_ k hk
      rw [h1] at g1
      rw [h2] at g2
      cases g1
      cases g2
      unfold boF
      rw [g4, g5, if_pos c]
      rfl
  have pwn : ∀ (i j : Nat) (a b : Wo), i < j → names[i]? = some a → names[j]? = some b → a.1 = b.1 → a.2 < b.2 := fun i j a b hij ha hb e => by
    obtain ⟨hi, ei⟩ := List.getElem?_eq_some_iff.mp ha
    obtain ⟨hj, ej⟩ := List.getElem?_eq_some_iff.mp hb
    have := (List.pairwise_iff_getElem.mp no.rise) i j hi hj hij
    rw [ei, ej] at this
    exact this e
  have rgo : ((List.range m).filterMap (goF names pls rows)).Pairwise fun a b => a.a < b.a := by
    rw [List.pairwise_filterMap]
    refine List.Pairwise.imp_of_mem (fun {i j} mi mj hij g hg h hh => ?_) (List.pairwise_lt_range (n := m))
    rw [List.mem_range] at mi mj
    obtain ⟨w, r, z, h1, h2, h3, h4, h5, h6⟩ := at_ i mi
    obtain ⟨w', r', z', g1, g2, g3, g4, g5, g6⟩ := at_ j mj
    unfold goF at hg hh
    rw [h4] at hg
    rw [g4] at hh
    split at hg
    · rename_i c
      split at hh
      · rename_i c'
        cases hg
        cases hh
        exact pwn i j w w' hij h1 g1 (c.trans c'.symm)
      · cases hh
    · cases hg
  have rbo : ((List.range m).filterMap (boF names rows)).Pairwise fun a b => a.1 < b.1 := by
    rw [List.pairwise_filterMap]
    refine List.Pairwise.imp_of_mem (fun {i j} mi mj hij g hg h hh => ?_) (List.pairwise_lt_range (n := m))
    rw [List.mem_range] at mi mj
    obtain ⟨w, r, z, h1, h2, h3, h4, h5, h6⟩ := at_ i mi
    obtain ⟨w', r', z', g1, g2, g3, g4, g5, g6⟩ := at_ j mj
    unfold boF at hg hh
    rw [h4] at hg
    rw [g4] at hh
    split at hg
    · rename_i c
      split at hh
      · rename_i c'
        cases hg
        cases hh
        exact pwn i j w w' hij h1 g1 (c.trans c'.symm)
      · cases hh
    · cases hg
  have hth : ∀ t, t ∈ thingsP ⟨pw, sp, (List.range m).filterMap (goF names pls rows), (List.range m).filterMap (boF names rows)⟩ ↔ t ∈ names := fun t => by
    unfold thingsP
    rw [List.mem_append, List.mem_map, List.mem_map]
    constructor
    · rintro (⟨b, mb, rfl⟩ | ⟨g, mg, rfl⟩)
      · obtain ⟨k, w, x, _, h1, _, c, rfl⟩ := (mbo b).mp mb
        have := List.mem_of_getElem? h1
        rw [show ((("box", (w.2, x).1) : Wo)) = w from Prod.ext c.symm rfl]
        exact this
      · obtain ⟨k, w, r, z, _, h1, _, _, c, rfl⟩ := (mgo g).mp mg
        have := List.mem_of_getElem? h1
        rw [show ((("go", (⟨w.2, z, r⟩ : Going).a) : Wo)) = w from Prod.ext c.symm rfl]
        exact this
    · intro mt
      obtain ⟨k, hk⟩ := List.mem_iff_getElem?.mp mt
      have km : k < m := by
        have := (List.getElem?_eq_some_iff.mp hk).1
        omega
      obtain ⟨w, r, z, h1, h2, h3, _, _, _⟩ := at_ k km
      rw [hk] at h1
      cases h1
      rcases no.kind t mt with ⟨e, _⟩ | ⟨e, _⟩
      · obtain ⟨x, rfl⟩ := List.length_eq_one_iff.mp (kb k r t h2 hk e)
        exact .inl ⟨(t.2, x), (mbo _).mpr ⟨k, t, x, km, hk, h2, e, rfl⟩, Prod.ext e.symm rfl⟩
      · exact .inr ⟨⟨t.2, z, r⟩, (mgo _).mpr ⟨k, t, r, z, km, hk, h2, h3, e, rfl⟩, Prod.ext e.symm rfl⟩
  have hst : ∀ t, t ∈ thingsOf (standingP ⟨pw, sp, (List.range m).filterMap (goF names pls rows), (List.range m).filterMap (boF names rows)⟩) ↔ t ∈ names := fun t => by
    rw [mem_thingsOf]
    unfold standingP
    rw [List.mem_append, List.mem_append, List.mem_append, List.mem_map, List.mem_map, List.mem_flatten]
    constructor
    · rintro ⟨h, ht⟩
      have k : t ∈ names ∨ Pl t := by
        rcases h with ((h | ⟨q, mq, rfl⟩) | ⟨b, mb, rfl⟩) | ⟨r, mr, hr⟩
        · exact kw t h
        · exact (ks q mq).2
        · obtain ⟨k, w, x, _, _, h2, _, rfl⟩ := (mbo b).mp mb
          exact (kr _ (List.mem_of_getElem? h2)).2 x List.mem_cons_self
        · obtain ⟨g, mg, rfl⟩ := List.mem_map.mp mr
          obtain ⟨k, w, r, z, _, _, h2, _, _, rfl⟩ := (mgo g).mp mg
          exact (kr _ (List.mem_of_getElem? h2)).2 t hr
      rcases k with k | k
      · exact k
      · rw [k.2] at ht
        cases ht
    · intro mt
      refine ⟨?_, gt t mt⟩
      obtain ⟨k, hk⟩ := List.mem_iff_getElem?.mp mt
      have km : k < m := by
        have := (List.getElem?_eq_some_iff.mp hk).1
        omega
      rcases hd k t km hk with h | ⟨q, mq, e⟩ | ⟨r, mr, hr⟩
      · exact .inl (.inl (.inl h))
      · exact .inl (.inl (.inr ⟨q, mq, e⟩))
      · obtain ⟨j, hj⟩ := List.mem_iff_getElem?.mp mr
        have jm : j < m := by
          have := (List.getElem?_eq_some_iff.mp hj).1
          omega
        obtain ⟨w, r', z, h1, h2, h3, _, _, _⟩ := at_ j jm
        rw [hj] at h2
        cases h2
        rcases no.kind w (List.mem_of_getElem? h1) with ⟨e, _⟩ | ⟨e, _⟩
        · obtain ⟨x, rfl⟩ := List.length_eq_one_iff.mp (kb j r w hj h1 e)
          rw [List.mem_singleton] at hr
          subst hr
          exact .inl (.inr ⟨(w.2, t), (mbo _).mpr ⟨j, w, t, jm, h1, hj, e, rfl⟩, rfl⟩)
        · exact .inr ⟨r, List.mem_map.mpr ⟨⟨w.2, z, r⟩, (mgo _).mpr ⟨j, w, r, z, jm, h1, hj, h3, e, rfl⟩, rfl⟩, hr⟩
  have ndt : (thingsP ⟨pw, sp, (List.range m).filterMap (goF names pls rows), (List.range m).filterMap (boF names rows)⟩).Nodup := by
    unfold thingsP
    rw [List.nodup_append, List.nodup_iff_pairwise_ne, List.nodup_iff_pairwise_ne, List.pairwise_map, List.pairwise_map]
    refine ⟨rbo.imp fun {a b} h e => ?_, rgo.imp fun {a b} h e => ?_, fun a ma b mb e => ?_⟩
    · have : a.1 = b.1 := (Prod.mk.inj e).2
      omega
    · have : a.a = b.a := (Prod.mk.inj e).2
      omega
    · obtain ⟨u, _, rfl⟩ := List.mem_map.mp ma
      obtain ⟨v, _, rfl⟩ := List.mem_map.mp mb
      exact nbg (Prod.mk.inj e).1
  have hlen : (thingsOf (standingP ⟨pw, sp, (List.range m).filterMap (goF names pls rows), (List.range m).filterMap (boF names rows)⟩)).length = (thingsP ⟨pw, sp, (List.range m).filterMap (goF names pls rows), (List.range m).filterMap (boF names rows)⟩).length :=
    ((List.perm_ext_iff_of_nodup (things_nodup _) ndt).mpr fun t => (hst t).trans (hth t).symm).length_eq
  have hs5 : (standingP ⟨pw, sp, (List.range m).filterMap (goF names pls rows), (List.range m).filterMap (boF names rows)⟩).length ≤ 5000 := by
    have lf : ∀ l : List Going, (∀ g ∈ l, g.c.length ≤ 60) → ((l.map (·.c)).flatten).length ≤ 60 * l.length := by
      intro l
      induction l with
      | nil => exact fun _ => Nat.zero_le _
      | cons g r ih =>
        intro h
        rw [List.map_cons, List.flatten_cons, List.length_append, List.length_cons]
        have := ih fun x m => h x (List.mem_cons_of_mem _ m)
        have := h g List.mem_cons_self
        omega
    have l1 := lf ((List.range m).filterMap (goF names pls rows)) fun g mg => by
      obtain ⟨k, w, r, z, _, _, h2, _, _, rfl⟩ := (mgo g).mp mg
      exact (kr r (List.mem_of_getElem? h2)).1
    have l2 := List.length_filterMap_le (goF names pls rows) (List.range m)
    have l3 := List.length_filterMap_le (boF names rows) (List.range m)
    rw [List.length_range] at l2 l3
    unfold standingP
    simp only [List.length_append, List.length_map]
    omega
  refine ⟨⟨?_, by show pw.length ≤ 600; omega, by show sp.length ≤ 200; omega, ?_, ?_, by omega⟩, hs5⟩
  · unfold isPic
    have a1 : arePegs sp = true := by
      unfold arePegs riseS
      rw [Bool.and_eq_true]
      refine ⟨List.all_eq_true.mpr fun q mq => ?_, rise_of (r := fun (a b : Str) => decide (a.cps.toList < b.cps.toList)) ?_⟩
      · rw [(ks q mq).1, Bool.true_and]
        exact gw _ (ks q mq).2
      · rw [List.pairwise_map]
        exact so.imp fun {a b} h => decide_eq_true (p := a.1.cps.toList < b.1.cps.toList) h
    have a2 : areGoings ((List.range m).filterMap (goF names pls rows)) = true := by
      unfold areGoings riseI
      rw [Bool.and_eq_true]
      refine ⟨List.all_eq_true.mpr fun g mg => ?_, rise_of (r := fun (a b : Int) => decide (a < b)) ?_⟩
      · obtain ⟨k, w, r, z, _, h1, h2, h3, c, rfl⟩ := (mgo g).mp mg
        rw [decide_eq_true (no.pos w (List.mem_of_getElem? h1)), decide_eq_true (hp z (List.mem_of_getElem? h3)), pile r (kr r (List.mem_of_getElem? h2)).2]
        rfl
      · rw [List.pairwise_map]
        exact rgo.imp fun h => decide_eq_true h
    have a3 : areBoxes ((List.range m).filterMap (boF names rows)) = true := by
      unfold areBoxes riseI
      rw [Bool.and_eq_true]
      refine ⟨List.all_eq_true.mpr fun b mb => ?_, rise_of (r := fun (a b : Int) => decide (a < b)) ?_⟩
      · obtain ⟨k, w, x, _, h1, h2, c, rfl⟩ := (mbo b).mp mb
        rw [decide_eq_true (no.pos w (List.mem_of_getElem? h1)), gw x ((kr _ (List.mem_of_getElem? h2)).2 x List.mem_cons_self)]
        rfl
      · rw [List.pairwise_map]
        exact rbo.imp fun h => decide_eq_true h
    rw [pile pw kw, a1, a2, a3, decide_eq_true hlen, Bool.true_and, Bool.true_and, Bool.true_and, Bool.true_and, Bool.true_and]
    exact List.all_eq_true.mpr fun t mt => decide_eq_true ((hst t).mpr ((hth t).mp mt))
  · exact Nat.le_trans (List.length_filterMap_le _ _) (by rw [List.length_range]; omega)
  · exact Nat.le_trans (List.length_filterMap_le _ _) (by rw [List.length_range]; omega)
/-! ### what is held -/
def heldP (p : Pic) : List (Wo × List Wo) := p.d.map (fun r => ((("box", r.1) : Wo), thingsOf [r.2])) ++ p.c.map fun r => ((("go", r.a) : Wo), thingsOf r.c)
theorem heldP_keys (p : Pic) : (heldP p).map (·.1) = thingsP p := by
  unfold heldP thingsP
  rw [List.map_append, List.map_map, List.map_map]
  rfl
theorem rise_lt : ∀ {l : List Int}, riseI l = true → l.Pairwise (· < ·)
  | [], _ => .nil
  | [a], _ => by simp
  | a :: b :: t, h => by
    have h' : (decide (a < b) && riseI (b :: t)) = true := h
    rw [Bool.and_eq_true] at h'
    have ih := rise_lt h'.2
    rw [List.pairwise_cons]
    refine ⟨fun c m => ?_, ih⟩
    have ab := of_decide_eq_true h'.1
    rcases List.mem_cons.mp m with rfl | m
    · exact ab
    · have := (List.pairwise_cons.mp ih).1 c m
      omega
theorem things_nd {p : Pic} (h : isPic p = true) : (thingsP p).Nodup := by
  unfold isPic at h
  simp only [Bool.and_eq_true] at h
  obtain ⟨_, _, hg, hb, _⟩ := h
  unfold areGoings at hg
  unfold areBoxes at hb
  rw [Bool.and_eq_true] at hg hb
  have rg := rise_lt hg.2
  have rb := rise_lt hb.2
  rw [List.pairwise_map] at rg rb
  have nbg : ("box" : Str) ≠ "go" := by decide +kernel
  unfold thingsP
  rw [List.nodup_append, List.nodup_iff_pairwise_ne, List.nodup_iff_pairwise_ne, List.pairwise_map, List.pairwise_map]
  refine ⟨rb.imp fun {a b} h e => ?_, rg.imp fun {a b} h e => ?_, fun a ma b mb e => ?_⟩
  · have : a.1 = b.1 := (Prod.mk.inj e).2
    omega
  · have : a.a = b.a := (Prod.mk.inj e).2
    omega
  · obtain ⟨u, _, rfl⟩ := List.mem_map.mp ma
    obtain ⟨v, _, rfl⟩ := List.mem_map.mp mb
    exact nbg (Prod.mk.inj e).1
theorem pigeon {α : Type} [DecidableEq α] : ∀ {A B : List α}, A.Nodup → B.Nodup → (∀ a ∈ A, a ∈ B) → B.length ≤ A.length → ∀ b ∈ B, b ∈ A
  | [], B, _, _, _, l, b, m => by
    have : B = [] := List.eq_nil_of_length_eq_zero (Nat.le_zero.mp l)
    rw [this] at m
    cases m
  | a :: A, B, na, nb, s, l, b, m => by
    rw [List.nodup_cons] at na
    have ma := s a List.mem_cons_self
    have le : (B.erase a).length = B.length - 1 := List.length_erase_of_mem ma
    by_cases e : b = a
    · rw [e]
      exact List.mem_cons_self
    · refine List.mem_cons_of_mem _ (pigeon na.2 (nb.erase a) (fun x mx => (List.mem_erase_of_ne fun q => na.1 (by rw [← q]; exact mx)).mpr (s x (List.mem_cons_of_mem _ mx))) (by rw [le]; rw [List.length_cons] at l; omega) b ((List.mem_erase_of_ne e).mpr m))
theorem pic_mem {p : Pic} (h : isPic p = true) (w : Wo) : w ∈ thingsP p ↔ w ∈ standingP p ∧ isT w = true := by
  have nd := things_nd h
  unfold isPic at h
  simp only [Bool.and_eq_true] at h
  obtain ⟨_, _, _, _, hl, ha⟩ := h
  rw [← mem_thingsOf]
  have sub : ∀ t ∈ thingsP p, t ∈ thingsOf (standingP p) := fun t m => of_decide_eq_true (List.all_eq_true.mp ha t m)
  exact ⟨sub w, pigeon nd (things_nodup _) sub (Nat.le_of_eq (of_decide_eq_true hl)) w⟩
theorem heldP_get {p : Pic} {k : Wo} {l : List Wo} (nd : (thingsP p).Nodup) (h : (k, l) ∈ heldP p) : getA (heldP p) k = some l := getA_of (by rw [heldP_keys]; exact nd) h
theorem heldP_some {p : Pic} {k : Wo} (h : k ∈ thingsP p) : ∃ l, getA (heldP p) k = some l := by
  cases e : getA (heldP p) k with
  | some l => exact ⟨l, rfl⟩
  | none =>
    rw [← heldP_keys] at h
    exact absurd h (getA_none.mp e)
theorem heldP_mem {p : Pic} {k : Wo} {l : List Wo} (h : isPic p = true) (e : getA (heldP p) k = some l) : ∀ w ∈ l, w ∈ thingsP p := by
  intro w m
  have m1 := getA_mem e
  unfold heldP at m1
  rw [pic_mem h]
  rcases List.mem_append.mp m1 with m1 | m1
  · obtain ⟨r, mr, q⟩ := List.mem_map.mp m1
    cases q
    have := mem_thingsOf.mp m
    refine ⟨?_, this.2⟩
    rw [List.mem_singleton.mp this.1]
    unfold standingP
    exact List.mem_append_left _ (List.mem_append_right _ (List.mem_map_of_mem mr))
  · obtain ⟨r, mr, q⟩ := List.mem_map.mp m1
    cases q
    have := mem_thingsOf.mp m
    refine ⟨?_, this.2⟩
    unfold standingP
    exact List.mem_append_right _ (List.mem_flatten.mpr ⟨_, List.mem_map_of_mem mr, this.1⟩)
theorem roots_mem {p : Pic} (h : isPic p = true) : ∀ w ∈ rootsP p, w ∈ thingsP p := by
  intro w m
  rw [pic_mem h]
  have := mem_thingsOf.mp m
  refine ⟨?_, this.2⟩
  unfold standingP
  exact List.mem_append_left _ (List.mem_append_left _ this.1)
def linkAt (h : List (Wo × List Wo)) (l : List Wo) (i : Nat) : Bool := decide (l.getD (i + 1) ("", 0) ∈ (getA h (l.getD i ("", 0))).getD [])
/-- whether a list is a way -/
def wayB (p : Pic) (l : List Wo) : Bool := if decide (l = []) = true then false else decide (l.getD 0 ("", 0) ∈ rootsP p) && (List.range (l.length - 1)).all (linkAt (heldP p) l)
end G
namespace G
open PySem L2 TL
open Dat (At enc)
theorem isPic_parts {p : Pic} (h : isPic p = true) : isPileW p.a = true ∧ arePegs p.b = true ∧ areGoings p.c = true ∧ areBoxes p.d = true := by
  unfold isPic at h
  simp only [Bool.and_eq_true] at h
  exact ⟨h.1, h.2.1, h.2.2.1, h.2.2.2.1⟩
theorem things_nd' {p : Pic} (hg : areGoings p.c = true) (hb : areBoxes p.d = true) : (thingsP p).Nodup := by
  unfold areGoings at hg
  unfold areBoxes at hb
  rw [Bool.and_eq_true] at hg hb
  have rg := rise_lt hg.2
  have rb := rise_lt hb.2
  rw [List.pairwise_map] at rg rb
  have nbg : ("box" : Str) ≠ "go" := by decide +kernel
  unfold thingsP
  rw [List.nodup_append, List.nodup_iff_pairwise_ne, List.nodup_iff_pairwise_ne, List.pairwise_map, List.pairwise_map]
  refine ⟨rb.imp fun {a b} h e => ?_, rg.imp fun {a b} h e => ?_, fun a ma b mb e => ?_⟩
  · have : a.1 = b.1 := (Prod.mk.inj e).2
    omega
  · have : a.a = b.a := (Prod.mk.inj e).2
    omega
  · obtain ⟨u, _, rfl⟩ := List.mem_map.mp ma
    obtain ⟨v, _, rfl⟩ := List.mem_map.mp mb
    exact nbg (Prod.mk.inj e).1
theorem isPic_mk {p : Pic} (ha : isPileW p.a = true) (hb : arePegs p.b = true) (hc : areGoings p.c = true) (hd : areBoxes p.d = true) (hm : ∀ w, w ∈ thingsP p ↔ w ∈ standingP p ∧ isT w = true) : isPic p = true := by
  have nd := things_nd' hc hd
  have hm2 : ∀ w, w ∈ thingsOf (standingP p) ↔ w ∈ thingsP p := fun w => by rw [mem_thingsOf, hm]
  unfold isPic
  rw [ha, hb, hc, hd, Bool.true_and, Bool.true_and, Bool.true_and, Bool.true_and, Bool.and_eq_true]
  exact ⟨decide_eq_true ((List.perm_ext_iff_of_nodup (things_nodup _) nd).mpr hm2).length_eq, List.all_eq_true.mpr fun t mt => decide_eq_true ((hm2 t).mpr mt)⟩
/-- more that is no thing, on the pile -/
theorem good_more {p : Pic} {more : List Wo} (g : GoodPic p) (la : p.a.length ≤ 300) (ls : (standingP p).length ≤ 5000) (lm : more.length ≤ 120) (k : ∀ w ∈ more, Pl w) : GoodPic ⟨more ++ p.a, p.b, p.c, p.d⟩ := by
  obtain ⟨ha, hb, hc, hd⟩ := isPic_parts g.pic
  refine ⟨isPic_mk ?_ hb hc hd fun w => ?_, ?_, g.lb, g.lc, g.ld, ?_⟩
  · unfold isPileW at ha ⊢
    rw [List.all_append, ha, Bool.and_true, List.all_eq_true]
    exact fun w m => (k w m).1
  · have := pic_mem g.pic w
    rw [show thingsP ⟨more ++ p.a, p.b, p.c, p.d⟩ = thingsP p from rfl, this]
    unfold standingP
    simp only [List.mem_append]
    constructor
    · rintro ⟨h, t⟩
      refine ⟨?_, t⟩
      rcases h with ((h | h) | h) | h
      · exact .inl (.inl (.inl (.inr h)))
      · exact .inl (.inl (.inr h))
      · exact .inl (.inr h)
      · exact .inr h
    · rintro ⟨h, t⟩
      refine ⟨?_, t⟩
      rcases h with (((h | h) | h) | h) | h
      · rw [(k w h).2] at t
        cases t
      · exact .inl (.inl (.inl h))
      · exact .inl (.inl (.inr h))
      · exact .inl (.inr h)
      · exact .inr h
  · show (more ++ p.a).length ≤ 600
    rw [List.length_append]
    omega
  · unfold standingP at ls ⊢
    simp only [List.length_append, List.length_map] at ls ⊢
    omega
theorem good_more_row {p : Pic} {more : List Wo} {i : Nat} {r : Going} (g : GoodPic p) (ls : (standingP p).length ≤ 5000) (hi : p.c[i]? = some r) (lm : more.length ≤ 120) (k : ∀ w ∈ more, Pl w) : GoodPic ⟨p.a, p.b, p.c.take i ++ [⟨r.a, r.b, more ++ r.c⟩] ++ p.c.drop (i + 1), p.d⟩ := by
  obtain ⟨ha, hb, hc, hd⟩ := isPic_parts g.pic
  have hlt := (List.getElem?_eq_some_iff.mp hi).1
  have ec : p.c = p.c.take i ++ [r] ++ p.c.drop (i + 1) := by
    conv => lhs; rw [← List.take_append_drop (i + 1) p.c]
    rw [List.take_add_one, hi]
    rfl
  have em : (p.c.take i ++ [(⟨r.a, r.b, more ++ r.c⟩ : Going)] ++ p.c.drop (i + 1)).map (·.a) = p.c.map (·.a) := by
    conv => rhs; rw [ec]
    simp
  have et : thingsP ⟨p.a, p.b, p.c.take i ++ [⟨r.a, r.b, more ++ r.c⟩] ++ p.c.drop (i + 1), p.d⟩ = thingsP p := by
    have h : ∀ l : List Going, l.map (fun r => (("go", r.a) : Wo)) = (l.map (·.a)).map fun n => (("go", n) : Wo) := fun l => by rw [List.map_map]; rfl
    unfold thingsP
    rw [h, h]
    show _ ++ (List.map _ (List.map _ (p.c.take i ++ [(⟨r.a, r.b, more ++ r.c⟩ : Going)] ++ p.c.drop (i + 1)))) = _
    rw [em]
  have hst : ∀ w, w ∈ standingP ⟨p.a, p.b, p.c.take i ++ [⟨r.a, r.b, more ++ r.c⟩] ++ p.c.drop (i + 1), p.d⟩ ↔ w ∈ more ∨ w ∈ standingP p := fun w => by
    unfold standingP
    rw [show (p.c.map fun x => x.c) = (p.c.take i ++ [r] ++ p.c.drop (i + 1)).map (fun x => x.c) from by rw [← ec]]
    simp only [List.mem_append, List.map_append, List.flatten_append, List.map_cons, List.map_nil, List.flatten_cons, List.flatten_nil, List.append_nil]
    constructor
    · rintro (h | (h | (h | h)) | h)
      · exact .inr (.inl h)
      · exact .inr (.inr (.inl (.inl h)))
      · exact .inl h
      · exact .inr (.inr (.inl (.inr h)))
      · exact .inr (.inr (.inr h))
    · rintro (h | h | (h | h) | h)
      · exact .inr (.inl (.inr (.inl h)))
      · exact .inl h
      · exact .inr (.inl (.inl h))
      · exact .inr (.inl (.inr (.inr h)))
      · exact .inr (.inr h)
  refine ⟨isPic_mk ha hb ?_ hd fun w => ?_, g.la, g.lb, ?_, g.ld, ?_⟩
  · have hc' := hc
    rw [ec] at hc'
    unfold areGoings at hc' ⊢
    rw [Bool.and_eq_true] at hc' ⊢
    refine ⟨?_, ?_⟩
    · have h1 := hc'.1
      simp only [List.all_append, List.all_cons, List.all_nil, Bool.and_true, Bool.and_eq_true] at h1 ⊢
      obtain ⟨⟨h2, h3, h4, h5⟩, h6⟩ := h1
      refine ⟨⟨h2, h3, h4, ?_⟩, h6⟩
      unfold isPileW at h5 ⊢
      rw [List.all_append, h5, Bool.and_true, List.all_eq_true]
      exact fun w m => (k w m).1
    · rw [em]
      rw [← ec] at hc'
      exact hc'.2
  · rw [et, pic_mem g.pic w, hst]
    exact ⟨fun ⟨h, t⟩ => ⟨.inr h, t⟩, fun ⟨h, t⟩ => ⟨h.resolve_left fun m => (by rw [(k w m).2] at t; cases t), t⟩⟩
  · have h := congrArg List.length em
    rw [List.length_map, List.length_map] at h
    show (p.c.take i ++ [(⟨r.a, r.b, more ++ r.c⟩ : Going)] ++ p.c.drop (i + 1)).length ≤ 130
    rw [h]
    exact g.lc
  · have e : (standingP ⟨p.a, p.b, p.c.take i ++ [⟨r.a, r.b, more ++ r.c⟩] ++ p.c.drop (i + 1), p.d⟩).length = more.length + (standingP p).length := by
      unfold standingP
      rw [show (p.c.map fun x => x.c) = (p.c.take i ++ [r] ++ p.c.drop (i + 1)).map (fun x => x.c) from by rw [← ec]]
      simp only [List.length_append, List.map_append, List.flatten_append, List.map_cons, List.map_nil, List.flatten_cons, List.flatten_nil, List.append_nil]
      omega
    rw [e]
    omega
theorem heldP_nd {p : Pic} {k : Wo} {l : List Wo} (e : getA (heldP p) k = some l) : l.Nodup := by
  have m1 := getA_mem e
  unfold heldP at m1
  rcases List.mem_append.mp m1 with m1 | m1
  · obtain ⟨r, mr, q⟩ := List.mem_map.mp m1
    cases q
    exact things_nodup _
  · obtain ⟨r, mr, q⟩ := List.mem_map.mp m1
    cases q
    exact things_nodup _
theorem nodup_le {α : Type} [DecidableEq α] : ∀ {A B : List α}, A.Nodup → (∀ a ∈ A, a ∈ B) → A.length ≤ B.length
  | [], _, _, _ => Nat.zero_le _
  | a :: A, B, na, s => by
    rw [List.nodup_cons] at na
    have ma := s a List.mem_cons_self
    have le : (B.erase a).length = B.length - 1 := List.length_erase_of_mem ma
    have lp : 0 < B.length := List.length_pos_of_mem ma
    have := nodup_le (B := B.erase a) na.2 fun x mx => (List.mem_erase_of_ne fun q => na.1 (by rw [← q]; exact mx)).mpr (s x (List.mem_cons_of_mem _ mx))
    rw [List.length_cons]
    omega
theorem pigeonLe {l : List Wo} {p : Pic} (_ : l ≠ []) (s : ∀ w ∈ l, w ∈ thingsP p) (nd : l.Nodup) : l.length ≤ (thingsP p).length := nodup_le nd s
theorem rng_e {R : Int → Prop} {z : Int} (h0 : 0 ≤ z ∧ z ≤ 100) (h : ∀ m : Nat, m ≤ 100 → (m : Int) = z → R ((m : Nat) : Int)) : ∃ j : Int, [V.int z] = [.int j] ∧ -(2 ^ 62) ≤ j ∧ j < 2 ^ 62 ∧ R j :=
  ⟨((z.toNat : Nat) : Int), by rw [Int.toNat_of_nonneg h0.1], by omega, by omega, h z.toNat (by omega) (by omega)⟩
theorem rng_b {R : Int → Prop} {z : Int} (h0 : 0 ≤ z ∧ z ≤ 100) (h : ∀ m : Nat, m ≤ 100 → R ((m : Nat) : Int)) : ∃ j : Int, [V.int z] = [.int j] ∧ -(2 ^ 62) ≤ j ∧ j < 2 ^ 62 ∧ R j := by
  have := h z.toNat (by omega)
  rw [show ((z.toNat : Nat) : Int) = z by omega] at this
  exact ⟨z, rfl, by omega, by omega, this⟩
/-- what some way ends with -/
inductive Reach (p : Pic) : Wo → Prop
  | root {w : Wo} : w ∈ rootsP p → Reach p w
  | step {a w : Wo} {l : List Wo} : Reach p a → getA (heldP p) a = some l → w ∈ l → Reach p w
theorem Reach.thing {p : Pic} (h : isPic p = true) {w : Wo} (r : Reach p w) : w ∈ thingsP p := by
  induction r with
  | root m => exact roots_mem h _ m
  | step _ e m _ => exact heldP_mem h e _ m
theorem reach_closed {p : Pic} {S : List Wo} (h1 : ∀ w ∈ rootsP p, w ∈ S) (h2 : ∀ a ∈ S, ∀ l, getA (heldP p) a = some l → ∀ w ∈ l, w ∈ S) {w : Wo} (r : Reach p w) : w ∈ S := by
  induction r with
  | root m => exact h1 _ m
  | step _ e m ih => exact h2 _ ih _ e _ m
theorem heldP_ok {p : Pic} : ∀ e ∈ heldP p, PyData.strOk e.1.1 = true := fun e m => by
  unfold heldP at m
  rcases List.mem_append.mp m with m | m
  · obtain ⟨r, _, rfl⟩ := List.mem_map.mp m
    exact ok_box
  · obtain ⟨r, _, rfl⟩ := List.mem_map.mp m
    exact ok_go
theorem heldP_at {p : Pic} (nd : (thingsP p).Nodup) {e : Wo × List Wo} (m : e ∈ heldP p) : getA (heldP p) e.1 = some e.2 := heldP_get nd m
/-- whether a list is a shut set -/
def shutB (p : Pic) (l : List Wo) : Bool := (l.all fun w => decide (w ∈ thingsP p)) && ((rootsP p).all fun w => !decide (w ∈ l)) && (heldP p).all fun e => decide (e.1 ∈ l) || !(e.2.any fun w => decide (w ∈ l))
theorem shut_swap (p : Pic) (l : List Wo) : ((l.all fun w => decide (w ∈ thingsP p) && !decide (w ∈ rootsP p)) && (heldP p).all fun e => decide (e.1 ∈ l) || !(e.2.any fun w => decide (w ∈ l))) = shutB p l := by
  unfold shutB
  congr 1
  rw [Bool.eq_iff_iff, Bool.and_eq_true, List.all_eq_true, List.all_eq_true, List.all_eq_true]
  constructor
  · intro h
    refine ⟨fun w m => ?_, fun w m => ?_⟩
    · have := h w m
      rw [Bool.and_eq_true] at this
      exact this.1
    · rw [Bool.not_eq_true', decide_eq_false_iff_not]
      intro m2
      have := h w m2
      rw [Bool.and_eq_true, Bool.not_eq_true', decide_eq_false_iff_not] at this
      exact this.2 m
  · rintro ⟨h1, h2⟩ w m
    rw [Bool.and_eq_true, Bool.not_eq_true', decide_eq_false_iff_not]
    refine ⟨h1 w m, fun m2 => ?_⟩
    have := h2 w m2
    rw [Bool.not_eq_true', decide_eq_false_iff_not] at this
    exact this m
/-- from which one comes to t -/
inductive Comes (p : Pic) (t : Wo) : Wo → Prop
  | refl : Comes p t t
  | step {a w : Wo} {l : List Wo} : getA (heldP p) a = some l → w ∈ l → Comes p t w → Comes p t a
structure Behind (p : Pic) (t : Wo) (l : List Wo) : Prop where
  here : t ∈ l
  comes : ∀ w ∈ l, Comes p t w
  back : ∀ a hs, getA (heldP p) a = some hs → (∃ w ∈ hs, w ∈ l) → a ∈ l
  nd : l.Nodup
  th : ∀ w ∈ l, w = t ∨ w ∈ thingsP p
theorem len_behind {p : Pic} {t : Wo} {l : List Wo} (nd : l.Nodup) (h : ∀ w ∈ l, w = t ∨ w ∈ thingsP p) : l.length ≤ (thingsP p).length + 1 := by
  have := nodup_le (B := t :: thingsP p) nd fun w m => (h w m).elim (fun e => e ▸ List.mem_cons_self) (List.mem_cons_of_mem _)
  rw [List.length_cons] at this
  exact this
end G

namespace G
open PySem L2 PySem.Spec PyProof.Rows
/-! ### d.pop(t), t a tuple that is there -/
section
variable {K : Type} [DecidableEq K] {prog : Program} {w : World} {knd : HeapKind prog w K}
theorem meetsPop1 {d b : Addr} {k : K} : MeetsIn prog w (Builtin.«dict.pop» ⟨[.ref d, .ref b], []⟩) (fun A R s => ∃ xs p, knd.room A.in1 ∧ knd.is s.heap k b ∧ s.heap.DictOfH knd d xs ∧ xs.length ≤ sizeLine ∧ atKey xs k = some p ∧
      ∀ h' tk, h'.DictOfH knd d (DT.dropH xs k) → Heap.SameBut d s.heap h' → R (.ok (.ret p.2)) { s with heap := h', toks := tk }) :=
  .of_wp fun A R s ⟨xs, p, hu, hkey, hm, hsz, hp, hsome⟩ => by
    obtain ⟨o, es, ep, ho, hc, hdat, he, his, hn⟩ := id hm
    have hes : es.size = xs.length := size_of_entries he
    have hpart : (keyPart (Value.ref b)).isSome = false := rfl
    unfold Builtin.«dict.pop»
    refine wpAny_bind ?_
    unfold Builtin.Dict.keyAndDefault
    refine wpAny_bind (wpAny_notOrdered_dict hm.typeIs ?_)
    show wpAny _ _ (pure (d, Value.ref b, none)) _ _ s
    refine wpAny_pure ?_
    simp only [hpart, Bool.false_eq_true, if_false]
    refine wpAny_bind (wpAny_dictEntries ho hdat (wpAny_bind (wpAny_pure ?_)))
    cases hem : es.isEmpty with
    | true =>
      have h0 : xs = [] := by
        have z : es.size = 0 := by simpa using hem
        exact List.length_eq_zero_iff.mp (by omega)
      rw [h0] at hp
      cases hp
    | false =>
      simp only [Bool.false_eq_true, if_false]
      refine wpAny_bind (DT.takeH hu hkey hm hsz (fun hno => ?_) fun q e hq hev h' hm' hs' => ?_)
      · rw [hp] at hno
        cases hno
      · simp only [Option.isNone_some, Bool.false_eq_true, if_false]
        rw [hp] at hq
        cases hq
        exact wpAny_bind (wpAny_letGo (wpAny_pure ⟨e.val, rfl, by rw [hev]; exact hsome h' _ hm' hs'⟩))
end
def rPopT1 : V → List V → Hp → VK → Prop := fun x xs H Q => ∃ (a : Addr) (kvs : List (List L2.Key × V)) (k : List L2.Key) (b : Addr) (v : V), x = .ref a ∧ xs = [.ref b] ∧ H a = some (.dT kvs) ∧ H b = some (.tup (k.map kV)) ∧ valV kvs k = some v ∧ Q v (upd H a (.dT (dropK kvs k)))
theorem mt_popT1 {X : Cx} (hu : X.A.units + 1 < cLine) : MtR X "dict.pop" rPopT1 := by
  intro pins s σ H x xs v us Q I rx rxs h
  obtain ⟨a, kvs, k, b, v0, rfl, rfl, ha, hb, ev, q1⟩ := h
  cases rx
  cases rxs with
  | cons r1 r2 =>
    cases r2
    cases r1
    obtain ⟨z, hd, xs', rel, dd⟩ := dt_of I.hok ha
    have hz : xs'.length ≤ sizeLine := by rw [← Paired.length rel]; exact z
    have r := rel.val k
    rw [ev] at r
    obtain ⟨p, hp, rv⟩ : ∃ p, atKey xs' k = some p ∧ RelV v0 p.2 := by
      cases e : atKey xs' k with
      | none =>
        rw [e] at r
        exact (show False from r).elim
      | some p =>
        rw [e] at r
        exact ⟨p, rfl, r⟩
    refine call_meetsIn PySem.F.slot_dict_pop dd.typeIs PySem.F.entry_dict_pop (PySem.F.args_dict_pop_2 _ _) (meetsPop1 (knd := tupleKind (mixKind X.prog X.w)) (k := k))
      ⟨xs', p, tupleKind_room_in1 hu, key_of I.hok hb, dd, hz, hp, fun h' tk dd' hs => ?_⟩
    obtain ⟨o, es, ep, hq, h2, h3, h4, _, h5⟩ := dd'
    have I2 : Inv X pins σ (upd H a (.dT (dropK kvs k))) { s with heap := h', toks := tk } :=
      d_write I (by rw [ha]; exact True.intro) hs ⟨o, hq⟩ ⟨Nat.le_trans (dropK_le kvs k) z, hd, _, (L2.DX.KT_drop k rel).keeps (fun c ys ec => (by rw [upd_ne (ne_of ec ha (fun z => nomatch z))]; exact ec)), o, es, ep, hq, h2, h3, h4, h5⟩
    show EP X pins σ Q p.2 _
    exact ⟨v0, _, I2, rv, q1⟩
end G

namespace G
open PySem L2
open Dat (At enc)
/-! ### dicts of data: out of them -/
section
variable {κ α : Type} [DecidableEq κ] {l : List (κ × α)} {k j : κ} {a : α}
def dropA (l : List (κ × α)) (k : κ) : List (κ × α) := l.filter fun e => decide (e.1 ≠ k)
theorem dropA_len : (dropA l k).length ≤ l.length := List.length_filter_le _ _
theorem getA_drop : getA (dropA l k) j = if j = k then none else getA l j := by
  unfold dropA
  induction l with
  | nil => simp [getA]
  | cons p r ih =>
    rw [List.filter_cons]
    by_cases e : p.1 = k
    · rw [if_neg (by simp [e]), ih]
      by_cases z : j = k
      · rw [if_pos z, if_pos z]
      · rw [if_neg z, if_neg z, getA_neg (fun q => z (q.symm.trans e))]
    · rw [if_pos (by simp [e])]
      by_cases q : p.1 = j
      · rw [getA_pos q, getA_pos q, if_neg (fun z => e (q.trans z))]
      · rw [getA_neg q, getA_neg q, ih]
theorem dropA_mem : j ∈ (dropA l k).map (·.1) ↔ j ∈ l.map (·.1) ∧ j ≠ k := by
  unfold dropA
  simp only [List.mem_map, List.mem_filter, decide_eq_true_eq]
  constructor
  · rintro ⟨e, ⟨m, n⟩, rfl⟩
    exact ⟨⟨e, m, rfl⟩, n⟩
  · rintro ⟨⟨e, m, rfl⟩, n⟩
    exact ⟨e, ⟨m, n⟩, rfl⟩
theorem dropA_nodup (nd : (l.map (·.1)).Nodup) : ((dropA l k).map (·.1)).Nodup :=
  nd.sublist (List.Sublist.map _ List.filter_sublist)
theorem getA_isSome_iff : (∃ a, getA l k = some a) ↔ k ∈ l.map (·.1) := by
  constructor
  · rintro ⟨a, e⟩
    exact List.mem_map.mpr ⟨_, getA_mem e, rfl⟩
  · intro m
    cases e : getA l k with
    | none => exact absurd m (getA_none.mp e)
    | some a => exact ⟨a, rfl⟩
end
section
variable {κ α : Type} [Dat κ] [DecidableEq κ] [DKey κ] [Dat α] {K : PySem.W.Frag} {H H' H1 : Hp} {ns ms : List Addr} {d q : Addr} {l : List (κ × α)} {k : κ} {a : α} {x y v : V} {Q : VK}
theorem DR.drop {kvs : List (DKey.κ' κ × V)} (h : DR ns H kvs l) (k : κ) : DR ns H (dropK kvs (DKey.kf k)) (dropA l k) := by
  unfold dropK dropA
  induction h with
  | nil => exact .nil
  | @cons kv e kvs l h _ ih =>
    rw [List.filter_cons, List.filter_cons]
    by_cases z : e.1 = k
    · rw [if_neg (by simp [h.1, z]), if_neg (by simp [z])]
      exact ih
    · rw [if_pos (by simp [h.1]; exact fun q => z (DKey.kinj q)), if_pos (by simp [z])]
      exact .cons h ih
theorem Dc.but (f : Fr ns H ns H') (b : But q H H') (n : d ≠ q) (h : Dc ns H d l) : Dc ns H' d l := h.fr f fun o e => b _ _ e n
end
section
variable {α : Type} [Dat α] {K : PySem.W.Frag} {H H' H1 : Hp} {ns ms : List Addr} {d q : Addr} {a : α} {x y v : V} {Q : VK}
/-- d.pop(n), numbers -/
theorem r_dpopI {l : List (Int × α)} {k : Int} (lv : Live ns H) (m : d ∈ ns) (h : Dc ns H d l) (e : getA l k = some a) (q : ∀ x H', Fr ns H ns H' → But d H H' → Dc ns H' d (dropA l k) → At (del ns H') x a → Q x H') : DPopG d (.int k) H Q := by
  obtain ⟨kvs, ed, r⟩ := h
  have f : Fr ns H ns (upd H d (.dK (dropK kvs (.inl k)))) := .put lv m (fun _ e => by cases e)
  rcases r.look k with ⟨e1, e2⟩ | ⟨v, a', e1, e2, hv⟩
  · rw [e] at e2
    cases e2
  · rw [e] at e2
    cases e2
    exact ⟨kvs, .inl k, v, ed, rfl, e1, q _ _ f But.upd ⟨_, upd_same, (r.drop k).fr f⟩ (f.at_ hv)⟩
/-- d.pop(s), texts -/
theorem r_dpopS {l : List (Str × α)} {k : Str} (lv : Live ns H) (m : d ∈ ns) (h : Dc ns H d l) (e : getA l k = some a) (q : ∀ x H', Fr ns H ns H' → But d H H' → Dc ns H' d (dropA l k) → At (del ns H') x a → Q x H') : DPopG d (.str k) H Q := by
  obtain ⟨kvs, ed, r⟩ := h
  have f : Fr ns H ns (upd H d (.dK (dropK kvs (.inr k)))) := .put lv m (fun _ e => by cases e)
  rcases r.look k with ⟨e1, e2⟩ | ⟨v, a', e1, e2, hv⟩
  · rw [e] at e2
    cases e2
  · rw [e] at e2
    cases e2
    exact ⟨kvs, .inr k, v, ed, rfl, e1, q _ _ f But.upd ⟨_, upd_same, (r.drop k).fr f⟩ (f.at_ hv)⟩
/-- d.pop(t), worths -/
theorem r_dpopW {l : List (Wo × α)} {k : Wo} (lv : Live ns H) (m : d ∈ ns) (h : Dc ns H d l) (g : At H y k) (e : getA l k = some a) (q : ∀ x H', Fr ns H ns H' → But d H H' → Dc ns H' d (dropA l k) → At (del ns H') x a → Q x H') : rPopT1 (.ref d) [y] H Q := by
  obtain ⟨kvs, ed, r⟩ := h
  obtain ⟨t, rfl, et, _⟩ := at_wo.mp g
  have f : Fr ns H ns (upd H d (.dT (dropK kvs (wk k)))) := .put lv m (fun _ e => by cases e)
  rcases r.look k with ⟨e1, e2⟩ | ⟨v, a', e1, e2, hv⟩
  · rw [e] at e2
    cases e2
  · rw [e] at e2
    cases e2
    exact ⟨d, kvs, wk k, t, v, rfl, rfl, ed, et, e1, q _ _ f But.upd ⟨_, upd_same, (r.drop k).fr f⟩ (f.at_ hv)⟩
theorem r_dget2 {κ : Type} [Dat κ] [DecidableEq κ] [DKey κ] {l : List (κ × α)} {k : κ} {z : V} (h : Dcr ns H d l) (g : At H y k) (gz : At (del ns H) z a) (q : ∀ x, At (del ns H) x ((getA l k).getD a) → Q x H) : DGet2G d y z H Q := by
  obtain ⟨kvs, ed, r⟩ := h
  rcases r.look k with ⟨e1, e2⟩ | ⟨v, a', e1, e2, hv⟩
  · exact ⟨_, DKey.get ed g, by rw [e1]; exact q _ (by rw [e2]; exact gz)⟩
  · exact ⟨_, DKey.get ed g, by rw [e1]; exact q _ (by rw [e2]; exact hv)⟩
theorem r_daugA {κ : Type} [Dat κ] [DecidableEq κ] [DKey κ] {l : List (κ × α)} {k : κ} {R : Addr → V → Prop} (h : Dcr ns H d l) (g : At H y k) (e : getA l k = some a) (q : ∀ x, At (del ns H) x a → R d x) : DAugG (.ref d) y H R := by
  obtain ⟨kvs, ed, r⟩ := h
  rcases r.look k with ⟨e1, e2⟩ | ⟨v, a', e1, e2, hv⟩
  · rw [e] at e2
    cases e2
  · rw [e] at e2
    cases e2
    exact ⟨d, v, rfl, e1 ▸ DKey.get ed g, q v hv⟩
theorem r_dputV {κ : Type} [Dat κ] [DecidableEq κ] [DKey κ] {l : List (κ × α)} {k : κ} {nx : Hp → Prop} (lv : Live ns H) (m : d ∈ ns) (h : Dc ns H d l) (g : At H y k) (gv : At (del ns H) v a) (hl : l.length < 100000) (q : ∀ H', Fr ns H ns H' → But d H H' → Dc ns H' d (putA l k a) → nx H') : ∃ H4, DPut H d y v H4 ∧ nx H4 := by
  obtain ⟨b, H4, e, p, n⟩ := r_dputA lv m h g gv hl q
  cases e
  exact ⟨H4, p, n⟩
theorem Dc.tyT {l : List (Wo × α)} {R : Prop} (h : Dc ns H d l) (q : R) : tyV K "dict" (.ref d) H ∧ R := by
  obtain ⟨kvs, e, _⟩ := h
  exact ⟨.inr (.inr (.inl ⟨rfl, .inr ⟨kvs, e⟩⟩)), q⟩
theorem isD_T {l : List (Wo × α)} (h : Dc ns H d l) : IsD H d := by
  obtain ⟨kvs, e, _⟩ := h
  exact .inr ⟨kvs, .inl e⟩
theorem isD_I {l : List (Int × α)} (h : Dc ns H d l) : IsD H d := by
  obtain ⟨kvs, e, _⟩ := h
  exact .inl ⟨kvs, .inl e⟩
theorem isD_S {l : List (Str × α)} (h : Dc ns H d l) : IsD H d := by
  obtain ⟨kvs, e, _⟩ := h
  exact .inl ⟨kvs, .inl e⟩
end
theorem r_popAtO {α : Type} [Dat α] {ns : List Addr} {H : Hp} {p : Addr} {as : List α} {k : Nat} {a : α} {Q : VK} (l : Live ns H) (m : p ∈ ns) (h : Own ns H p as) (e : as[k]? = some a) (hl : as.length ≤ 100000) (q : ∀ y H', Fr ns H ns H' → But p H H' → At (del ns H') y a → Own ns H' p (as.eraseIdx k) → Q y H') : rPopAt (.ref p) [.int (k : Nat)] H Q := by
  obtain ⟨xs, ep, r⟩ := h
  obtain ⟨y, ey, hy⟩ := r.get' e
  have hk : k < xs.length := (List.getElem?_eq_some_iff.mp ey).1
  have lx := r.len
  have f : Fr ns H ns (upd H p (.lst (xs.eraseIdx k))) := .put l m (fun _ e => by cases e)
  have ix : ixN xs.length (k : Int) = some k := by
    unfold ixN
    rw [if_pos (by omega), if_pos (by omega)]
    rfl
  refine ⟨p, xs, k, k, y, rfl, rfl, ep, by omega, by omega, (ixN_seq ix).1, ey, q y _ f But.upd (f.at_ hy) ⟨_, upd_same, f.ats ?_⟩⟩
  rw [List.eraseIdx_eq_take_drop_succ, List.eraseIdx_eq_take_drop_succ]
  exact (r.take k).app (r.drop (k + 1))
/-- for x in p, p a list that stays as it is -/
theorem LO {α : Type} [Dat α] {K : PySem.W.Frag} {H : Hp} {ns ms : List Addr} {p : Addr} {l : List α} {σ : L2.St} {g : TG} {tb : TS} {nx : L2.St → Hp → Prop} {rt : VK} (h : Own ns H p l) (Pv : Nat → L2.St → Hp → Prop) (h0 : Pv 0 σ H) (hF : ∀ i σ H', i ≤ l.length → Pv i σ H' → Fr ns H ms H' ∧ ∀ o, H p = some o → H' p = some o)
    (hs : ∀ i b x σ H', l[i]? = some b → At (del ms H') x b → Pv i σ H' → g x σ H' fun σ2 H2 => tb ⟨Pv (i + 1), rt, nx, Pv (i + 1)⟩ σ2 H2) (hd : ∀ σ H', Pv l.length σ H' → nx σ H') :
    ∃ a, V.ref p = .ref a ∧ (∃ xs, SqL K H a xs) ∧ ForL (Itl K a) g tb nx rt σ H := by
  obtain ⟨xs, e, r⟩ := h
  have sq : ∀ i σ H', i ≤ xs.length → Pv i σ H' → SqL K H' p xs := fun i σ H' hi hp => .inl (.inl ((hF i σ H' (by rw [← r.len]; exact hi) hp).2 _ e))
  refine ⟨p, rfl, ⟨xs, .inl (.inl e)⟩, L_list Pv h0 sq (fun i x σ H' hx hp => ?_) (by rw [r.len]; exact hd)⟩
  obtain ⟨b, eb, hb⟩ := r.get hx
  have hi : i < l.length := (List.getElem?_eq_some_iff.mp eb).1
  exact hs i b x σ H' eb ((hF i σ H' (Nat.le_of_lt hi) hp).1.at_ hb) hp
/-- for x in reversed(p), p a list that stays as it is -/
theorem LRO {α : Type} [Dat α] {K : PySem.W.Frag} {H : Hp} {ns ms : List Addr} {p : Addr} {l : List α} {σ : L2.St} {g : TG} {tb : TS} {nx : L2.St → Hp → Prop} {rt : VK} (h : Own ns H p l) (Pv : Nat → L2.St → Hp → Prop) (h0 : Pv 0 σ H) (hF : ∀ i σ H', i ≤ l.length → Pv i σ H' → Fr ns H ms H' ∧ ∀ o, H p = some o → H' p = some o)
    (hs : ∀ i b x σ H', l.reverse[i]? = some b → At (del ms H') x b → Pv i σ H' → g x σ H' fun σ2 H2 => tb ⟨Pv (i + 1), rt, nx, Pv (i + 1)⟩ σ2 H2) (hd : ∀ σ H', Pv l.length σ H' → nx σ H') :
    ∃ (a : Addr) (xs : List V), [V.ref p] = [.ref a] ∧ SqL K H a xs ∧ ForL (Itv K a xs.length) g tb nx rt σ H := by
  obtain ⟨xs, e, r⟩ := h
  refine ⟨p, xs, rfl, .inl (.inl e), L_it (walk_rev (xs := xs)) Pv h0 (fun i σ H' hi hp => .inl (.inl ((hF i σ H' (by rw [← r.len]; exact hi) hp).2 _ e))) ?_ (by rw [r.len]; exact hd)⟩
  rintro i x σ H' H'' hi hp ⟨rfl, ex⟩
  obtain ⟨b, eb, hb⟩ := r.get ex
  have hl : i < l.length := by rw [← r.len]; exact hi
  refine hs i b x σ H'' ?_ ((hF i σ H'' (Nat.le_of_lt hl) hp).1.at_ hb) hp
  rw [List.getElem?_reverse hl, ← r.len]
  exact eb
/-- at d stands a dict with the numbers ks as keys -/
def DKeys (H : Hp) (d : Addr) (ks : List Int) : Prop := ∃ kvs : List (L2.Key × V), H d = some (.dK kvs) ∧ kvs.map (·.1) = ks.map Sum.inl
theorem Dc.dk {α : Type} [Dat α] {ns : List Addr} {H : Hp} {d : Addr} {l : List (Int × α)} (h : Dc ns H d l) : DKeys H d (l.map (·.1)) := by
  obtain ⟨kvs, e, r⟩ := h
  exact ⟨kvs, e, r.keys.trans (by rw [List.map_map]; rfl)⟩
theorem r_dinK {H : Hp} {d : Addr} {ks : List Int} {k : Int} {Q : VK} (h : DKeys H d ks) (q : Q (.bl (decide (k ∈ ks))) H) : DInG (.ref d) (.int k) H Q := by
  obtain ⟨kvs, e, ek⟩ := h
  refine ⟨d, _, rfl, DGet.k (k := .inl k) e, ?_⟩
  have : (valV kvs (.inl k : L2.Key)).isSome = decide (k ∈ ks) := by
    rw [← valV_any]
    have h2 : (kvs.any fun kv => decide (kv.1 = (.inl k : L2.Key))) = (kvs.map (·.1)).any fun x => decide (x = (.inl k : L2.Key)) := by
      rw [List.any_map]
      rfl
    rw [h2, ek]
    by_cases m : k ∈ ks
    · rw [decide_eq_true m, List.any_eq_true]
      exact ⟨.inl k, List.mem_map.mpr ⟨k, m, rfl⟩, by simp⟩
    · rw [decide_eq_false m, List.any_eq_false]
      intro x hx
      obtain ⟨j, mj, rfl⟩ := List.mem_map.mp hx
      simp only [decide_eq_true_eq]
      exact fun z => m (Sum.inl.inj z ▸ mj)
  rw [this]
  exact q
theorem least_lt {ks : List Int} {n : Nat} (h : ∀ j : Nat, j < n → (j : Int) ∈ ks) : n ≤ ks.length := by
  have nd : ((List.range n).map fun j : Nat => (j : Int)).Nodup := by
    rw [List.nodup_iff_pairwise_ne, List.pairwise_map]
    exact List.nodup_range.imp fun h e => h (Int.ofNat_inj.mp e)
  have := nd.length_le_of_subset (l₂ := ks) fun x hx => by
    obtain ⟨j, mj, rfl⟩ := List.mem_map.mp hx
    exact h j (List.mem_range.mp mj)
  rwa [List.length_map, List.length_range] at this
/-- sorted(d), d's keys numbers -/
theorem r_sortI {α : Type} [Dat α] {ns : List Addr} {H : Hp} {d : Addr} {l : List (Int × α)} {Q : VK} (lv : Live ns H) (h : Dc ns H d l) (hl : l.length < 64) (q : ∀ (ys : List Int) (p : Addr) (H' : Hp), ys.Perm (l.map (·.1)) → ys.Pairwise (· ≤ ·) → H p = none → Same H H' → At (del ns H') (.ref p) ys → Q (.ref p) H') :
    ∃ (a : Addr) (kvs : List (Key × V)) (ks : List Int), [V.ref d] = [.ref a] ∧ Rd H a (.dK kvs) ∧ kvs.map (·.1) = ks.map Sum.inl ∧ ks.length < 64 ∧ ∀ (ys : List Int) (p : Addr), ys.Perm ks → ys.Pairwise (· ≤ ·) → H p = none → Q (.ref p) (upd H p (.lst (ys.map V.int))) := by
  obtain ⟨kvs, e, r⟩ := h
  exact ⟨d, kvs, l.map (·.1), rfl, .inl e, r.keys.trans (by rw [List.map_map]; rfl), by rw [List.length_map]; exact hl, fun ys p pm pw hp => q ys p _ pm pw hp (same_new hp) (newL lv hp ats_of_int).2⟩
theorem r_sortS {α : Type} [Dat α] {ns : List Addr} {H : Hp} {d : Addr} {l : List (Str × α)} {Q : VK} (lv : Live ns H) (h : Dc ns H d l) (hl : l.length < 64) (ok : ∀ s ∈ l.map (·.1), PyData.strOk s = true) (q : ∀ (ys : List Str) (p : Addr) (H' : Hp), ys.Perm (l.map (·.1)) → PyProof.Rows.sortedS ys = true → H p = none → Same H H' → At (del ns H') (.ref p) ys → Q (.ref p) H') :
    ∃ (a : Addr) (kvs : List (Key × V)) (ks : List Str), [V.ref d] = [.ref a] ∧ Rd H a (.dK kvs) ∧ kvs.map (·.1) = ks.map Sum.inr ∧ ks.length < 64 ∧ ∀ (ys : List Str) (p : Addr), ys.Perm ks → PyProof.Rows.sortedS ys = true → H p = none → Q (.ref p) (upd H p (.lst (ys.map V.str))) := by
  obtain ⟨kvs, e, r⟩ := h
  exact ⟨d, kvs, l.map (·.1), rfl, .inl e, r.keys.trans (by rw [List.map_map]; rfl), by rw [List.length_map]; exact hl, fun ys p pm pw hp => q ys p _ pm pw hp (same_new hp) (newL lv hp (ats_of_str fun s m => ok s (pm.mem_iff.mp m))).2⟩
theorem Live.app' {ns ms : List Addr} {H : Hp} (l : Live ns H) (h : ∀ a ∈ ms, Lv H a) : Live (ms ++ ns) H := fun a m => (List.mem_append.mp m).elim (h a) (l a)
theorem Fr.addAll {ns ms : List Addr} {H H' : Hp} (f : Fr ns H ns H') (lv : ∀ a ∈ ms, Lv H' a) (no : ∀ a ∈ ms, H a = none) : Fr ns H (ms ++ ns) H' :=
  ⟨fun c o e => by
    have h1 := f.same c o e
    refine del_at (of_del h1).1 fun m => ?_
    rcases List.mem_append.mp m with m | m
    · have := (of_del e).1
      rw [no c m] at this
      cases this
    · exact (of_del e).2 m, f.live.app' lv⟩
/-! ### the house of whole copies -/
structure Ha where
  h : Addr
  r : Addr
  w : Addr
  p : Addr
  ib : Addr
  op : Addr
  ho : Addr
  wa : Addr
def Ha.all (A : Ha) : List Addr := [A.h, A.r, A.w, A.p, A.ib, A.op, A.ho, A.wa]
def Ha.fs (A : Ha) : List (Str × V) := [("running", .ref A.r), ("wholes", .ref A.w), ("places", .ref A.p), ("in_box", .ref A.ib), ("on_peg", .ref A.op), ("holding", .ref A.ho), ("waiting", .ref A.wa)]
structure Hs where
  run : List Wo := []
  wh : List (Int × List Wo) := []
  pl : List (Int × Int) := []
  bx : List (Int × Wo) := []
  pg : List (Str × Wo) := []
  ho : List (Wo × Int) := []
  wa : List Wo := []
structure HouseAt (C : Addr) (ns : List Addr) (H : Hp) (A : Ha) (S : Hs) : Prop where
  lv : Live ns H
  sub : ∀ a ∈ A.all, a ∈ ns
  nd : A.all.Nodup
  ob : ∃ dx, H A.h = some (.ins C dx A.fs)
  run : Own ns H A.r S.run
  wh : Dc ns H A.w S.wh
  pl : Dc ns H A.p S.pl
  bx : Dc ns H A.ib S.bx
  pg : Dc ns H A.op S.pg
  ho : Dc ns H A.ho S.ho
  wa : Own ns H A.wa S.wa
theorem nd_ne {l : List Addr} {i j : Nat} {a b : Addr} (nd : l.Nodup) (hi : l[i]? = some a) (hj : l[j]? = some b) (n : i ≠ j) : a ≠ b := fun z => by
  subst z
  obtain ⟨h1, e1⟩ := List.getElem?_eq_some_iff.mp hi
  obtain ⟨h2, e2⟩ := List.getElem?_eq_some_iff.mp hj
  exact n ((List.getElem_inj nd).mp (e1.trans e2.symm))
section
variable {C : Addr} {ns ms ks : List Addr} {H H' H2 : Hp} {A A' A2 : Ha} {S S' S2 : Hs}
theorem HouseAt.ne (h : HouseAt C ns H A S) (i j : Nat) {a b : Addr} (hi : A.all[i]? = some a := by rfl) (hj : A.all[j]? = some b := by rfl) (n : i ≠ j := by decide) : a ≠ b := nd_ne h.nd hi hj n
theorem HouseAt.mem (h : HouseAt C ns H A S) (i : Nat) {a : Addr} (hi : A.all[i]? = some a := by rfl) : a ∈ ns := h.sub _ (List.mem_of_getElem? hi)
theorem HouseAt.fr (h : HouseAt C ns H A S) (f : Fr ns H ms H') (s : ∀ a ∈ A.all, a ∈ ms) (e : ∀ a ∈ A.all, ∀ o, H a = some o → H' a = some o) : HouseAt C ms H' A S :=
  have g (i : Nat) {a : Addr} (hi : A.all[i]? = some a) : ∀ o, H a = some o → H' a = some o := e _ (List.mem_of_getElem? hi)
  ⟨f.live, s, h.nd, h.ob.elim fun dx q => ⟨dx, g 0 rfl _ q⟩, h.run.fr f (g 1 rfl), h.wh.fr f (g 2 rfl), h.pl.fr f (g 3 rfl), h.bx.fr f (g 4 rfl), h.pg.fr f (g 5 rfl), h.ho.fr f (g 6 rfl), h.wa.fr f (g 7 rfl)⟩
theorem HouseAt.same (h : HouseAt C ns H A S) (s : Same H H') : HouseAt C ns H' A S := h.fr (.of h.lv s) h.sub fun _ _ _ e => s _ _ e
theorem HouseAt.buts {W : List Addr} (h : HouseAt C ns H A S) (f : Fr ns H ms H') (s : ∀ a ∈ A.all, a ∈ ms) (b : Buts W H H') (n : ∀ a ∈ A.all, a ∉ W) : HouseAt C ms H' A S := h.fr f s fun a m o e => b a o e (n a m)
theorem HouseAt.obBut (h : HouseAt C ns H A S) {q : Addr} (b : But q H H') (n : A.h ≠ q) : ∃ dx, H' A.h = some (.ins C dx A.fs) := h.ob.elim fun dx e => ⟨dx, b _ _ e n⟩
theorem HouseAt.cRun (h : HouseAt C ns H A S) (f : Fr ns H ns H') (b : But A.r H H') {l : List Wo} (o : Own ns H' A.r l) : HouseAt C ns H' A { S with run := l } :=
  ⟨f.live, h.sub, h.nd, h.obBut b (h.ne 0 1), o, h.wh.but f b (h.ne 2 1), h.pl.but f b (h.ne 3 1), h.bx.but f b (h.ne 4 1), h.pg.but f b (h.ne 5 1), h.ho.but f b (h.ne 6 1), h.wa.but f b (h.ne 7 1)⟩
theorem HouseAt.cWh (h : HouseAt C ns H A S) (f : Fr ns H ns H') (b : But A.w H H') {l : List (Int × List Wo)} (o : Dc ns H' A.w l) : HouseAt C ns H' A { S with wh := l } :=
  ⟨f.live, h.sub, h.nd, h.obBut b (h.ne 0 2), h.run.but f b (h.ne 1 2), o, h.pl.but f b (h.ne 3 2), h.bx.but f b (h.ne 4 2), h.pg.but f b (h.ne 5 2), h.ho.but f b (h.ne 6 2), h.wa.but f b (h.ne 7 2)⟩
theorem HouseAt.cPl (h : HouseAt C ns H A S) (f : Fr ns H ns H') (b : But A.p H H') {l : List (Int × Int)} (o : Dc ns H' A.p l) : HouseAt C ns H' A { S with pl := l } :=
  ⟨f.live, h.sub, h.nd, h.obBut b (h.ne 0 3), h.run.but f b (h.ne 1 3), h.wh.but f b (h.ne 2 3), o, h.bx.but f b (h.ne 4 3), h.pg.but f b (h.ne 5 3), h.ho.but f b (h.ne 6 3), h.wa.but f b (h.ne 7 3)⟩
theorem HouseAt.cBx (h : HouseAt C ns H A S) (f : Fr ns H ns H') (b : But A.ib H H') {l : List (Int × Wo)} (o : Dc ns H' A.ib l) : HouseAt C ns H' A { S with bx := l } :=
  ⟨f.live, h.sub, h.nd, h.obBut b (h.ne 0 4), h.run.but f b (h.ne 1 4), h.wh.but f b (h.ne 2 4), h.pl.but f b (h.ne 3 4), o, h.pg.but f b (h.ne 5 4), h.ho.but f b (h.ne 6 4), h.wa.but f b (h.ne 7 4)⟩
theorem HouseAt.cPg (h : HouseAt C ns H A S) (f : Fr ns H ns H') (b : But A.op H H') {l : List (Str × Wo)} (o : Dc ns H' A.op l) : HouseAt C ns H' A { S with pg := l } :=
  ⟨f.live, h.sub, h.nd, h.obBut b (h.ne 0 5), h.run.but f b (h.ne 1 5), h.wh.but f b (h.ne 2 5), h.pl.but f b (h.ne 3 5), h.bx.but f b (h.ne 4 5), o, h.ho.but f b (h.ne 6 5), h.wa.but f b (h.ne 7 5)⟩
theorem HouseAt.cHo (h : HouseAt C ns H A S) (f : Fr ns H ns H') (b : But A.ho H H') {l : List (Wo × Int)} (o : Dc ns H' A.ho l) : HouseAt C ns H' A { S with ho := l } :=
  ⟨f.live, h.sub, h.nd, h.obBut b (h.ne 0 6), h.run.but f b (h.ne 1 6), h.wh.but f b (h.ne 2 6), h.pl.but f b (h.ne 3 6), h.bx.but f b (h.ne 4 6), h.pg.but f b (h.ne 5 6), o, h.wa.but f b (h.ne 7 6)⟩
theorem HouseAt.cWa (h : HouseAt C ns H A S) (f : Fr ns H ns H') (b : But A.wa H H') {l : List Wo} (o : Own ns H' A.wa l) : HouseAt C ns H' A { S with wa := l } :=
  ⟨f.live, h.sub, h.nd, h.obBut b (h.ne 0 7), h.run.but f b (h.ne 1 7), h.wh.but f b (h.ne 2 7), h.pl.but f b (h.ne 3 7), h.bx.but f b (h.ne 4 7), h.pg.but f b (h.ne 5 7), h.ho.but f b (h.ne 6 7), o⟩
/-- from a house at A to the house S' at A' -/
structure Led (C : Addr) (ns : List Addr) (H : Hp) (A : Ha) (ms : List Addr) (H' : Hp) (A' : Ha) (S' : Hs) : Prop where
  fr : Fr ns H ms H'
  sub : ∀ a ∈ ns, a ∈ ms
  new : ∀ a ∈ ms, a ∈ ns ∨ H a = none
  buts : Buts A.all H H'
  hh : A'.h = A.h
  own : ∀ a ∈ A'.all, a ∈ A.all ∨ H a = none
  at_ : HouseAt C ms H' A' S'
theorem Led.refl (h : HouseAt C ns H A S) (s : Same H H') : Led C ns H A ns H' A S := ⟨.of h.lv s, fun _ m => m, fun _ m => .inl m, fun _ _ e _ => s _ _ e, rfl, fun _ m => .inl m, h.same s⟩
theorem Led.trans (h : HouseAt C ns H A S) (l : Led C ns H A ms H' A' S') (k : Led C ms H' A' ks H2 A2 S2) : Led C ns H A ks H2 A2 S2 := by
  have nn : ∀ a, H' a = none → H a = none := fun a e => l.fr.free l.sub e
  refine ⟨l.fr.trans k.fr, fun a m => k.sub a (l.sub a m), fun a m => ?_, fun c o e n => ?_, k.hh.trans l.hh, fun a m => ?_, k.at_⟩
  · rcases k.new a m with m | e
    · exact l.new a m
    · exact .inr (nn a e)
  · refine k.buts c o (l.buts c o e n) fun m => ?_
    rcases l.own c m with m | z
    · exact n m
    · rw [z] at e
      cases e
  · rcases k.own a m with m | e
    · exact l.own a m
    · exact .inr (nn a e)
theorem Led.but {q : Addr} (f : Fr ns H ns H') (b : But q H H') (m : q ∈ A.all) (h : HouseAt C ns H' A S') : Led C ns H A ns H' A S' :=
  ⟨f, fun _ m => m, fun _ m => .inl m, fun c o e n => b c o e fun z => n (z ▸ m), rfl, fun _ m => .inl m, h⟩
theorem Led.own' {α : Type} [Dat α] {p : Addr} {l : List α} (k : Led C ns H A ms H' A' S') (n : p ∉ A.all) (o : Own ns H p l) : Own ms H' p l := o.fr k.fr fun _ e => k.buts _ _ e n
theorem Led.dc {κ α : Type} [Dat κ] [DecidableEq κ] [DKey κ] [Dat α] {p : Addr} {l : List (κ × α)} (k : Led C ns H A ms H' A' S') (n : p ∉ A.all) (o : Dc ns H p l) : Dc ms H' p l := o.fr k.fr fun _ e => k.buts _ _ e n
theorem Led.off {p : Addr} {o : HO} (k : Led C ns H A ms H' A' S') (n : p ∉ A.all) (e : H p = some o) : p ∉ A'.all := fun m => by
  rcases k.own p m with m | z
  · exact n m
  · rw [z] at e
    cases e
end
section
variable {C : Addr} {ns ms ks : List Addr} {H H1 H2 : Hp} {A : Ha} {S S' : Hs} {z : Addr}
theorem HouseAt.more (h : HouseAt C ns H A S) (f : Fr ns H (z :: ns) H1) (s : Same H H1) : HouseAt C (z :: ns) H1 A S := h.fr f (fun a m => List.mem_cons_of_mem _ (h.sub a m)) fun _ _ _ e => s _ _ e
theorem HouseAt.off (h : HouseAt C ns H A S) (hz : H z = none) : z ∉ A.all := fun m => by
  obtain ⟨o, e, _⟩ := h.lv z (h.sub z m)
  rw [hz] at e
  cases e
theorem Led.more (h : HouseAt C ns H A S) (f : Fr ns H (z :: ns) H1) (s : Same H H1) (hz : H z = none) : Led C ns H A (z :: ns) H1 A S :=
  ⟨f, fun _ m => List.mem_cons_of_mem _ m, fun a m => (List.mem_cons.mp m).elim (fun e => .inr (e ▸ hz)) .inl, fun _ _ e _ => s _ _ e, rfl, fun _ m => .inl m, h.more f s⟩
/-- a list of one's own, not there before, changed -/
theorem Led.aside {A' : Ha} (l : Led C ns H A ms H1 A' S') (hz : H z = none) (nz : z ∉ A'.all) (f : Fr ms H1 ms H2) (b : But z H1 H2) : Led C ns H A ms H2 A' S' :=
  ⟨l.fr.trans f, l.sub, l.new, fun c o e n => b _ _ (l.buts c o e n) fun q => (by rw [q, hz] at e; cases e), l.hh, l.own, l.at_.fr f l.at_.sub fun a m o e => b _ _ e fun q => nz (q ▸ m)⟩
theorem Led.drop {A' : Ha} (l : Led C ns H A (z :: ms) H2 A' S') (s : ∀ a ∈ ns, a ∈ ms) (k : ∀ a ∈ A'.all, a ∈ ms) : Led C ns H A ms H2 A' S' :=
  have d : Fr (z :: ms) H2 ms H2 := .drop l.fr.live
  ⟨l.fr.trans d, s, fun a m => l.new a (List.mem_cons_of_mem _ m), l.buts, l.hh, l.own, l.at_.fr d k fun _ _ _ e => e⟩
/-- another running pile -/
theorem Led.turn {l : List Wo} {p dx : Addr} (k : Led C ns H A ns H1 A S) (h : HouseAt C ns H A S') (np : H1 p = none) (s : Same H1 H2) (f : Fr ns H1 (p :: ns) H2) (o : Own (p :: ns) H2 p l) (e : H2 A.h = some (.ins C dx A.fs)) :
    Led C ns H A (p :: ns) (upd H2 A.h (.ins C dx ({ A with r := p } : Ha).fs)) { A with r := p } { S with run := l } := by
  have hh := k.at_
  have nz := hh.off np
  have hp : H p = none := k.fr.free k.sub np
  have hm := hh.more f s
  have fu : Fr (p :: ns) H2 (p :: ns) (upd H2 A.h (.ins C dx ({ A with r := p } : Ha).fs)) := .put hm.lv (hm.mem 0) (fun _ e => by cases e)
  have bu : But A.h H2 (upd H2 A.h (.ins C dx ({ A with r := p } : Ha).fs)) := But.upd
  have np' : p ≠ A.h := fun z => nz (z ▸ by simp [Ha.all])
  refine ⟨(k.fr.trans f).trans fu, fun _ m => List.mem_cons_of_mem _ m, fun a m => (List.mem_cons.mp m).elim (fun e => .inr (e ▸ hp)) .inl, fun c o e n => bu _ _ (s _ _ (k.buts c o e n)) fun z => n (z ▸ by simp [Ha.all]), rfl, fun a m => ?_, ?_⟩
  · simp only [Ha.all, List.mem_cons, List.not_mem_nil, or_false] at m ⊢
    rcases m with m | m | m
    · exact .inl (.inl m)
    · exact .inr (m ▸ hp)
    · exact .inl (.inr (.inr m))
  · refine ⟨fu.live, fun a m => ?_, ?_, ⟨dx, upd_same⟩, o.but fu bu np', hm.wh.but fu bu (hm.ne 2 0), hm.pl.but fu bu (hm.ne 3 0), hm.bx.but fu bu (hm.ne 4 0), hm.pg.but fu bu (hm.ne 5 0), hm.ho.but fu bu (hm.ne 6 0), hm.wa.but fu bu (hm.ne 7 0)⟩
    · simp only [Ha.all, List.mem_cons, List.not_mem_nil, or_false] at m
      rcases m with m | m | m
      · exact m ▸ hm.mem 0
      · exact m ▸ List.mem_cons_self
      · exact hm.sub a (by simp only [Ha.all, List.mem_cons, List.not_mem_nil, or_false]; exact .inr (.inr m))
    · have nd := hh.nd
      simp only [Ha.all, List.nodup_cons, List.mem_cons, List.not_mem_nil, or_false, not_or] at nd nz ⊢
      obtain ⟨⟨a1, a2⟩, ⟨b1, b2⟩⟩ := nd
      exact ⟨⟨fun z => np' z.symm, a2⟩, nz.2.2, b2⟩
theorem HouseAt.subz (h : HouseAt C (z :: ns) H A S) (n : z ∉ A.all) : ∀ a ∈ A.all, a ∈ ns := fun a m => (List.mem_cons.mp (h.sub a m)).elim (fun e => absurd (e ▸ m) n) id
end
/-! ### what the methods do -/
def Hs.hold (S : Hs) (w : Wo) : Hs := if isT w then { S with ho := putA S.ho w ((getA S.ho w).getD 0 + 1) } else S
def Hs.loose (S : Hs) (w : Wo) : Hs := match getA S.ho w with
  | none => S
  | some n => { S with ho := putA S.ho w (n - 1), wa := if n - 1 = 0 then S.wa ++ [w] else S.wa }
def Hs.holds (S : Hs) (l : List Wo) : Hs := l.foldl Hs.hold S
def Hs.looses (S : Hs) (l : List Wo) : Hs := l.foldl Hs.loose S
def Hs.lay (S : Hs) (w : Wo) : Hs := ({ S with run := S.run ++ [w] }).hold w
/-- the pile without its top, and the top let loose -/
def Hs.off (S : Hs) (l : List Wo) (w : Wo) : Hs := ({ S with run := l }).loose w
def Hs.forget (S : Hs) (t : Wo) : Hs :=
  if t.1 = "box" then ({ S with ho := dropA S.ho t, bx := dropA S.bx t.2 } : Hs).loose ((getA S.bx t.2).getD ("", 0))
  else ({ S with ho := dropA S.ho t, pl := dropA S.pl t.2, wh := dropA S.wh t.2 } : Hs).looses ((getA S.wh t.2).getD [])
theorem Hs.looses_snoc {S : Hs} {l : List Wo} {w : Wo} : S.looses (l ++ [w]) = (S.looses l).loose w := by
  unfold Hs.looses
  rw [List.foldl_append]
  rfl
theorem Hs.holds_snoc {S : Hs} {l : List Wo} {w : Wo} : S.holds (l ++ [w]) = (S.holds l).hold w := by
  unfold Hs.holds
  rw [List.foldl_append]
  rfl
theorem take_snoc {α : Type} {l : List α} {i : Nat} {b : α} (e : l[i]? = some b) : l.take (i + 1) = l.take i ++ [b] := by
  rw [List.take_add_one, e]
  rfl
section
variable {S : Hs} {w : Wo} {l u ts : List Wo}
theorem Hs.loose_run : ({ S with run := u } : Hs).loose w = { S.loose w with run := u } := by
  unfold Hs.loose
  dsimp only
  split <;> rfl
theorem Hs.hold_run : ({ S with run := u } : Hs).hold w = { S.hold w with run := u } := by
  unfold Hs.hold
  split <;> rfl
theorem Hs.looses_run : ({ S with run := u } : Hs).looses l = { S.looses l with run := u } := by
  unfold Hs.looses
  induction l generalizing S with
  | nil => rfl
  | cons w l ih => rw [List.foldl_cons, loose_run, ih]; rfl
theorem Hs.holds_run : ({ S with run := u } : Hs).holds l = { S.holds l with run := u } := by
  unfold Hs.holds
  induction l generalizing S with
  | nil => rfl
  | cons w l ih => rw [List.foldl_cons, hold_run, ih]; rfl
theorem Hs.off_looses : (({ S with run := l } : Hs).looses ts).off u w = ({ S with run := u } : Hs).looses (ts ++ [w]) := by
  rw [looses_snoc]
  unfold Hs.off
  congr 1
  rw [looses_run (u := l), looses_run (u := u)]
theorem Hs.lay_holds : (({ S with run := l } : Hs).holds ts).lay w = ({ S with run := l ++ [w] } : Hs).holds (ts ++ [w]) := by
  rw [holds_snoc]
  unfold Hs.lay
  congr 1
  rw [holds_run (u := l), holds_run (u := l ++ [w])]
/-- the pile us ++ [w] ++ ts without w: all above it lifted off and laid on again -/
def Hs.out (S : Hs) (us : List Wo) (w : Wo) (ts : List Wo) : Hs := (({ S with run := us ++ ts } : Hs).looses (ts.reverse ++ [w])).holds ts
end
inductive Setl : Hs → Hs → Prop
  | nil {S : Hs} : S.wa = [] → Setl S S
  | skip {S S' : Hs} {l : List Wo} {t : Wo} : S.wa = l ++ [t] → (getA S.ho t).getD 1 ≠ 0 → Setl { S with wa := l } S' → Setl S S'
  | go {S S' : Hs} {l : List Wo} {t : Wo} : S.wa = l ++ [t] → (getA S.ho t).getD 1 = 0 → Setl (({ S with wa := l } : Hs).forget t) S' → Setl S S'
section
variable {S : Hs} {w : Wo} {l : List Wo}
theorem Hs.hold_f : (S.hold w).run = S.run ∧ (S.hold w).wh = S.wh ∧ (S.hold w).pl = S.pl ∧ (S.hold w).bx = S.bx ∧ (S.hold w).pg = S.pg ∧ (S.hold w).wa = S.wa := by
  unfold Hs.hold
  split <;> exact ⟨rfl, rfl, rfl, rfl, rfl, rfl⟩
theorem Hs.loose_f : (S.loose w).run = S.run ∧ (S.loose w).wh = S.wh ∧ (S.loose w).pl = S.pl ∧ (S.loose w).bx = S.bx ∧ (S.loose w).pg = S.pg := by
  unfold Hs.loose
  split <;> exact ⟨rfl, rfl, rfl, rfl, rfl⟩
theorem Hs.holds_f : (S.holds l).run = S.run ∧ (S.holds l).wh = S.wh ∧ (S.holds l).pl = S.pl ∧ (S.holds l).bx = S.bx ∧ (S.holds l).pg = S.pg ∧ (S.holds l).wa = S.wa := by
  unfold Hs.holds
  induction l generalizing S with
  | nil => exact ⟨rfl, rfl, rfl, rfl, rfl, rfl⟩
  | cons w l ih =>
    obtain ⟨a, b, c, d, e, f⟩ := ih (S := S.hold w)
    obtain ⟨a', b', c', d', e', f'⟩ := hold_f (S := S) (w := w)
    exact ⟨a.trans a', b.trans b', c.trans c', d.trans d', e.trans e', f.trans f'⟩
theorem Hs.looses_f : (S.looses l).run = S.run ∧ (S.looses l).wh = S.wh ∧ (S.looses l).pl = S.pl ∧ (S.looses l).bx = S.bx ∧ (S.looses l).pg = S.pg := by
  unfold Hs.looses
  induction l generalizing S with
  | nil => exact ⟨rfl, rfl, rfl, rfl, rfl⟩
  | cons w l ih =>
    obtain ⟨a, b, c, d, e⟩ := ih (S := S.loose w)
    obtain ⟨a', b', c', d', e'⟩ := loose_f (S := S) (w := w)
    exact ⟨a.trans a', b.trans b', c.trans c', d.trans d', e.trans e'⟩
theorem Hs.hold_ho : (S.hold w).ho.length ≤ S.ho.length + 1 := by
  unfold Hs.hold
  split
  · exact putA_len
  · exact Nat.le_succ _
theorem Hs.holds_ho : (S.holds l).ho.length ≤ S.ho.length + l.length := by
  unfold Hs.holds
  induction l generalizing S with
  | nil => exact Nat.le_refl _
  | cons w l ih =>
    have := ih (S := S.hold w)
    have := hold_ho (S := S) (w := w)
    rw [List.foldl_cons, List.length_cons]
    omega
theorem Hs.loose_keys : (S.loose w).ho.map (·.1) = S.ho.map (·.1) := by
  unfold Hs.loose
  split
  · rfl
  · rename_i n e
    show (putA S.ho w (n - 1)).map (·.1) = _
    rw [putA_keys, if_pos (getA_isSome_iff.mp ⟨n, e⟩)]
theorem Hs.looses_keys : (S.looses l).ho.map (·.1) = S.ho.map (·.1) := by
  unfold Hs.looses
  induction l generalizing S with
  | nil => rfl
  | cons w l ih => exact (ih (S := S.loose w)).trans loose_keys
theorem Hs.loose_ho : (S.loose w).ho.length = S.ho.length := by
  have := congrArg List.length (loose_keys (S := S) (w := w))
  rwa [List.length_map, List.length_map] at this
theorem Hs.looses_ho : (S.looses l).ho.length = S.ho.length := by
  have := congrArg List.length (looses_keys (S := S) (l := l))
  rwa [List.length_map, List.length_map] at this
theorem Hs.loose_wa : (S.loose w).wa.length ≤ S.wa.length + 1 := by
  unfold Hs.loose
  split
  · exact Nat.le_succ _
  · show (if _ then S.wa ++ [w] else S.wa).length ≤ _
    split <;> simp
theorem Hs.looses_wa : (S.looses l).wa.length ≤ S.wa.length + l.length := by
  unfold Hs.looses
  induction l generalizing S with
  | nil => exact Nat.le_refl _
  | cons w l ih =>
    have := ih (S := S.loose w)
    have := loose_wa (S := S) (w := w)
    rw [List.foldl_cons, List.length_cons]
    omega
theorem Hs.out_f {us ts : List Wo} : (S.out us w ts).run = us ++ ts ∧ (S.out us w ts).wh = S.wh ∧ (S.out us w ts).pl = S.pl ∧ (S.out us w ts).bx = S.bx ∧ (S.out us w ts).pg = S.pg := by
  unfold Hs.out
  obtain ⟨a, b, c, d, e, _⟩ := holds_f (S := ({ S with run := us ++ ts } : Hs).looses (ts.reverse ++ [w])) (l := ts)
  obtain ⟨a', b', c', d', e'⟩ := looses_f (S := ({ S with run := us ++ ts } : Hs)) (l := ts.reverse ++ [w])
  exact ⟨a.trans a', b.trans b', c.trans c', d.trans d', e.trans e'⟩
theorem Hs.out_run {us ts : List Wo} : (S.out us w ts).run = us ++ ts := out_f.1
theorem Hs.out_ho {us ts : List Wo} : (S.out us w ts).ho.length ≤ S.ho.length + ts.length := by
  unfold Hs.out
  have h1 := holds_ho (S := ({ S with run := us ++ ts } : Hs).looses (ts.reverse ++ [w])) (l := ts)
  have h2 := looses_ho (S := ({ S with run := us ++ ts } : Hs)) (l := ts.reverse ++ [w])
  simp only at h2
  omega
theorem split_top {α : Type} {l : List α} {k : Nat} (h : k < l.length) : ∃ us w ts, l = us ++ [w] ++ ts ∧ ts.length = k := by
  refine ⟨l.take (l.length - 1 - k), l[l.length - 1 - k]'(by omega), l.drop (l.length - k), ?_, by rw [List.length_drop]; omega⟩
  rw [show l.length - k = (l.length - 1 - k) + 1 by omega, List.take_append_getElem (by omega), List.take_append_drop]
theorem atI_down {α : Type} {l : List α} {k : Nat} (h : k < l.length) : atI l (-1 - (k : Int)) = l[l.length - 1 - k]? := by
  unfold atI ixN
  rw [if_neg (by omega), if_pos (by omega)]
  show l[_]? = _
  congr 1
  omega
theorem top_many {α : Type} {l : List α} {n : Nat} (h : n ≤ l.length) : (List.range n).filterMap (fun j => l[l.length - n + j]?) = l.drop (l.length - n) := by
  apply List.ext_getElem?
  intro i
  have e : (List.range n).filterMap (fun j => l[l.length - n + j]?) = ((List.range n).map fun j => (l.drop (l.length - n))[j]?).filterMap id := by
    rw [List.filterMap_map]
    congr 1
    funext j
    show _ = (l.drop (l.length - n))[j]?
    rw [List.getElem?_drop]
  have e2 : ∀ (m : List α), ((List.range m.length).map fun j => m[j]?).filterMap id = m := by
    intro m
    induction m with
    | nil => rfl
    | cons a m ih =>
      rw [List.length_cons, List.range_succ_eq_map, List.map_cons, List.map_map]
      show a :: _ = _
      congr 1
  rw [e, show n = (l.drop (l.length - n)).length by rw [List.length_drop]; omega]
  congr 1
  rw [show l.length - (l.drop (l.length - n)).length = l.length - n by rw [List.length_drop]; omega]
  exact e2 _
theorem atI_ex {α : Type} {l : List α} {i : Int} (h0 : -(l.length : Int) ≤ i) (h1 : i < 0) : ∃ a, atI l i = some a := by
  have := atI_down (l := l) (k := (-1 - i).toNat) (by omega)
  rw [show -1 - (((-1 - i).toNat : Nat) : Int) = i by omega] at this
  rw [this, List.getElem?_eq_getElem (by omega)]
  exact ⟨_, rfl⟩
def Hs.keep (S : Hs) (place g : Int) : Hs := (({ S with pl := putA S.pl g place, wh := putA S.wh g S.run } : Hs).holds S.run).lay ("go", g)
def Hs.goTo (S : Hs) (l al : List Wo) : Hs := ({ (S.holds l).looses S.run with run := l ++ al } : Hs).holds al
def Hs.boxed (S : Hs) (l : List Wo) (w : Wo) (b : Int) : Hs := (({ S.off l w with bx := putA S.bx b w } : Hs).hold w).lay ("box", b)
def Hs.filled (S : Hs) (b : Int) (w old : Wo) : Hs := ({ S.hold w with bx := putA S.bx b w } : Hs).loose old
def Hs.pegOn (S : Hs) (n : Str) (w : Wo) : Hs := { (match getA S.pg n with
  | none => S.hold w
  | some old => (S.hold w).loose old) with pg := putA S.pg n w }
def Hs.pegOff (S : Hs) (n : Str) (w : Wo) : Hs := { S.loose w with pg := dropA S.pg n }
theorem mem_of_getA {κ α : Type} [DecidableEq κ] {l : List (κ × α)} {k : κ} {a : α} (e : getA l k = some a) : k ∈ l.map (·.1) := getA_isSome_iff.mp ⟨a, e⟩
/-- each key of holding is in the house -/
def Hs.Ok (S : Hs) : Prop := ∀ t : Wo, t ∈ S.ho.map (·.1) → (t.1 = ("box" : Str) ∧ t.2 ∈ S.bx.map (·.1)) ∨ (t.1 ≠ ("box" : Str) ∧ t.1 = ("go" : Str) ∧ t.2 ∈ S.pl.map (·.1) ∧ t.2 ∈ S.wh.map (·.1))
def sumL (l : List (Int × List Wo)) : Nat := (l.map fun e => e.2.length).sum
theorem sumL_drop {l : List (Int × List Wo)} {k : Int} {ws : List Wo} (e : getA l k = some ws) : sumL (dropA l k) + ws.length ≤ sumL l := by
  induction l with
  | nil => cases e
  | cons p r ih =>
    unfold dropA sumL at *
    rw [List.filter_cons]
    have sub : ((r.filter fun e => decide (e.1 ≠ k)).map fun e => e.2.length).sum ≤ (r.map fun e => e.2.length).sum := by
      clear ih e
      induction r with
      | nil => exact Nat.le_refl _
      | cons q r ih =>
        rw [List.filter_cons]
        split <;> simp only [List.map_cons, List.sum_cons] <;> omega
    by_cases z : p.1 = k
    · rw [if_neg (by simp [z])]
      rw [getA_pos z] at e
      cases e
      simp only [List.map_cons, List.sum_cons]
      omega
    · rw [if_pos (by simp [z])]
      rw [getA_neg z] at e
      have := ih e
      simp only [List.map_cons, List.sum_cons]
      omega
theorem dropA_lt {κ α : Type} [DecidableEq κ] {l : List (κ × α)} {k : κ} (m : k ∈ l.map (·.1)) : (dropA l k).length < l.length := by
  obtain ⟨e, m, z⟩ := List.mem_map.mp m
  exact List.length_filter_lt_length_iff_exists.mpr ⟨e, m, by simp [z]⟩
def Hs.many (S : Hs) : Nat := S.wa.length + S.bx.length + sumL S.wh
theorem Hs.forget_box {t : Wo} (e : t.1 = "box") : S.forget t = ({ S with ho := dropA S.ho t, bx := dropA S.bx t.2 } : Hs).loose ((getA S.bx t.2).getD ("", 0)) := if_pos e
theorem Hs.forget_go {t : Wo} (e : t.1 ≠ "box") : S.forget t = ({ S with ho := dropA S.ho t, pl := dropA S.pl t.2, wh := dropA S.wh t.2 } : Hs).looses ((getA S.wh t.2).getD []) := if_neg e
theorem Hs.Ok.forget {t : Wo} (o : S.Ok) (m : t ∈ S.ho.map (·.1)) : (S.forget t).Ok ∧ (S.forget t).many ≤ S.many ∧ (S.forget t).ho.length ≤ S.ho.length := by
  rcases o t m with ⟨e, mb⟩ | ⟨e, eg, mp, mw⟩
  · rw [forget_box e]
    obtain ⟨a, b, c, d, _⟩ := loose_f (S := { S with ho := dropA S.ho t, bx := dropA S.bx t.2 }) (w := (getA S.bx t.2).getD ("", 0))
    have kk := loose_keys (S := { S with ho := dropA S.ho t, bx := dropA S.bx t.2 }) (w := (getA S.bx t.2).getD ("", 0))
    have hl := loose_ho (S := { S with ho := dropA S.ho t, bx := dropA S.bx t.2 }) (w := (getA S.bx t.2).getD ("", 0))
    have wl := loose_wa (S := { S with ho := dropA S.ho t, bx := dropA S.bx t.2 }) (w := (getA S.bx t.2).getD ("", 0))
    refine ⟨fun u mu => ?_, ?_, ?_⟩
    · rw [kk] at mu
      obtain ⟨mu, nu⟩ := dropA_mem.mp mu
      rw [b, c, d]
      rcases o u mu with ⟨f, g⟩ | h
      · exact .inl ⟨f, dropA_mem.mpr ⟨g, fun z => nu (Prod.ext (f.trans e.symm) z)⟩⟩
      · exact .inr h
    · have := dropA_lt mb
      unfold Hs.many
      rw [b, d]
      simp only at wl ⊢
      omega
    · rw [hl]
      exact dropA_len
  · rw [forget_go e]
    obtain ⟨ws, ew⟩ := getA_isSome_iff.mpr mw
    rw [ew, Option.getD_some]
    obtain ⟨a, b, c, d, _⟩ := looses_f (S := { S with ho := dropA S.ho t, pl := dropA S.pl t.2, wh := dropA S.wh t.2 }) (l := ws)
    have kk := looses_keys (S := { S with ho := dropA S.ho t, pl := dropA S.pl t.2, wh := dropA S.wh t.2 }) (l := ws)
    have hl := looses_ho (S := { S with ho := dropA S.ho t, pl := dropA S.pl t.2, wh := dropA S.wh t.2 }) (l := ws)
    have wl := looses_wa (S := { S with ho := dropA S.ho t, pl := dropA S.pl t.2, wh := dropA S.wh t.2 }) (l := ws)
    refine ⟨fun u mu => ?_, ?_, ?_⟩
    · rw [kk] at mu
      obtain ⟨mu, nu⟩ := dropA_mem.mp mu
      rw [b, c, d]
      rcases o u mu with h | ⟨f, fg, g1, g2⟩
      · exact .inl h
      · have nz : u.2 ≠ t.2 := fun z => nu (Prod.ext (fg.trans eg.symm) z)
        exact .inr ⟨f, fg, dropA_mem.mpr ⟨g1, nz⟩, dropA_mem.mpr ⟨g2, nz⟩⟩
    · have := sumL_drop ew
      unfold Hs.many
      rw [b, d]
      simp only at wl ⊢
      omega
    · rw [hl]
      exact dropA_len
end
/-! ### nums and ats -/
def Plain (w : Wo) : Prop := w.1 = "num" ∨ (w.1 = "at" ∧ 0 ≤ w.2)
theorem isT_plain {w : Wo} (h : Plain w) : isT w = false := by
  unfold isT
  rcases h with h | ⟨h, _⟩ <;> rw [h] <;> decide +kernel
theorem isW_plain {w : Wo} (h : Plain w) : isW w.1 w.2 = true := by
  unfold isW
  rcases h with h | ⟨h, n⟩
  · rw [h]
    rfl
  · rw [h, decide_eq_true n]
    decide +kernel
theorem hold_plain {S : Hs} {w : Wo} (h : Plain w) : S.hold w = S := by
  unfold Hs.hold
  rw [isT_plain h]
  rfl
theorem holds_plain {S : Hs} {l : List Wo} (h : ∀ w ∈ l, Plain w) : S.holds l = S := by
  unfold Hs.holds
  induction l with
  | nil => rfl
  | cons w l ih =>
    rw [List.foldl_cons, hold_plain (h w List.mem_cons_self)]
    exact ih fun u m => h u (List.mem_cons_of_mem _ m)
theorem loose_bare {S : Hs} {w : Wo} (h : S.ho = []) : S.loose w = S := by
  unfold Hs.loose
  rw [h]
  rfl
theorem looses_bare {S : Hs} {l : List Wo} (h : S.ho = []) : S.looses l = S := by
  unfold Hs.looses
  induction l with
  | nil => rfl
  | cons w l ih => rw [List.foldl_cons, loose_bare h]; exact ih
theorem lay_plain {ws : List Wo} {w : Wo} (h : Plain w) : ({ run := ws } : Hs).lay w = { run := ws ++ [w] } := hold_plain h
theorem out_plain {us ts : List Wo} {w : Wo} {ws : List Wo} (h : ∀ w ∈ ts, Plain w) : ({ run := ws } : Hs).out us w ts = { run := us ++ ts } := by
  unfold Hs.out
  rw [looses_bare rfl, holds_plain h]
theorem take_plain {us ts ws : List Wo} {w : Wo} (pl : ∀ x ∈ ws, Plain x) (er : ws = us ++ [w] ++ ts) : ({ run := ws } : Hs).out us w ts = { run := us ++ ts } := out_plain fun x m => pl x (by rw [er]; exact List.mem_append_right _ m)
theorem split_facts {us ts ws : List Wo} {w : Wo} {k : Int} (pl : ∀ x ∈ ws, Plain x) (er : ws = us ++ [w] ++ ts) (lt : ts.length = k.toNat) (k0 : 0 ≤ k) : (ws.length : Int) - 1 - k = (us.length : Nat) ∧ ws[us.length]? = some w ∧ ws.eraseIdx us.length = us ++ ts ∧ Plain w ∧ (∀ x ∈ us ++ ts, Plain x) ∧ (us ++ ts).length + 1 = ws.length := by
  have ln : ws.length = us.length + 1 + ts.length := by rw [er]; simp; omega
  refine ⟨by omega, ?_, ?_, pl w (by rw [er]; simp), fun x m => pl x ?_, by rw [List.length_append]; omega⟩
  · rw [er, List.append_assoc, List.getElem?_append_right (Nat.le_refl _), Nat.sub_self]
    rfl
  · rw [er, List.append_assoc, List.eraseIdx_append_of_length_le (Nat.le_refl _), Nat.sub_self]
    rfl
  · rw [er]
    rcases List.mem_append.mp m with m | m
    · exact List.mem_append_left _ (List.mem_append_left _ m)
    · exact List.mem_append_right _ m
theorem setl_bare {ws : List Wo} {S' : Hs} (h : Setl { run := ws } S') : S' = { run := ws } := by
  cases h with
  | nil _ => rfl
  | skip e _ _ => exact absurd e.symm (by simp)
  | go e _ _ => exact absurd e.symm (by simp)
theorem ok_bare {ws : List Wo} : ({ run := ws } : Hs).Ok := fun t m => by cases m
theorem many_bare {ws : List Wo} : ({ run := ws } : Hs).many = 0 := rfl
theorem pile_at {H : Hp} {f : Addr} {ws : List Wo} (h : At H (.ref f) ws) : PileAt H f ws := by
  obtain ⟨t, xs, e, h, r⟩ := h
  cases e
  exact ⟨xs, h, ats_wos.mp r⟩
theorem BagAt.lv {H : Hp} {p : Addr} {n : Nat} (h : BagAt H p n) : Lv H p := by
  obtain ⟨a, b, c, e, _⟩ := h
  exact .lst e
theorem BagAt.but {H H' : Hp} {p r : Addr} {n : Nat} (h : BagAt H p n) (b : But r H H') (ne : p ≠ r) : BagAt H' p n := by
  obtain ⟨x, y, z, e, h⟩ := h
  exact ⟨x, y, z, b _ _ e ne, h⟩
theorem BagAt.buts {W : List Addr} {H H' : Hp} {p : Addr} {n : Nat} (h : BagAt H p n) (b : Buts W H H') (ne : p ∉ W) : BagAt H' p n := by
  obtain ⟨x, y, z, e, h⟩ := h
  exact ⟨x, y, z, b _ _ e ne, h⟩
theorem HouseAt.bag {C : Addr} {ns : List Addr} {H H' : Hp} {A : Ha} {S : Hs} {p : Addr} (h : HouseAt C ns H A S) (f : Fr ns H ns H') (b : But p H H') (n : p ∉ A.all) : HouseAt C ns H' A S :=
  h.fr f h.sub fun a m o e => b _ _ e fun z => n (z ▸ m)
end G

namespace G
open PySem L2
/-! ### houses in which nothing is let go of -/
section
variable {S : Hs} {t w : Wo} {l : List Wo}
theorem hold_get : getA (S.hold w).ho t = if isT w = true ∧ t = w then some ((getA S.ho w).getD 0 + 1) else getA S.ho t := by
  unfold Hs.hold
  by_cases h : isT w = true
  · rw [if_pos h]
    show getA (putA S.ho w _) t = _
    rw [getA_put]
    by_cases e : t = w
    · rw [if_pos e, if_pos ⟨h, e⟩]
    · rw [if_neg e, if_neg fun z => e z.2]
  · rw [if_neg h, if_neg fun z => h z.1]
/-- how often something is held, 0 if not at all -/
def Hs.cnt (S : Hs) (t : Wo) : Int := (getA S.ho t).getD 0
theorem cnt_hold (ht : isT t = true) : (S.hold w).cnt t = S.cnt t + (if w = t then 1 else 0) := by
  unfold Hs.cnt
  rw [hold_get]
  by_cases e : w = t
  · subst e
    rw [if_pos ⟨ht, rfl⟩, if_pos rfl]
    rfl
  · rw [if_neg fun z => e z.2.symm, if_neg e, Int.add_zero]
theorem cnt_holds (ht : isT t = true) : (S.holds l).cnt t = S.cnt t + l.count t := by
  unfold Hs.holds
  induction l generalizing S with
  | nil => simp
  | cons w l ih =>
    rw [List.foldl_cons, ih, cnt_hold ht, List.count_cons]
    by_cases e : w = t
    · rw [if_pos e, if_pos (by simp [e])]
      omega
    · rw [if_neg e, if_neg (by simp [e])]
      omega
theorem keys_hold : t ∈ (S.hold w).ho.map (·.1) ↔ t ∈ S.ho.map (·.1) ∨ (isT w = true ∧ t = w) := by
  unfold Hs.hold
  by_cases h : isT w = true
  · rw [if_pos h]
    show t ∈ (putA S.ho w _).map (·.1) ↔ _
    rw [putA_mem_keys]
    constructor
    · rintro (e | e)
      · exact .inr ⟨h, e⟩
      · exact .inl e
    · rintro (e | e)
      · exact .inr e
      · exact .inl e.2
  · rw [if_neg h]
    exact ⟨.inl, fun z => z.elim id fun z => absurd z.1 h⟩
theorem keys_holds : t ∈ (S.holds l).ho.map (·.1) ↔ t ∈ S.ho.map (·.1) ∨ (isT t = true ∧ t ∈ l) := by
  unfold Hs.holds
  induction l generalizing S with
  | nil => simp
  | cons w l ih =>
    rw [List.foldl_cons, ih, keys_hold, List.mem_cons]
    constructor
    · rintro ((a | ⟨a, e⟩) | ⟨a, e⟩)
      · exact .inl a
      · exact .inr ⟨e ▸ a, .inl e⟩
      · exact .inr ⟨a, .inr e⟩
    · rintro (a | ⟨a, e | e⟩)
      · exact .inl (.inl a)
      · exact .inl (.inr ⟨e ▸ a, e⟩)
      · exact .inr ⟨a, e⟩
/-- loose, of what stays held -/
theorem loose_safe (h : w ∈ S.ho.map (·.1) → 1 < S.cnt w) : (S.loose w).wa = S.wa ∧ (∀ t, (S.loose w).cnt t = S.cnt t - (if w = t ∧ w ∈ S.ho.map (·.1) then 1 else 0)) := by
  unfold Hs.loose
  cases e : getA S.ho w with
  | none =>
    have m : w ∉ S.ho.map (·.1) := getA_none.mp e
    exact ⟨rfl, fun t => by rw [if_neg fun z => m z.2, Int.sub_zero]⟩
  | some n =>
    have m : w ∈ S.ho.map (·.1) := getA_isSome_iff.mp ⟨n, e⟩
    have hn := h m
    have ew : S.cnt w = n := by unfold Hs.cnt; rw [e]; rfl
    rw [ew] at hn
    refine ⟨?_, fun t => ?_⟩
    · show (if n - 1 = 0 then S.wa ++ [w] else S.wa) = S.wa
      rw [if_neg (by omega)]
    · show (getA (putA S.ho w (n - 1)) t).getD 0 = _
      rw [getA_put]
      by_cases z : t = w
      · subst z
        rw [if_pos rfl, if_pos ⟨rfl, m⟩, ew]
        rfl
      · rw [if_neg z, if_neg fun q => z q.1.symm, Int.sub_zero]
        rfl
/-- things that are held: the keys -/
theorem looses_safe (hk : ∀ t, t ∈ S.ho.map (·.1) → (l.count t : Int) < S.cnt t) : (S.looses l).wa = S.wa ∧ (∀ t, t ∈ S.ho.map (·.1) → (S.looses l).cnt t = S.cnt t - l.count t) := by
  unfold Hs.looses
  induction l generalizing S with
  | nil => exact ⟨rfl, fun t _ => by simp⟩
  | cons w l ih =>
    have h1 := loose_safe (S := S) (w := w) fun m => by
      have := hk w m
      rw [List.count_cons_self] at this
      omega
    have kk := Hs.loose_keys (S := S) (w := w)
    have h2 := ih (S := S.loose w) fun t m => by
      rw [kk] at m
      have := hk t m
      rw [h1.2, List.count_cons] at *
      by_cases e : w = t
      · subst e
        rw [if_pos ⟨rfl, m⟩]
        rw [if_pos (by simp)] at this
        omega
      · rw [if_neg fun z => e z.1]
        rw [if_neg (by simp [e])] at this
        omega
    rw [List.foldl_cons]
    refine ⟨h2.1.trans h1.1, fun t m => ?_⟩
    rw [h2.2 t (by rw [kk]; exact m), h1.2, List.count_cons]
    by_cases e : w = t
    · subst e
      rw [if_pos ⟨rfl, m⟩, if_pos (by simp)]
      omega
    · rw [if_neg fun z => e z.1, if_neg (by simp [e])]
      omega
theorem Setl.bare {S' : Hs} (h : Setl S S') (e : S.wa = []) : S' = S := by
  cases h with
  | nil _ => rfl
  | skip q _ _ => rw [e] at q; exact absurd q.symm (by simp)
  | go q _ _ => rw [e] at q; exact absurd q.symm (by simp)
/-- how often t stands in the house -/
def Hs.occ (S : Hs) (t : Wo) : Nat := S.run.count t + (S.bx.map (·.2)).count t + (S.pg.map (·.2)).count t + (S.wh.map fun e => e.2.count t).sum
/-- each key of holding is held as often as it stands, and on a peg; none waits -/
structure Safe (S : Hs) : Prop where
  wa : S.wa = []
  cnt : ∀ t, isT t = true → S.cnt t = S.occ t
  key : ∀ t, t ∈ S.ho.map (·.1) → isT t = true
/-- every thing that is held is on a peg too -/
def Pegged (S : Hs) : Prop := ∀ t, t ∈ S.ho.map (·.1) → 0 < (S.pg.map (·.2)).count t
theorem cnt_none (m : t ∉ S.ho.map (·.1)) : S.cnt t = 0 := by
  unfold Hs.cnt
  rw [getA_none.mpr m]
  rfl
theorem Safe.in_ (h : Safe S) (ht : isT t = true) (o : 0 < S.occ t) : t ∈ S.ho.map (·.1) := by
  refine Classical.byContradiction fun m => ?_
  have := h.cnt t ht
  rw [cnt_none m] at this
  omega
theorem count1 {a b : Wo} : (([a] : List Wo).count b : Nat) = if a = b then 1 else 0 := by
  by_cases e : a = b
  · rw [if_pos e]
    simp [e]
  · rw [if_neg e]
    simp [e]
theorem safe_lay (h : Safe S) : Safe (S.lay w) := by
  obtain ⟨a, b, c, d, e, f⟩ := Hs.hold_f (S := ({ S with run := S.run ++ [w] } : Hs)) (w := w)
  refine ⟨?_, fun t ht => ?_, fun t m => ?_⟩
  · exact f.trans h.wa
  · unfold Hs.lay
    rw [cnt_hold ht]
    show S.cnt t + _ = _
    rw [h.cnt t ht]
    unfold Hs.occ
    rw [a, b, d, e]
    simp only [List.count_append, count1]
    split <;> omega
  · rcases keys_hold.mp m with m | ⟨m, e⟩
    · exact h.key t m
    · exact e ▸ m
theorem safe_out {us ts : List Wo} (h : Safe S) (p : Pegged S) (er : S.run = us ++ [w] ++ ts) : Safe (S.out us w ts) ∧ ∀ t, t ∈ (S.out us w ts).ho.map (·.1) ↔ t ∈ S.ho.map (·.1) := by
  have cr : ∀ t, S.run.count t = us.count t + (if w = t then 1 else 0) + ts.count t := fun t => by rw [er]; simp only [List.count_append, count1]
  have cl : ∀ t, (ts.reverse ++ [w]).count t = ts.count t + (if w = t then 1 else 0) := fun t => by simp only [List.count_append, count1, List.count_reverse]
  have ls := looses_safe (S := ({ S with run := us ++ ts } : Hs)) (l := ts.reverse ++ [w]) fun t m => by
    have m : t ∈ S.ho.map (·.1) := m
    have := h.cnt t (h.key t m)
    have p := p t m
    show _ < S.cnt t
    rw [this, cl]
    unfold Hs.occ
    rw [cr]
    omega
  have kk := Hs.looses_keys (S := ({ S with run := us ++ ts } : Hs)) (l := ts.reverse ++ [w])
  have ky : ∀ t, t ∈ (S.out us w ts).ho.map (·.1) ↔ t ∈ S.ho.map (·.1) := fun t => by
    unfold Hs.out
    rw [keys_holds, kk]
    refine ⟨fun m => m.elim id fun m => h.in_ m.1 ?_, .inl⟩
    unfold Hs.occ
    rw [cr]
    have := List.count_pos_iff.mpr m.2
    omega
  obtain ⟨a, b, c, d, e⟩ := Hs.out_f (S := S) (us := us) (w := w) (ts := ts)
  refine ⟨⟨?_, fun t ht => ?_, fun t m => h.key t ((ky t).mp m)⟩, ky⟩
  · unfold Hs.out
    rw [Hs.holds_f.2.2.2.2.2, ls.1]
    exact h.wa
  · have hc := h.cnt t ht
    have e1 : (S.out us w ts).cnt t = S.cnt t - (if w = t then 1 else 0) := by
      unfold Hs.out
      rw [cnt_holds ht]
      by_cases m : t ∈ S.ho.map (·.1)
      · rw [ls.2 t m, cl]
        show S.cnt t - _ + _ = _
        split <;> omega
      · have z := cnt_none m
        rw [cnt_none (S := (({ S with run := us ++ ts } : Hs).looses (ts.reverse ++ [w]))) (by rw [kk]; exact m), z]
        rw [z] at hc
        unfold Hs.occ at hc
        rw [cr] at hc
        split at hc
        · omega
        · rename_i n
          rw [if_neg n]
          omega
    rw [e1, hc]
    unfold Hs.occ
    rw [a, b, d, e, cr]
    simp only [List.count_append]
    split <;> omega
theorem count_putA {κ : Type} [DecidableEq κ] {m : List (κ × Wo)} {k : κ} {old : Wo} (nd : (m.map (·.1)).Nodup) (e : getA m k = some old) (w t : Wo) : ((putA m k w).map (·.2)).count t + (if old = t then 1 else 0) = (m.map (·.2)).count t + (if w = t then 1 else 0) := by
  have hk := mem_of_getA e
  unfold putA
  rw [if_pos hk]
  clear hk
  induction m with
  | nil => cases e
  | cons p r ih =>
    rw [List.map_cons, List.nodup_cons] at nd
    by_cases z : p.1 = k
    · rw [getA_pos z] at e
      cases e
      have : r.map (fun e => if e.1 = k then (e.1, w) else e) = r := by
        conv => rhs; rw [← List.map_id r]
        refine List.map_congr_left fun e me => ?_
        rw [if_neg fun q => nd.1 (by rw [z, ← q]; exact List.mem_map.mpr ⟨e, me, rfl⟩)]
        rfl
      simp only [List.map_cons, if_pos z, this, List.count_cons, beq_iff_eq]
      omega
    · rw [getA_neg z] at e
      have := ih nd.2 e
      simp only [List.map_cons, if_neg z, List.count_cons, beq_iff_eq] at this ⊢
      omega
theorem count_putA_new {κ : Type} [DecidableEq κ] {m : List (κ × Wo)} {k : κ} (h : k ∉ m.map (·.1)) (w t : Wo) : ((putA m k w).map (·.2)).count t = (m.map (·.2)).count t + (if w = t then 1 else 0) := by
  rw [putA_new h, List.map_append, List.count_append]
  simp only [List.map_cons, List.map_nil, count1]
/-- a worth into a new box -/
theorem safe_bx {b : Int} (h : Safe S) (n : b ∉ S.bx.map (·.1)) : Safe (({ S with bx := putA S.bx b w } : Hs).hold w) := by
  obtain ⟨a, b', c, d, e, f⟩ := Hs.hold_f (S := ({ S with bx := putA S.bx b w } : Hs)) (w := w)
  refine ⟨f.trans h.wa, fun t ht => ?_, fun t m => ?_⟩
  · rw [cnt_hold ht]
    show S.cnt t + _ = _
    rw [h.cnt t ht]
    unfold Hs.occ
    rw [a, b', d, e]
    simp only [count_putA_new n]
    split <;> omega
  · rcases keys_hold.mp m with m | ⟨m, e⟩
    · exact h.key t m
    · exact e ▸ m
/-- a worth on a new peg -/
theorem safe_pg {n : Str} (h : Safe S) (nn : n ∉ S.pg.map (·.1)) : Safe (S.pegOn n w) := by
  obtain ⟨a, b', c, d, e, f⟩ := Hs.hold_f (S := S) (w := w)
  have eq : S.pegOn n w = { S.hold w with pg := putA S.pg n w } := by
    unfold Hs.pegOn
    rw [getA_none.mpr nn]
  rw [eq]
  refine ⟨f.trans h.wa, fun t ht => ?_, fun t m => ?_⟩
  · show (S.hold w).cnt t = _
    rw [cnt_hold ht, h.cnt t ht]
    unfold Hs.occ
    rw [show ({ S.hold w with pg := putA S.pg n w } : Hs).run = S.run from a, show ({ S.hold w with pg := putA S.pg n w } : Hs).wh = S.wh from b', show ({ S.hold w with pg := putA S.pg n w } : Hs).bx = S.bx from d]
    simp only [count_putA_new nn]
    split <;> omega
  · rcases keys_hold.mp m with m | ⟨m, e⟩
    · exact h.key t m
    · exact e ▸ m
theorem safe_fill {b : Int} {old : Wo} (h : Safe S) (p : Pegged S) (nd : (S.bx.map (·.1)).Nodup) (eo : getA S.bx b = some old) (hw : isT w = true → w ∈ S.ho.map (·.1)) : Safe (S.filled b w old) ∧ ∀ t, t ∈ (S.filled b w old).ho.map (·.1) ↔ t ∈ S.ho.map (·.1) := by
  obtain ⟨a, b', c, d, e, f⟩ := Hs.hold_f (S := S) (w := w)
  have kh : ∀ t, t ∈ (S.hold w).ho.map (·.1) ↔ t ∈ S.ho.map (·.1) := fun t => by
    rw [keys_hold]
    exact ⟨fun m => m.elim id fun m => m.2 ▸ hw m.1, .inl⟩
  have cb := count_putA nd eo w
  have co : ∀ t, (if old = t then 1 else 0) ≤ (S.bx.map (·.2)).count t := fun t => by
    split
    · rename_i z
      exact List.count_pos_iff.mpr (List.mem_map.mpr ⟨_, getA_mem eo, z⟩)
    · exact Nat.zero_le _
  have kk := Hs.loose_keys (S := ({ S.hold w with bx := putA S.bx b w } : Hs)) (w := old)
  have ky : ∀ t, t ∈ (S.filled b w old).ho.map (·.1) ↔ t ∈ S.ho.map (·.1) := fun t => by
    unfold Hs.filled
    rw [kk]
    exact kh t
  have ls := loose_safe (S := ({ S.hold w with bx := putA S.bx b w } : Hs)) (w := old) fun m => by
    have m : old ∈ S.ho.map (·.1) := (kh old).mp m
    have ht := h.key old m
    have pp := p old m
    have c1 := co old
    rw [if_pos rfl] at c1
    show 1 < (S.hold w).cnt old
    rw [cnt_hold ht, h.cnt old ht]
    unfold Hs.occ
    split <;> omega
  obtain ⟨a2, b2, c2, d2, e2⟩ := Hs.loose_f (S := ({ S.hold w with bx := putA S.bx b w } : Hs)) (w := old)
  refine ⟨⟨?_, fun t ht => ?_, fun t m => h.key t ((ky t).mp m)⟩, ky⟩
  · unfold Hs.filled
    rw [ls.1]
    exact f.trans h.wa
  · unfold Hs.filled
    rw [ls.2]
    show (S.hold w).cnt t - _ = _
    rw [cnt_hold ht, h.cnt t ht]
    unfold Hs.occ
    rw [a2, b2, d2, e2]
    simp only [a, b', e]
    have cbt := cb t
    by_cases z : old = t
    · have mo : old ∈ (S.hold w).ho.map (·.1) := by
        rw [kh, z]
        refine h.in_ ht ?_
        have := co t
        rw [if_pos z] at this
        unfold Hs.occ
        omega
      rw [if_pos z] at cbt
      rw [show (if old = t ∧ old ∈ (S.hold w).ho.map (·.1) then (1 : Int) else 0) = 1 from if_pos ⟨z, mo⟩]
      by_cases wt : w = t
      · rw [if_pos wt] at cbt ⊢
        omega
      · rw [if_neg wt] at cbt ⊢
        omega
    · rw [if_neg z] at cbt
      rw [show (if old = t ∧ old ∈ (S.hold w).ho.map (·.1) then (1 : Int) else 0) = 0 from if_neg fun q => z q.1]
      by_cases wt : w = t
      · rw [if_pos wt] at cbt ⊢
        omega
      · rw [if_neg wt] at cbt ⊢
        omega
end
end G

namespace G
open PySem L2
/-! ### houses as seen from outside -/
structure Vw where
  run : List Wo := []
  wh : List (Int × List Wo) := []
  pl : List (Int × Int) := []
  bx : List (Int × Wo) := []
  pg : List (Str × Wo) := []
def Hs.vw (S : Hs) : Vw := ⟨S.run, S.wh, S.pl, S.bx, S.pg⟩
abbrev boxW (b : Int) : Wo := ("box", b)
abbrev goW (g : Int) : Wo := ("go", g)
namespace Vw
/-- a thing of the house -/
def has (T : Vw) (t : Wo) : Prop := (t.1 = "box" ∧ t.2 ∈ T.bx.map (·.1)) ∨ (t.1 = "go" ∧ t.2 ∈ T.wh.map (·.1))
/-- t stands in the thing u -/
def inn (T : Vw) (u t : Wo) : Prop := (u.1 = "box" ∧ getA T.bx u.2 = some t) ∨ (u.1 = "go" ∧ ∃ l, getA T.wh u.2 = some l ∧ t ∈ l)
/-- t stands somewhere -/
def stands (T : Vw) (t : Wo) : Prop := t ∈ T.run ∨ t ∈ T.pg.map (·.2) ∨ ∃ u, T.inn u t
/-- what is let go of at a deed's end -/
inductive Gone (T : Vw) : Wo → Prop
  | mk (t : Wo) : T.has t → t ∉ T.run → t ∉ T.pg.map (·.2) → (∀ u, T.inn u t → Gone T u) → Gone T t
open Classical in
/-- the house with those of its things that P tells -/
noncomputable def sift (T : Vw) (P : Wo → Prop) : Vw := ⟨T.run, T.wh.filter fun e => decide (P ("go", e.1)), T.pl.filter fun e => decide (P ("go", e.1)), T.bx.filter fun e => decide (P ("box", e.1)), T.pg⟩
noncomputable def settle (T : Vw) : Vw := T.sift fun t => ¬ T.Gone t
/-- without a thing -/
def less (T : Vw) (t : Wo) : Vw := if t.1 = "box" then { T with bx := dropA T.bx t.2 } else { T with pl := dropA T.pl t.2, wh := dropA T.wh t.2 }
/-- the numbers and names stand once -/
structure Tidy (T : Vw) : Prop where
  plk : T.pl.map (·.1) = T.wh.map (·.1)
  ndw : (T.wh.map (·.1)).Nodup
  ndb : (T.bx.map (·.1)).Nodup
  ndp : (T.pg.map (·.1)).Nodup
theorem go_ne_box : ("go" : Str) ≠ "box" := by decide +kernel
theorem inn_has {T : Vw} {u t : Wo} (h : T.inn u t) : T.has u := by
  rcases h with ⟨e, h⟩ | ⟨e, l, h, _⟩
  · exact .inl ⟨e, mem_of_getA h⟩
  · exact .inr ⟨e, mem_of_getA h⟩
theorem has_isT {T : Vw} {t : Wo} (h : T.has t) : isT t = true := by
  unfold isT
  rcases h with ⟨e, _⟩ | ⟨e, _⟩ <;> rw [e] <;> decide +kernel
theorem gone_has {T : Vw} {t : Wo} (h : T.Gone t) : T.has t := by
  cases h with
  | mk _ a _ _ _ => exact a
theorem gone_off {T : Vw} {t : Wo} (h : ¬ T.stands t) (m : T.has t) : T.Gone t :=
  .mk t m (fun z => h (.inl z)) (fun z => h (.inr (.inl z))) fun u z => absurd (.inr (.inr ⟨u, z⟩)) h
/-- nothing is let go of where each thing stands -/
theorem no_gone {T : Vw} (f : ∀ t, T.has t → T.stands t) : ∀ {t : Wo}, ¬ T.Gone t := by
  intro t g
  induction g with
  | mk t a b c _ ih =>
    rcases f t a with h | h | ⟨u, h⟩
    · exact b h
    · exact c h
    · exact ih u h
theorem filter_dec {α : Type} {l : List α} {p q : α → Prop} [DecidablePred p] [DecidablePred q] (h : ∀ a ∈ l, p a ↔ q a) : (l.filter fun a => decide (p a)) = l.filter fun a => decide (q a) :=
  List.filter_congr fun a m => decide_eq_decide.mpr (h a m)
theorem filter_all {α : Type} {l : List α} {p : α → Prop} [DecidablePred p] (h : ∀ a ∈ l, p a) : (l.filter fun a => decide (p a)) = l := List.filter_eq_self.mpr fun a m => decide_eq_true (h a m)
theorem filter_keys {α : Type} {l : List (Int × α)} (P Q : Int → Prop) [DecidablePred P] [DecidablePred Q] (h : ∀ k, P k ↔ Q k) : (l.filter fun e => decide (P e.1)) = l.filter fun e => decide (Q e.1) := filter_dec fun a _ => h a.1
open Classical in
theorem sift_all {T : Vw} {P : Wo → Prop} (h : ∀ t, P t) : T.sift P = T := by
  unfold sift
  rw [filter_all fun _ _ => h _, filter_all fun _ _ => h _, filter_all fun _ _ => h _]
theorem settle_full {T : Vw} (f : ∀ t, T.has t → T.stands t) : T.settle = T := sift_all fun _ => no_gone f
theorem less_box {T : Vw} {t : Wo} (e : t.1 = "box") : T.less t = { T with bx := dropA T.bx t.2 } := if_pos e
theorem less_go {T : Vw} {t : Wo} (e : t.1 ≠ "box") : T.less t = { T with pl := dropA T.pl t.2, wh := dropA T.wh t.2 } := if_neg e
theorem less_run {T : Vw} {t : Wo} : (T.less t).run = T.run ∧ (T.less t).pg = T.pg := by
  unfold less
  split <;> exact ⟨rfl, rfl⟩
theorem wo_eq {a b : Wo} (h : a.1 = b.1) (k : a.2 = b.2) : a = b := Prod.ext h k
theorem less_has {T : Vw} {t u : Wo} (ht : T.has t) : (T.less t).has u ↔ T.has u ∧ u ≠ t := by
  rcases ht with ⟨e, m⟩ | ⟨e, m⟩
  · rw [less_box e]
    unfold has
    simp only [dropA_mem]
    constructor
    · rintro (⟨a, b, c⟩ | ⟨a, b⟩)
      · exact ⟨.inl ⟨a, b⟩, fun z => c (by rw [z])⟩
      · exact ⟨.inr ⟨a, b⟩, fun z => go_ne_box (by rw [← a, z, e])⟩
    · rintro ⟨⟨a, b⟩ | ⟨a, b⟩, n⟩
      · exact .inl ⟨a, b, fun z => n (wo_eq (a.trans e.symm) z)⟩
      · exact .inr ⟨a, b⟩
  · have ne : t.1 ≠ "box" := by rw [e]; exact go_ne_box
    rw [less_go ne]
    unfold has
    simp only [dropA_mem]
    constructor
    · rintro (⟨a, b⟩ | ⟨a, b, c⟩)
      · exact ⟨.inl ⟨a, b⟩, fun z => go_ne_box (by rw [← e, ← z, a])⟩
      · exact ⟨.inr ⟨a, b⟩, fun z => c (by rw [z])⟩
    · rintro ⟨⟨a, b⟩ | ⟨a, b⟩, n⟩
      · exact .inl ⟨a, b⟩
      · exact .inr ⟨a, b, fun z => n (wo_eq (a.trans e.symm) z)⟩
theorem less_inn {T : Vw} {t u v : Wo} (ht : T.has t) : (T.less t).inn u v ↔ T.inn u v ∧ u ≠ t := by
  rcases ht with ⟨e, m⟩ | ⟨e, m⟩
  · rw [less_box e]
    unfold inn
    simp only [getA_drop]
    constructor
    · rintro (⟨a, b⟩ | ⟨a, b⟩)
      · split at b
        · cases b
        · rename_i c
          exact ⟨.inl ⟨a, b⟩, fun z => c (by rw [z])⟩
      · exact ⟨.inr ⟨a, b⟩, fun z => go_ne_box (by rw [← a, z, e])⟩
    · rintro ⟨⟨a, b⟩ | ⟨a, b⟩, n⟩
      · exact .inl ⟨a, by rw [if_neg fun z => n (wo_eq (a.trans e.symm) z)]; exact b⟩
      · exact .inr ⟨a, b⟩
  · have ne : t.1 ≠ "box" := by rw [e]; exact go_ne_box
    rw [less_go ne]
    unfold inn
    simp only [getA_drop]
    constructor
    · rintro (⟨a, b⟩ | ⟨a, l, b, c⟩)
      · exact ⟨.inl ⟨a, b⟩, fun z => go_ne_box (by rw [← e, ← z, a])⟩
      · split at b
        · cases b
        · rename_i k
          exact ⟨.inr ⟨a, l, b, c⟩, fun z => k (by rw [z])⟩
    · rintro ⟨⟨a, b⟩ | ⟨a, l, b, c⟩, n⟩
      · exact .inl ⟨a, b⟩
      · exact .inr ⟨a, l, by rw [if_neg fun z => n (wo_eq (a.trans e.symm) z)]; exact b, c⟩
theorem less_gone {T : Vw} {t u : Wo} (ht : T.has t) (off : ¬ T.stands t) : (T.less t).Gone u ↔ T.Gone u ∧ u ≠ t := by
  constructor
  · intro g
    induction g with
    | mk u a b c _ ih =>
      obtain ⟨h, n⟩ := (less_has ht).mp a
      rw [less_run.1] at b
      rw [less_run.2] at c
      refine ⟨.mk u h b c fun v hv => ?_, n⟩
      by_cases e : v = t
      · rw [e]
        exact gone_off off ht
      · exact (ih v ((less_inn ht).mpr ⟨hv, e⟩)).1
  · rintro ⟨g, n⟩
    induction g with
    | mk u a b c _ ih =>
      refine .mk u ((less_has ht).mpr ⟨a, n⟩) (by rw [less_run.1]; exact b) (by rw [less_run.2]; exact c) fun v hv => ?_
      obtain ⟨h, n'⟩ := (less_inn ht).mp hv
      exact ih v h n'
theorem filter_drop {α : Type} {l : List (Int × α)} {k : Int} {P Q : Int → Prop} [DecidablePred P] [DecidablePred Q] (h : ∀ x, (P x ∧ x ≠ k) ↔ Q x) : ((dropA l k).filter fun e => decide (P e.1)) = l.filter fun e => decide (Q e.1) := by
  unfold dropA
  rw [List.filter_filter]
  refine List.filter_congr fun e _ => ?_
  rw [Bool.eq_iff_iff, Bool.and_eq_true, decide_eq_true_eq, decide_eq_true_eq, decide_eq_true_eq]
  exact h e.1
open Classical in
theorem less_sift {T : Vw} {t : Wo} {P Q : Wo → Prop} (ht : T.has t) (h : ∀ u, Q u ↔ (P u ∧ u ≠ t)) : (T.less t).sift P = T.sift Q := by
  unfold sift
  rcases ht with ⟨e, m⟩ | ⟨e, m⟩
  · have nn : ∀ k : Int, (("go", k) : Wo) ≠ t := fun k z => go_ne_box (by rw [← e, ← z])
    have kk : ∀ k : Int, (P ("box", k) ∧ k ≠ t.2) ↔ Q ("box", k) := fun k => by
      rw [h]
      exact ⟨fun q => ⟨q.1, fun z => q.2 (by rw [← z])⟩, fun q => ⟨q.1, fun z => q.2 (wo_eq e.symm z)⟩⟩
    have gg : ∀ k : Int, P ("go", k) ↔ Q ("go", k) := fun k => by
      rw [h]
      exact ⟨fun q => ⟨q, nn k⟩, fun q => q.1⟩
    rw [less_box e]
    simp only
    rw [filter_drop kk, filter_keys (fun k => P ("go", k)) (fun k => Q ("go", k)) gg, filter_keys (fun k => P ("go", k)) (fun k => Q ("go", k)) gg]
  · have ne : t.1 ≠ "box" := by rw [e]; exact go_ne_box
    have nn : ∀ k : Int, (("box", k) : Wo) ≠ t := fun k z => ne (by rw [← z])
    have kk : ∀ k : Int, (P ("go", k) ∧ k ≠ t.2) ↔ Q ("go", k) := fun k => by
      rw [h]
      exact ⟨fun q => ⟨q.1, fun z => q.2 (by rw [← z])⟩, fun q => ⟨q.1, fun z => q.2 (wo_eq e.symm z)⟩⟩
    have gg : ∀ k : Int, P ("box", k) ↔ Q ("box", k) := fun k => by
      rw [h]
      exact ⟨fun q => ⟨q, nn k⟩, fun q => q.1⟩
    rw [less_go ne]
    simp only
    rw [filter_drop kk, filter_drop kk, filter_keys (fun k => P ("box", k)) (fun k => Q ("box", k)) gg]
theorem less_settle {T : Vw} {t : Wo} (ht : T.has t) (off : ¬ T.stands t) : (T.less t).settle = T.settle := by
  refine less_sift ht fun u => ?_
  rw [less_gone ht off]
  have gt := gone_off off ht
  constructor
  · intro h
    exact ⟨fun q => h q.1, fun z => h (z ▸ gt)⟩
  · rintro ⟨h, n⟩ g
    exact h ⟨g, n⟩
end Vw
/-! ### the counts of the house of copies -/
section
variable {S S' : Hs} {t w : Wo} {l : List Wo}
theorem cnt_loose : (S.loose w).cnt t = S.cnt t - (if w = t ∧ w ∈ S.ho.map (·.1) then 1 else 0) := by
  unfold Hs.loose
  cases e : getA S.ho w with
  | none =>
    have m : w ∉ S.ho.map (·.1) := getA_none.mp e
    rw [if_neg fun z => m z.2, Int.sub_zero]
  | some n =>
    have m : w ∈ S.ho.map (·.1) := getA_isSome_iff.mp ⟨n, e⟩
    show (getA (putA S.ho w (n - 1)) t).getD 0 = _
    rw [getA_put]
    by_cases z : t = w
    · subst z
      rw [if_pos rfl, if_pos ⟨rfl, m⟩]
      unfold Hs.cnt
      rw [e]
      rfl
    · rw [if_neg z, if_neg fun q => z q.1.symm, Int.sub_zero]
      rfl
theorem cnt_looses : (S.looses l).cnt t = S.cnt t - (if t ∈ S.ho.map (·.1) then (l.count t : Int) else 0) := by
  unfold Hs.looses
  induction l generalizing S with
  | nil => simp
  | cons w l ih =>
    rw [List.foldl_cons, ih, cnt_loose, Hs.loose_keys, List.count_cons]
    by_cases e : w = t
    · subst e
      by_cases m : w ∈ S.ho.map (·.1)
      · rw [if_pos ⟨rfl, m⟩, if_pos m, if_pos m, if_pos (by simp)]
        omega
      · rw [if_neg fun z => m z.2, if_neg m, if_neg m]
        omega
    · rw [if_neg fun z => e z.1]
      by_cases m : t ∈ S.ho.map (·.1)
      · rw [if_pos m, if_pos m, if_neg (by simp [e])]
        omega
      · rw [if_neg m, if_neg m]
        omega
/-- what is held no more waits -/
def Hs.Zero (S : Hs) : Prop := ∀ t, t ∈ S.ho.map (·.1) → S.cnt t ≤ 0 → t ∈ S.wa
def Hs.Pos (S : Hs) : Prop := ∀ t, t ∈ S.ho.map (·.1) → 0 ≤ S.cnt t
theorem zero_hold (z : S.Zero) (p : S.Pos) : (S.hold w).Zero ∧ (S.hold w).Pos := by
  have e : ∀ t, (S.hold w).cnt t = S.cnt t + (if isT w = true ∧ t = w then 1 else 0) := fun t => by
    unfold Hs.cnt
    rw [hold_get]
    split
    · rename_i h
      rw [h.2]
      rfl
    · rw [Int.add_zero]
  refine ⟨fun t m c => ?_, fun t m => ?_⟩
  · rw [Hs.hold_f.2.2.2.2.2]
    rcases keys_hold.mp m with m | m
    · have := p t m
      rw [e] at c
      refine z t m ?_
      split at c <;> omega
    · rw [e, if_pos ⟨m.1, m.2⟩] at c
      by_cases k : t ∈ S.ho.map (·.1)
      · have := p t k
        omega
      · rw [cnt_none k] at c
        omega
  · rw [e]
    rcases keys_hold.mp m with m | m
    · have := p t m
      split <;> omega
    · rw [if_pos ⟨m.1, m.2⟩]
      by_cases k : t ∈ S.ho.map (·.1)
      · have := p t k
        omega
      · rw [cnt_none k]
        omega
theorem zero_holds (z : S.Zero) (p : S.Pos) : (S.holds l).Zero ∧ (S.holds l).Pos := by
  unfold Hs.holds
  induction l generalizing S with
  | nil => exact ⟨z, p⟩
  | cons w l ih =>
    obtain ⟨a, b⟩ := zero_hold (w := w) z p
    exact ih a b
theorem loose_wa_sub : t ∈ S.wa → t ∈ (S.loose w).wa := by
  unfold Hs.loose
  intro m
  split
  · exact m
  · show t ∈ (if _ then _ else _)
    split
    · exact List.mem_append_left _ m
    · exact m
theorem zero_loose (z : S.Zero) : (S.loose w).Zero := fun t m c => by
  rw [Hs.loose_keys] at m
  by_cases h : S.cnt t ≤ 0
  · exact loose_wa_sub (z t m h)
  · rw [cnt_loose] at c
    split at c
    · rename_i e
      obtain ⟨rfl, mw⟩ := e
      obtain ⟨n, en⟩ := getA_isSome_iff.mpr mw
      have : S.cnt w = n := by unfold Hs.cnt; rw [en]; rfl
      unfold Hs.loose
      rw [en]
      show w ∈ (if n - 1 = 0 then S.wa ++ [w] else S.wa)
      rw [if_pos (by omega)]
      simp
    · omega
theorem zero_looses (z : S.Zero) : (S.looses l).Zero := by
  unfold Hs.looses
  induction l generalizing S with
  | nil => exact z
  | cons w l ih => exact ih (zero_loose z)
/-- the house in the middle of a deed: the counts are right, what is held no more waits -/
structure Mid (S : Hs) : Prop where
  cnt : ∀ t, isT t = true → S.cnt t = S.occ t
  key : ∀ t, t ∈ S.ho.map (·.1) ↔ S.vw.has t
  zero : S.Zero
  tidy : S.vw.Tidy
  ndo : (S.ho.map (·.1)).Nodup
structure Fine (S : Hs) : Prop where
  mid : Mid S
  wa : S.wa = []
theorem Mid.isTh (h : Mid S) (m : t ∈ S.ho.map (·.1)) : isT t = true := Vw.has_isT ((h.key t).mp m)
theorem Mid.pos (h : Mid S) : S.Pos := fun t m => by
  rw [h.cnt t (h.isTh m)]
  omega
theorem Mid.in_ (h : Mid S) (ht : G.isT t = true) (o : 0 < S.occ t) : t ∈ S.ho.map (·.1) := by
  refine Classical.byContradiction fun m => ?_
  have := h.cnt t ht
  rw [cnt_none m] at this
  omega
theorem count_vals {κ : Type} [DecidableEq κ] {m : List (κ × Wo)} (nd : (m.map (·.1)).Nodup) : 0 < (m.map (·.2)).count t ↔ ∃ k, getA m k = some t := by
  rw [List.count_pos_iff, List.mem_map]
  constructor
  · rintro ⟨e, me, rfl⟩
    exact ⟨e.1, getA_of nd me⟩
  · rintro ⟨k, e⟩
    exact ⟨_, getA_mem e, rfl⟩
theorem sum_pos_iff {α : Type} {l : List α} {f : α → Nat} : 0 < (l.map f).sum ↔ ∃ a ∈ l, 0 < f a := by
  induction l with
  | nil => simp
  | cons a l ih =>
    rw [List.map_cons, List.sum_cons]
    constructor
    · intro h
      by_cases z : 0 < f a
      · exact ⟨a, by simp, z⟩
      · obtain ⟨b, m, hb⟩ := ih.mp (by omega)
        exact ⟨b, List.mem_cons_of_mem _ m, hb⟩
    · rintro ⟨b, m, hb⟩
      rcases List.mem_cons.mp m with rfl | m
      · omega
      · have := ih.mpr ⟨b, m, hb⟩
        omega
/-- what is counted stands somewhere -/
theorem occ_stands (td : S.vw.Tidy) : 0 < S.occ t ↔ S.vw.stands t := by
  unfold Vw.stands Vw.inn Hs.occ
  have h1 := count_vals (t := t) td.ndb
  have h2 : 0 < (S.wh.map fun e => e.2.count t).sum ↔ ∃ k l, getA S.wh k = some l ∧ t ∈ l := by
    rw [sum_pos_iff]
    constructor
    · rintro ⟨e, m, c⟩
      exact ⟨e.1, e.2, getA_of td.ndw m, List.count_pos_iff.mp c⟩
    · rintro ⟨k, l, e, m⟩
      exact ⟨_, getA_mem e, List.count_pos_iff.mpr m⟩
  have h3 : 0 < S.run.count t ↔ t ∈ S.run := List.count_pos_iff
  have h4 : 0 < (S.pg.map (·.2)).count t ↔ t ∈ S.pg.map (·.2) := List.count_pos_iff
  have e1 : S.vw.bx = S.bx := rfl
  rw [e1] at h1
  constructor
  · intro h
    by_cases a : 0 < S.run.count t
    · exact .inl (h3.mp a)
    · by_cases b : 0 < (S.pg.map (·.2)).count t
      · exact .inr (.inl (h4.mp b))
      · by_cases c : 0 < (S.bx.map (·.2)).count t
        · obtain ⟨k, e⟩ := h1.mp c
          exact .inr (.inr ⟨("box", k), .inl ⟨rfl, e⟩⟩)
        · obtain ⟨k, l, e, m⟩ := h2.mp (by omega)
          exact .inr (.inr ⟨("go", k), .inr ⟨rfl, l, e, m⟩⟩)
  · rintro (a | a | ⟨u, ⟨_, e⟩ | ⟨_, l, e, m⟩⟩)
    · have := h3.mpr a
      omega
    · have := h4.mpr a
      omega
    · have := h1.mpr ⟨u.2, e⟩
      omega
    · have := h2.mpr ⟨u.2, l, e, m⟩
      omega
theorem Mid.ok (h : Mid S) : S.Ok := fun t m => by
  rcases (h.key t).mp m with ⟨a, b⟩ | ⟨a, b⟩
  · exact .inl ⟨a, b⟩
  · have : t.2 ∈ S.pl.map (·.1) := by
      rw [show S.pl.map (·.1) = S.wh.map (·.1) from h.tidy.plk]
      exact b
    exact .inr ⟨by rw [a]; exact Vw.go_ne_box, a, this, b⟩
theorem count_dropA {κ : Type} [DecidableEq κ] {m : List (κ × Wo)} {k : κ} {c : Wo} (nd : (m.map (·.1)).Nodup) (e : getA m k = some c) : ((dropA m k).map (·.2)).count t + (if c = t then 1 else 0) = (m.map (·.2)).count t := by
  induction m with
  | nil => cases e
  | cons p r ih =>
    rw [List.map_cons, List.nodup_cons] at nd
    unfold dropA
    by_cases z : p.1 = k
    · rw [getA_pos z] at e
      cases e
      rw [List.filter_cons_of_neg (by simp [z])]
      have : r.filter (fun e => decide (e.1 ≠ k)) = r := List.filter_eq_self.mpr fun e me => by
        simp only [ne_eq, decide_not, Bool.not_eq_eq_eq_not, Bool.not_true, decide_eq_false_iff_not]
        exact fun q => nd.1 (by rw [z, ← q]; exact List.mem_map.mpr ⟨e, me, rfl⟩)
      rw [this]
      simp only [List.map_cons, List.count_cons, beq_iff_eq]
    · rw [getA_neg z] at e
      have := ih nd.2 e
      rw [List.filter_cons_of_pos (by simp [z])]
      unfold dropA at this
      simp only [List.map_cons, List.count_cons, beq_iff_eq]
      omega
theorem sum_dropA {m : List (Int × List Wo)} {k : Int} {l : List Wo} (nd : (m.map (·.1)).Nodup) (e : getA m k = some l) : ((dropA m k).map fun e => e.2.count t).sum + l.count t = (m.map fun e => e.2.count t).sum := by
  induction m with
  | nil => cases e
  | cons p r ih =>
    rw [List.map_cons, List.nodup_cons] at nd
    unfold dropA
    by_cases z : p.1 = k
    · rw [getA_pos z] at e
      cases e
      rw [List.filter_cons_of_neg (by simp [z])]
      have : r.filter (fun e => decide (e.1 ≠ k)) = r := List.filter_eq_self.mpr fun e me => by
        simp only [ne_eq, decide_not, Bool.not_eq_eq_eq_not, Bool.not_true, decide_eq_false_iff_not]
        exact fun q => nd.1 (by rw [z, ← q]; exact List.mem_map.mpr ⟨e, me, rfl⟩)
      rw [this]
      simp only [List.map_cons, List.sum_cons]
      omega
    · rw [getA_neg z] at e
      have := ih nd.2 e
      rw [List.filter_cons_of_pos (by simp [z])]
      unfold dropA at this
      simp only [List.map_cons, List.sum_cons]
      omega
theorem cnt_dropA {u : Wo} : ({ S with ho := dropA S.ho u } : Hs).cnt t = if t = u then 0 else S.cnt t := by
  unfold Hs.cnt
  show (getA (dropA S.ho u) t).getD 0 = _
  rw [getA_drop]
  split <;> rfl
theorem looses_vw : (S.looses l).vw = S.vw := by
  obtain ⟨a, b, c, d, e⟩ := Hs.looses_f (S := S) (l := l)
  unfold Hs.vw
  rw [a, b, c, d, e]
theorem loose_vw : (S.loose w).vw = S.vw := looses_vw (l := [w])
theorem holds_vw : (S.holds l).vw = S.vw := by
  obtain ⟨a, b, c, d, e, _⟩ := Hs.holds_f (S := S) (l := l)
  unfold Hs.vw
  rw [a, b, c, d, e]
theorem hold_vw : (S.hold w).vw = S.vw := holds_vw (l := [w])
def Vw.occ (T : Vw) (t : Wo) : Nat := T.run.count t + (T.bx.map (·.2)).count t + (T.pg.map (·.2)).count t + (T.wh.map fun e => e.2.count t).sum
theorem occ_vw : S.occ t = S.vw.occ t := rfl
theorem less_tidy {T : Vw} (h : T.Tidy) : (T.less t).Tidy := by
  unfold Vw.less
  split
  · exact ⟨h.plk, h.ndw, dropA_nodup h.ndb, h.ndp⟩
  · refine ⟨?_, dropA_nodup h.ndw, h.ndb, h.ndp⟩
    show (dropA T.pl t.2).map (·.1) = (dropA T.wh t.2).map (·.1)
    have q : ∀ {α β : Type} {x : List (Int × α)} {y : List (Int × β)}, x.map (·.1) = y.map (·.1) → (dropA x t.2).map (·.1) = (dropA y t.2).map (·.1) := by
      intro α β x y e
      have f : ∀ {γ : Type} (z : List (Int × γ)), (dropA z t.2).map (·.1) = (z.map (·.1)).filter fun k => decide (k ≠ t.2) := by
        intro γ z
        unfold dropA
        rw [List.filter_map]
        rfl
      rw [f, f, e]
    exact q h.plk
/-- a thing that stands nowhere is let go of -/
theorem hold_ndo (h : (S.ho.map (·.1)).Nodup) : ((S.hold w).ho.map (·.1)).Nodup := by
  unfold Hs.hold
  split
  · exact putA_nodup h
  · exact h
theorem holds_ndo (h : (S.ho.map (·.1)).Nodup) : ((S.holds l).ho.map (·.1)).Nodup := by
  unfold Hs.holds
  induction l generalizing S with
  | nil => exact h
  | cons w l ih => exact ih (hold_ndo h)
theorem loose_ndo (h : (S.ho.map (·.1)).Nodup) : ((S.loose w).ho.map (·.1)).Nodup := by rw [Hs.loose_keys]; exact h
theorem looses_ndo (h : (S.ho.map (·.1)).Nodup) : ((S.looses l).ho.map (·.1)).Nodup := by rw [Hs.looses_keys]; exact h
theorem forget_mid (hndo : (S.ho.map (·.1)).Nodup) (hcnt : ∀ t, isT t = true → S.cnt t = S.occ t) (hkey : ∀ t, t ∈ S.ho.map (·.1) ↔ S.vw.has t) (hzero : ∀ u, u ∈ S.ho.map (·.1) → u ≠ t → S.cnt u ≤ 0 → u ∈ S.wa) (htidy : S.vw.Tidy) (m : t ∈ S.ho.map (·.1)) (off : S.occ t = 0) : Mid (S.forget t) ∧ (S.forget t).vw = S.vw.less t := by
  have in_ : ∀ {t : Wo}, G.isT t = true → 0 < S.occ t → t ∈ S.ho.map (·.1) := by
    intro t ht o
    refine Classical.byContradiction fun m => ?_
    have := hcnt t ht
    rw [cnt_none m] at this
    omega
  have ht := (hkey t).mp m
  rcases id ht with ⟨e, mb⟩ | ⟨e, mw⟩
  · obtain ⟨c, ec⟩ := getA_isSome_iff.mpr mb
    have ec' : getA S.bx t.2 = some c := ec
    rw [Hs.forget_box e, ec', Option.getD_some]
    obtain ⟨S1, e1⟩ : ∃ z : Hs, z = { S with ho := dropA S.ho t, bx := dropA S.bx t.2 } := ⟨_, rfl⟩
    rw [← e1]
    have v1 : S1.vw = S.vw.less t := by rw [e1, Vw.less_box e]; rfl
    have k1 : ∀ u, u ∈ S1.ho.map (·.1) ↔ u ∈ S.ho.map (·.1) ∧ u ≠ t := fun u => by rw [e1]; exact dropA_mem
    have c1 : ∀ u, S1.cnt u = if u = t then 0 else S.cnt u := fun u => by
      rw [e1]
      exact cnt_dropA
    have o1 : ∀ u, S1.occ u + (if c = u then 1 else 0) = S.occ u := fun u => by
      have := count_dropA (t := u) htidy.ndb ec
      rw [e1]
      unfold Hs.occ
      simp only
      have e2 : S.vw.bx = S.bx := rfl
      rw [e2] at this
      omega
    have w1 : S1.wa = S.wa := by rw [e1]
    refine ⟨⟨fun u hu => ?_, fun u => ?_, zero_loose fun u mu c => ?_, ?_, ?_⟩, loose_vw.trans v1⟩
    · rw [cnt_loose, c1, occ_vw, loose_vw, ← occ_vw]
      have o := o1 u
      have hc := hcnt u hu
      by_cases z : u = t
      · subst z
        rw [if_pos rfl]
        have : c ≠ u := fun q => by
          rw [off, if_pos q] at o
          omega
        rw [if_neg this] at o
        rw [if_neg fun q => this q.1]
        omega
      · rw [if_neg z]
        by_cases q : c = u
        · subst q
          rw [if_pos rfl] at o
          rw [if_pos ⟨rfl, (k1 c).mpr ⟨in_ hu (by omega), z⟩⟩]
          omega
        · rw [if_neg q] at o
          rw [if_neg fun y => q y.1]
          omega
    · rw [Hs.loose_keys, loose_vw, k1, v1, Vw.less_has ht, hkey]
    · obtain ⟨mu, nu⟩ := (k1 u).mp mu
      rw [w1]
      rw [c1, if_neg nu] at c
      exact hzero u mu nu c
    · rw [loose_vw, v1]
      exact less_tidy htidy
    · refine loose_ndo ?_
      rw [e1]
      exact dropA_nodup hndo
  · have ne : t.1 ≠ "box" := by rw [e]; exact Vw.go_ne_box
    obtain ⟨l, el⟩ := getA_isSome_iff.mpr mw
    have el' : getA S.wh t.2 = some l := el
    rw [Hs.forget_go ne, el', Option.getD_some]
    obtain ⟨S1, e1⟩ : ∃ z : Hs, z = { S with ho := dropA S.ho t, pl := dropA S.pl t.2, wh := dropA S.wh t.2 } := ⟨_, rfl⟩
    rw [← e1]
    have v1 : S1.vw = S.vw.less t := by rw [e1, Vw.less_go ne]; rfl
    have k1 : ∀ u, u ∈ S1.ho.map (·.1) ↔ u ∈ S.ho.map (·.1) ∧ u ≠ t := fun u => by rw [e1]; exact dropA_mem
    have c1 : ∀ u, S1.cnt u = if u = t then 0 else S.cnt u := fun u => by
      rw [e1]
      exact cnt_dropA
    have o1 : ∀ u, S1.occ u + l.count u = S.occ u := fun u => by
      have := sum_dropA (t := u) htidy.ndw el
      rw [e1]
      unfold Hs.occ
      simp only
      have e2 : S.vw.wh = S.wh := rfl
      rw [e2] at this
      omega
    have w1 : S1.wa = S.wa := by rw [e1]
    refine ⟨⟨fun u hu => ?_, fun u => ?_, zero_looses fun u mu c => ?_, ?_, ?_⟩, looses_vw.trans v1⟩
    · rw [cnt_looses, c1, occ_vw, looses_vw, ← occ_vw]
      have o := o1 u
      have hc := hcnt u hu
      by_cases z : u = t
      · subst z
        rw [if_pos rfl, if_neg fun q => ((k1 u).mp q).2 rfl]
        omega
      · rw [if_neg z]
        by_cases q : u ∈ S.ho.map (·.1)
        · rw [if_pos ((k1 u).mpr ⟨q, z⟩)]
          omega
        · rw [if_neg fun y => q ((k1 u).mp y).1]
          have : S.occ u = 0 := by
            refine Nat.eq_zero_of_not_pos fun y => q (in_ hu y)
          omega
    · rw [Hs.looses_keys, looses_vw, k1, v1, Vw.less_has ht, hkey]
    · obtain ⟨mu, nu⟩ := (k1 u).mp mu
      rw [w1]
      rw [c1, if_neg nu] at c
      exact hzero u mu nu c
    · rw [looses_vw, v1]
      exact less_tidy htidy
    · refine looses_ndo ?_
      rw [e1]
      exact dropA_nodup hndo
/-- what settling does -/
theorem Mid.settle (h : Mid S) (s : Setl S S') : Fine S' ∧ S'.vw = S.vw.settle := by
  induction s with
  | @nil S e =>
    refine ⟨⟨h, e⟩, (Vw.settle_full fun t ht => ?_).symm⟩
    have m := (h.key t).mpr ht
    rw [← occ_stands h.tidy]
    refine Nat.pos_of_ne_zero fun z => ?_
    have hc := h.cnt t (Vw.has_isT ht)
    have := h.zero t m (by omega)
    rw [e] at this
    cases this
  | @skip S S' l t e n s ih =>
    have hm : Mid { S with wa := l } := ⟨h.cnt, h.key, fun u mu c => by
      have := h.zero u mu c
      rw [e] at this
      rcases List.mem_append.mp this with q | q
      · exact q
      · rw [List.mem_singleton] at q
        subst q
        have p := h.pos u mu
        obtain ⟨k, ek⟩ := getA_isSome_iff.mpr mu
        have c' : S.cnt u ≤ 0 := c
        have : S.cnt u = k := by unfold Hs.cnt; rw [ek]; rfl
        rw [ek] at n
        exact absurd (show k = 0 by omega) n, h.tidy, h.ndo⟩
    exact ih hm
  | @go S S' l t e n s ih =>
    have m : t ∈ S.ho.map (·.1) := by
      refine Classical.byContradiction fun m => ?_
      rw [getA_none.mpr m] at n
      exact absurd n (by decide)
    have hm0 : S.cnt t = 0 := by
      obtain ⟨k, ek⟩ := getA_isSome_iff.mpr m
      rw [ek] at n
      unfold Hs.cnt
      rw [ek]
      exact n
    have hq : ∀ u, u ∈ S.ho.map (·.1) → u ≠ t → S.cnt u ≤ 0 → u ∈ l := fun u mu nu c => by
      have := h.zero u mu c
      rw [e] at this
      exact (List.mem_append.mp this).elim id fun q => absurd (List.mem_singleton.mp q) nu
    have off : S.occ t = 0 := by
      have := h.cnt t (h.isTh m)
      omega
    obtain ⟨hm, hv⟩ := forget_mid (S := { S with wa := l }) h.ndo h.cnt h.key hq h.tidy m off
    obtain ⟨a, b⟩ := ih hm
    exact ⟨a, by rw [b, hv]; exact Vw.less_settle ((h.key t).mp m) fun z => by have := (occ_stands h.tidy).mpr z; omega⟩
end
end G

namespace G
open PySem L2
/-! ### the deeds, as seen from outside -/
section
variable {S S' : Hs} {t w : Wo} {l a : List Wo}
theorem pos_looses (p : ∀ t, t ∈ S.ho.map (·.1) → (l.count t : Int) ≤ S.cnt t) : (S.looses l).Pos := fun t m => by
  rw [Hs.looses_keys] at m
  rw [cnt_looses, if_pos m]
  have := p t m
  omega
theorem Mid.le (h : Mid S) {n : Nat} (hn : n ≤ S.occ t) (m : t ∈ S.ho.map (·.1)) : (n : Int) ≤ S.cnt t := by
  rw [h.cnt t (h.isTh m)]
  omega
theorem Mid.off (h : Mid S) (ht : isT t = true) (m : t ∉ S.ho.map (·.1)) : S.occ t = 0 := Nat.eq_zero_of_not_pos fun y => m (h.in_ ht y)
/-- a worth on the pile -/
theorem Fine.lay (h : Fine S) (p : isT w = true → S.vw.has w) : Fine (S.lay w) ∧ (S.lay w).vw = { S.vw with run := S.run ++ [w] } := by
  have v : (S.lay w).vw = { S.vw with run := S.run ++ [w] } := hold_vw (S := { S with run := S.run ++ [w] }) (w := w)
  have z := zero_hold (S := { S with run := S.run ++ [w] }) (w := w) h.mid.zero h.mid.pos
  refine ⟨⟨⟨fun t ht => ?_, fun t => ?_, z.1, ?_, hold_ndo (S := { S with run := S.run ++ [w] }) h.mid.ndo⟩, ?_⟩, v⟩
  · rw [occ_vw, v]
    unfold Hs.lay
    rw [cnt_hold ht]
    show S.cnt t + _ = _
    rw [h.mid.cnt t ht]
    show ((S.occ t : Nat) : Int) + _ = _
    unfold Hs.occ Vw.occ
    show _ = (((S.run ++ [w]).count t + (S.bx.map (·.2)).count t + (S.pg.map (·.2)).count t + (S.wh.map fun e => e.2.count t).sum : Nat) : Int)
    rw [List.count_append, count1]
    split <;> omega
  · rw [v]
    unfold Hs.lay
    rw [keys_hold]
    show t ∈ S.ho.map (·.1) ∨ _ ↔ S.vw.has t
    rw [h.mid.key]
    exact ⟨fun q => q.elim id fun q => q.2 ▸ p q.1, .inl⟩
  · rw [v]
    exact ⟨h.mid.tidy.plk, h.mid.tidy.ndw, h.mid.tidy.ndb, h.mid.tidy.ndp⟩
  · exact (Hs.hold_f (S := { S with run := S.run ++ [w] }) (w := w)).2.2.2.2.2.trans h.wa
/-- a worth out of the pile -/
theorem Fine.out {us ts : List Wo} (h : Fine S) (er : S.run = us ++ [w] ++ ts) : Mid (S.out us w ts) ∧ (S.out us w ts).vw = { S.vw with run := us ++ ts } := by
  obtain ⟨S1, e1⟩ : ∃ z : Hs, z = { S with run := us ++ ts } := ⟨_, rfl⟩
  have cr : ∀ t, S.run.count t = us.count t + (if w = t then 1 else 0) + ts.count t := fun t => by rw [er]; simp only [List.count_append, count1]
  have cl : ∀ t, (ts.reverse ++ [w]).count t = ts.count t + (if w = t then 1 else 0) := fun t => by simp only [List.count_append, count1, List.count_reverse]
  have v : (S.out us w ts).vw = { S.vw with run := us ++ ts } := by
    unfold Hs.out
    rw [holds_vw, looses_vw]
    rfl
  have le : ∀ t, (ts.reverse ++ [w]).count t ≤ S.occ t := fun t => by
    rw [cl]
    unfold Hs.occ
    rw [cr]
    omega
  have z := zero_holds (S := S1.looses (ts.reverse ++ [w])) (l := ts) (zero_looses (by rw [e1]; exact h.mid.zero)) (pos_looses fun t m => by rw [e1] at m ⊢; exact h.mid.le (le t) m)
  have kk : ∀ t, t ∈ (S.out us w ts).ho.map (·.1) ↔ t ∈ S.ho.map (·.1) := fun t => by
    unfold Hs.out
    rw [keys_holds, Hs.looses_keys]
    refine ⟨fun m => m.elim id fun m => h.mid.in_ m.1 ?_, .inl⟩
    have := le t
    rw [cl] at this
    have := List.count_pos_iff.mpr m.2
    omega
  rw [e1] at z
  refine ⟨⟨fun t ht => ?_, fun t => ?_, z.1, ?_, holds_ndo (looses_ndo (S := { S with run := us ++ ts }) h.mid.ndo)⟩, v⟩
  · have hc := h.mid.cnt t ht
    rw [occ_vw, v]
    unfold Hs.out
    rw [cnt_holds ht, cnt_looses, cl]
    show S.cnt t - (if t ∈ S.ho.map (·.1) then _ else _) + _ = (((us ++ ts).count t + (S.bx.map (·.2)).count t + (S.pg.map (·.2)).count t + (S.wh.map fun e => e.2.count t).sum : Nat) : Int)
    have o : S.occ t = S.run.count t + (S.bx.map (·.2)).count t + (S.pg.map (·.2)).count t + (S.wh.map fun e => e.2.count t).sum := rfl
    rw [cr] at o
    rw [List.count_append]
    by_cases m : t ∈ S.ho.map (·.1)
    · rw [if_pos m]
      split <;> rename_i q
      · rw [if_pos q] at o
        omega
      · rw [if_neg q] at o
        omega
    · rw [if_neg m]
      have := h.mid.off ht m
      omega
  · rw [kk, h.mid.key, v]
    exact Iff.rfl
  · rw [v]
    exact ⟨h.mid.tidy.plk, h.mid.tidy.ndw, h.mid.tidy.ndb, h.mid.tidy.ndp⟩
theorem putA_sum_new {m : List (Int × List Wo)} {k : Int} (h : k ∉ m.map (·.1)) : ((putA m k l).map fun e => e.2.count t).sum = (m.map fun e => e.2.count t).sum + l.count t := by
  rw [putA_new h, List.map_append, List.sum_append]
  simp
/-- a going-on is kept -/
theorem Fine.keep {place g : Int} (h : Fine S) (ng : g ∉ S.pl.map (·.1)) : Fine (S.keep place g) ∧ (S.keep place g).vw = { S.vw with run := S.run ++ [goW g], wh := S.wh ++ [(g, S.run)], pl := S.pl ++ [(g, place)] } := by
  have ngw : g ∉ S.wh.map (·.1) := by
    have e : S.pl.map (·.1) = S.wh.map (·.1) := h.mid.tidy.plk
    rw [← e]
    exact ng
  obtain ⟨S1, e1⟩ : ∃ z : Hs, z = { S with pl := putA S.pl g place, wh := putA S.wh g S.run } := ⟨_, rfl⟩
  obtain ⟨a', b', c', d', e', f'⟩ := Hs.holds_f (S := S1) (l := S.run)
  have v : (S.keep place g).vw = { S.vw with run := S.run ++ [goW g], wh := S.wh ++ [(g, S.run)], pl := S.pl ++ [(g, place)] } := by
    unfold Hs.keep Hs.lay
    rw [← e1, hold_vw]
    unfold Hs.vw
    simp only [a', b', c', d', e']
    rw [e1, putA_new ng, putA_new ngw]
  have z1 := zero_holds (S := S1) (l := S.run) (by rw [e1]; exact h.mid.zero) (by rw [e1]; exact h.mid.pos)
  have z2 := zero_hold (S := { S1.holds S.run with run := (S1.holds S.run).run ++ [goW g] }) (w := goW g) z1.1 z1.2
  have kg : isT (goW g) = true := Vw.has_isT (T := { S.vw with wh := S.wh ++ [(g, S.run)] }) (.inr ⟨rfl, by simp⟩)
  have k1 : ∀ t, t ∈ S1.ho.map (·.1) ↔ t ∈ S.ho.map (·.1) := fun t => by rw [e1]
  have c1 : ∀ t, S1.cnt t = S.cnt t := fun t => by rw [e1]; rfl
  refine ⟨⟨⟨fun t ht => ?_, fun t => ?_, ?_, ?_, hold_ndo (S := { ({ S with pl := putA S.pl g place, wh := putA S.wh g S.run } : Hs).holds S.run with run := _ }) (holds_ndo (S := { S with pl := putA S.pl g place, wh := putA S.wh g S.run }) h.mid.ndo)⟩, ?_⟩, v⟩
  · rw [occ_vw, v]
    unfold Hs.keep Hs.lay
    rw [← e1, cnt_hold ht]
    show (S1.holds S.run).cnt t + _ = _
    rw [cnt_holds ht, c1, h.mid.cnt t ht]
    show ((S.run.count t + (S.bx.map (·.2)).count t + (S.pg.map (·.2)).count t + (S.wh.map fun e => e.2.count t).sum : Nat) : Int) + _ + _ = (((S.run ++ [goW g]).count t + (S.bx.map (·.2)).count t + (S.pg.map (·.2)).count t + ((S.wh ++ [(g, S.run)]).map fun e => e.2.count t).sum : Nat) : Int)
    rw [List.count_append, count1, List.map_append, List.sum_append]
    simp only [List.map_cons, List.map_nil, List.sum_cons, List.sum_nil]
    split <;> omega
  · rw [v]
    unfold Hs.keep Hs.lay
    rw [← e1, keys_hold]
    show t ∈ (S1.holds S.run).ho.map (·.1) ∨ _ ↔ _
    rw [keys_holds, k1, h.mid.key]
    show _ ↔ (t.1 = "box" ∧ t.2 ∈ S.bx.map (·.1)) ∨ (t.1 = "go" ∧ t.2 ∈ (S.wh ++ [(g, S.run)]).map (·.1))
    rw [List.map_append, List.mem_append]
    constructor
    · rintro ((q | ⟨q, m⟩) | ⟨_, rfl⟩)
      · exact q.imp id fun q => ⟨q.1, .inl q.2⟩
      · have : t ∈ S.ho.map (·.1) := h.mid.in_ q (by rw [occ_stands h.mid.tidy]; exact .inl m)
        exact ((h.mid.key t).mp this).imp id fun q => ⟨q.1, .inl q.2⟩
      · exact .inr ⟨rfl, .inr (by simp)⟩
    · rintro (q | ⟨e, q | q⟩)
      · exact .inl (.inl (.inl q))
      · exact .inl (.inl (.inr ⟨e, q⟩))
      · have : t = goW g := Prod.ext e (by simpa using q)
        exact .inr ⟨kg, this⟩
  · unfold Hs.keep Hs.lay
    rw [← e1]
    exact z2.1
  · rw [v]
    refine ⟨?_, ?_, h.mid.tidy.ndb, h.mid.tidy.ndp⟩
    · show (S.pl ++ [(g, place)]).map (·.1) = (S.wh ++ [(g, S.run)]).map (·.1)
      have e : S.pl.map (·.1) = S.wh.map (·.1) := h.mid.tidy.plk
      rw [List.map_append, List.map_append, e]
      rfl
    · show ((S.wh ++ [(g, S.run)]).map (·.1)).Nodup
      rw [← putA_new ngw]
      exact putA_nodup h.mid.tidy.ndw
  · unfold Hs.keep Hs.lay
    rw [← e1]
    refine (Hs.hold_f (S := { S1.holds S.run with run := (S1.holds S.run).run ++ [goW g] })).2.2.2.2.2.trans (f'.trans ?_)
    rw [e1]
    exact h.wa
theorem mem_drop' {n : Nat} (m : t ∈ l.drop n) : t ∈ l := List.mem_of_mem_drop m
/-- gone on with -/
theorem Fine.goTo {g : Int} (h : Fine S) (eg : getA S.wh g = some l) (sub : ∀ t, t ∈ a → t ∈ S.run) : Mid (S.goTo l a) ∧ (S.goTo l a).vw = { S.vw with run := l ++ a } := by
  obtain ⟨S1, e1⟩ : ∃ z : Hs, z = (S.holds l).looses S.run := ⟨_, rfl⟩
  have v1 : S1.vw = S.vw := by rw [e1, looses_vw, holds_vw]
  have v : (S.goTo l a).vw = { S.vw with run := l ++ a } := by
    unfold Hs.goTo
    rw [holds_vw, ← e1, ← v1]
    rfl
  have z1 := zero_holds (S := S) (l := l) h.mid.zero h.mid.pos
  have lst : ∀ t, t ∈ l → S.vw.stands t := fun t m => .inr (.inr ⟨goW g, .inr ⟨rfl, l, eg, m⟩⟩)
  have kl : ∀ t, t ∈ (S.holds l).ho.map (·.1) ↔ t ∈ S.ho.map (·.1) := fun t => by
    rw [keys_holds]
    exact ⟨fun q => q.elim id fun q => h.mid.in_ q.1 (by rw [occ_stands h.mid.tidy]; exact lst t q.2), .inl⟩
  have k1 : ∀ t, t ∈ S1.ho.map (·.1) ↔ t ∈ S.ho.map (·.1) := fun t => by rw [e1, Hs.looses_keys]; exact kl t
  have c1 : ∀ t, isT t = true → S1.cnt t = S.cnt t + l.count t - (if t ∈ S.ho.map (·.1) then (S.run.count t : Int) else 0) := fun t ht => by
    rw [e1, cnt_looses, cnt_holds ht]
    congr 1
    by_cases m : t ∈ S.ho.map (·.1)
    · rw [if_pos m, if_pos ((kl t).mpr m)]
    · rw [if_neg m, if_neg fun q => m ((kl t).mp q)]
  have z2 : S1.Zero := by rw [e1]; exact zero_looses z1.1
  have p2 : S1.Pos := by
    rw [e1]
    refine pos_looses fun t m => ?_
    have m' := (kl t).mp m
    have ht := h.mid.isTh m'
    rw [cnt_holds ht, h.mid.cnt t ht]
    unfold Hs.occ
    omega
  have z3 := zero_holds (S := { S1 with run := l ++ a }) (l := a) z2 p2
  refine ⟨⟨fun t ht => ?_, fun t => ?_, ?_, ?_, holds_ndo (S := { (S.holds l).looses S.run with run := l ++ a }) (looses_ndo (holds_ndo h.mid.ndo))⟩, v⟩
  · rw [occ_vw, v]
    unfold Hs.goTo
    rw [← e1, cnt_holds ht]
    show S1.cnt t + _ = (((l ++ a).count t + (S.bx.map (·.2)).count t + (S.pg.map (·.2)).count t + (S.wh.map fun e => e.2.count t).sum : Nat) : Int)
    rw [c1 t ht, h.mid.cnt t ht, List.count_append]
    by_cases m : t ∈ S.ho.map (·.1)
    · rw [if_pos m]
      unfold Hs.occ
      omega
    · rw [if_neg m]
      have := h.mid.off ht m
      have o : S.occ t = S.run.count t + (S.bx.map (·.2)).count t + (S.pg.map (·.2)).count t + (S.wh.map fun e => e.2.count t).sum := rfl
      omega
  · rw [v]
    unfold Hs.goTo
    rw [← e1, keys_holds]
    show t ∈ S1.ho.map (·.1) ∨ _ ↔ S.vw.has t
    rw [k1, h.mid.key]
    exact ⟨fun q => q.elim id fun q => (h.mid.key t).mp (h.mid.in_ q.1 (by rw [occ_stands h.mid.tidy]; exact .inl (sub t q.2))), .inl⟩
  · unfold Hs.goTo
    rw [← e1]
    exact z3.1
  · rw [v]
    exact ⟨h.mid.tidy.plk, h.mid.tidy.ndw, h.mid.tidy.ndb, h.mid.tidy.ndp⟩
/-- the top into a new box -/
theorem Fine.boxed {b : Int} (h : Fine S) (er : S.run = l ++ [w]) (nb : b ∉ S.bx.map (·.1)) : Mid (S.boxed l w b) ∧ (S.boxed l w b).vw = { S.vw with run := l ++ [boxW b], bx := S.bx ++ [(b, w)] } := by
  obtain ⟨S1, e1⟩ : ∃ z : Hs, z = { S.off l w with bx := putA S.bx b w } := ⟨_, rfl⟩
  obtain ⟨a1, b1, c1, d1, f1⟩ := Hs.loose_f (S := { S with run := l }) (w := w)
  have v1 : S1.vw = { S.vw with run := l, bx := S.bx ++ [(b, w)] } := by
    rw [e1]
    unfold Hs.vw Hs.off
    simp only [a1, b1, c1, f1]
    rw [putA_new nb]
  have k1 : S1.ho.map (·.1) = S.ho.map (·.1) := by
    rw [e1]
    exact Hs.loose_keys (S := { S with run := l })
  have cn1 : ∀ t, S1.cnt t = S.cnt t - (if w = t ∧ w ∈ S.ho.map (·.1) then 1 else 0) := fun t => by
    rw [e1]
    exact cnt_loose (S := { S with run := l })
  have z1 : S1.Zero := by
    rw [e1]
    exact zero_loose (S := { S with run := l }) h.mid.zero
  have cr : ∀ t, S.run.count t = l.count t + (if w = t then 1 else 0) := fun t => by rw [er, List.count_append, count1]
  have p1 : S1.Pos := fun t m => by
    rw [k1] at m
    rw [cn1, h.mid.cnt t (h.mid.isTh m)]
    unfold Hs.occ
    rw [cr]
    by_cases q : w = t
    · simp only [if_pos q]
      split <;> omega
    · rw [show (if w = t ∧ w ∈ S.ho.map (·.1) then (1 : Int) else 0) = 0 from if_neg fun y => q y.1]
      omega
  have hb := hold_vw (S := S1) (w := w)
  have z2 := zero_hold (S := S1) (w := w) z1 p1
  obtain ⟨S2, e2⟩ : ∃ z : Hs, z = S1.hold w := ⟨_, rfl⟩
  rw [← e2] at hb z2
  have v : (S.boxed l w b).vw = { S.vw with run := l ++ [boxW b], bx := S.bx ++ [(b, w)] } := by
    unfold Hs.boxed Hs.lay
    rw [← e1, hold_vw, ← e2]
    have h2 : S2.vw = { S.vw with run := l, bx := S.bx ++ [(b, w)] } := hb.trans v1
    have r2 : S2.run = l := congrArg Vw.run h2
    show ({ S2.vw with run := S2.run ++ [boxW b] } : Vw) = _
    rw [h2, r2]
  have z3 := zero_hold (S := { S2 with run := S2.run ++ [boxW b] }) (w := boxW b) z2.1 z2.2
  have kb : isT (boxW b) = true := Vw.has_isT (T := { S.vw with bx := S.bx ++ [(b, w)] }) (.inl ⟨rfl, by simp⟩)
  have wst : S.vw.stands w := .inl (by show w ∈ S.run; rw [er]; simp)
  refine ⟨⟨fun t ht => ?_, fun t => ?_, ?_, ?_, hold_ndo (S := { ({ S.off l w with bx := putA S.bx b w } : Hs).hold w with run := _ }) (hold_ndo (S := { S.off l w with bx := putA S.bx b w }) (loose_ndo (S := { S with run := l }) h.mid.ndo))⟩, v⟩
  · rw [occ_vw, v]
    unfold Hs.boxed Hs.lay
    rw [← e1, ← e2, cnt_hold ht]
    show S2.cnt t + _ = (((l ++ [boxW b]).count t + ((S.bx ++ [(b, w)]).map (·.2)).count t + (S.pg.map (·.2)).count t + (S.wh.map fun e => e.2.count t).sum : Nat) : Int)
    rw [e2, cnt_hold ht, cn1, h.mid.cnt t ht, List.count_append, count1, List.map_append, List.count_append]
    simp only [List.map_cons, List.map_nil, count1]
    have o : S.occ t = S.run.count t + (S.bx.map (·.2)).count t + (S.pg.map (·.2)).count t + (S.wh.map fun e => e.2.count t).sum := rfl
    rw [cr] at o
    by_cases q : w = t
    · rw [if_pos q] at o
      rw [show (if w = t ∧ w ∈ S.ho.map (·.1) then (1 : Int) else 0) = 1 from if_pos ⟨q, by rw [q]; exact h.mid.in_ ht (by omega)⟩]
      simp only [if_pos q]
      split <;> omega
    · rw [if_neg q] at o
      rw [show (if w = t ∧ w ∈ S.ho.map (·.1) then (1 : Int) else 0) = 0 from if_neg fun y => q y.1]
      simp only [if_neg q]
      split <;> omega
  · rw [v]
    unfold Hs.boxed Hs.lay
    rw [← e1, ← e2, keys_hold]
    show t ∈ S2.ho.map (·.1) ∨ _ ↔ (t.1 = "box" ∧ t.2 ∈ (S.bx ++ [(b, w)]).map (·.1)) ∨ (t.1 = "go" ∧ t.2 ∈ S.wh.map (·.1))
    rw [e2, keys_hold, k1, h.mid.key, List.map_append, List.mem_append]
    constructor
    · rintro ((q | ⟨q, rfl⟩) | ⟨_, rfl⟩)
      · exact q.imp (fun q => ⟨q.1, .inl q.2⟩) id
      · exact ((h.mid.key _).mp (h.mid.in_ q (by rw [occ_stands h.mid.tidy]; exact wst))).imp (fun q => ⟨q.1, .inl q.2⟩) id
      · exact .inl ⟨rfl, .inr (by simp)⟩
    · rintro (⟨e, q | q⟩ | q)
      · exact .inl (.inl (.inl ⟨e, q⟩))
      · have : t = boxW b := Prod.ext e (by simpa using q)
        exact .inr ⟨kb, this⟩
      · exact .inl (.inl (.inr q))
  · unfold Hs.boxed Hs.lay
    rw [← e1, ← e2]
    exact z3.1
  · rw [v]
    refine ⟨h.mid.tidy.plk, h.mid.tidy.ndw, ?_, h.mid.tidy.ndp⟩
    show ((S.bx ++ [(b, w)]).map (·.1)).Nodup
    rw [← putA_new nb]
    exact putA_nodup h.mid.tidy.ndb
/-- a box gets another worth -/
theorem Fine.filled {b : Int} {old : Wo} (h : Fine S) (eo : getA S.bx b = some old) (p : isT w = true → S.vw.has w) : Mid (S.filled b w old) ∧ (S.filled b w old).vw = { S.vw with bx := putA S.bx b w } := by
  obtain ⟨S1, e1⟩ : ∃ z : Hs, z = { S.hold w with bx := putA S.bx b w } := ⟨_, rfl⟩
  obtain ⟨a1, b1, c1, d1, f1, g1⟩ := Hs.hold_f (S := S) (w := w)
  have v1 : S1.vw = { S.vw with bx := putA S.bx b w } := by
    rw [e1]
    unfold Hs.vw
    simp only [a1, b1, c1, f1]
  have v : (S.filled b w old).vw = { S.vw with bx := putA S.bx b w } := by
    unfold Hs.filled
    rw [← e1, loose_vw, v1]
  have z1 := zero_hold (S := S) (w := w) h.mid.zero h.mid.pos
  have k1 : ∀ t, t ∈ S1.ho.map (·.1) ↔ t ∈ S.ho.map (·.1) := fun t => by
    rw [e1]
    show t ∈ (S.hold w).ho.map (·.1) ↔ _
    rw [keys_hold]
    exact ⟨fun q => q.elim id fun q => (h.mid.key t).mpr (q.2 ▸ p q.1), .inl⟩
  have cb := fun t => count_putA (m := S.bx) h.mid.tidy.ndb eo w t
  refine ⟨⟨fun t ht => ?_, fun t => ?_, ?_, ?_, loose_ndo (S := { S.hold w with bx := putA S.bx b w }) (hold_ndo h.mid.ndo)⟩, v⟩
  · rw [occ_vw, v]
    unfold Hs.filled
    rw [← e1, cnt_loose]
    show S1.cnt t - _ = ((S.run.count t + ((putA S.bx b w).map (·.2)).count t + (S.pg.map (·.2)).count t + (S.wh.map fun e => e.2.count t).sum : Nat) : Int)
    have c : S1.cnt t = S.cnt t + (if w = t then 1 else 0) := by
      rw [e1]
      exact cnt_hold ht
    rw [c, h.mid.cnt t ht]
    have o : S.occ t = S.run.count t + (S.bx.map (·.2)).count t + (S.pg.map (·.2)).count t + (S.wh.map fun e => e.2.count t).sum := rfl
    have cb := cb t
    by_cases q : old = t
    · rw [if_pos q] at cb
      have m : old ∈ S.ho.map (·.1) := by
        rw [q]
        refine h.mid.in_ ht ?_
        rw [occ_stands h.mid.tidy]
        exact .inr (.inr ⟨boxW b, .inl ⟨rfl, q ▸ eo⟩⟩)
      rw [show (if old = t ∧ old ∈ S1.ho.map (·.1) then (1 : Int) else 0) = 1 from if_pos ⟨q, (k1 old).mpr m⟩]
      by_cases y : w = t
      · simp only [if_pos y] at cb ⊢
        omega
      · simp only [if_neg y] at cb ⊢
        omega
    · rw [if_neg q] at cb
      rw [show (if old = t ∧ old ∈ S1.ho.map (·.1) then (1 : Int) else 0) = 0 from if_neg fun y => q y.1]
      by_cases y : w = t
      · simp only [if_pos y] at cb ⊢
        omega
      · simp only [if_neg y] at cb ⊢
        omega
  · rw [v]
    unfold Hs.filled
    rw [← e1, Hs.loose_keys, k1, h.mid.key]
    show (t.1 = "box" ∧ t.2 ∈ S.bx.map (·.1)) ∨ _ ↔ (t.1 = "box" ∧ t.2 ∈ (putA S.bx b w).map (·.1)) ∨ _
    rw [putA_keys, if_pos (mem_of_getA eo)]
  · unfold Hs.filled
    refine zero_loose ?_
    exact z1.1
  · rw [v]
    exact ⟨h.mid.tidy.plk, h.mid.tidy.ndw, putA_nodup h.mid.tidy.ndb, h.mid.tidy.ndp⟩
/-- a peg gets a worth -/
theorem Fine.pegOn {n : Str} (h : Fine S) (p : isT w = true → S.vw.has w) : Mid (S.pegOn n w) ∧ (S.pegOn n w).vw = { S.vw with pg := putA S.pg n w } := by
  obtain ⟨a1, b1, c1, d1, f1, g1⟩ := Hs.hold_f (S := S) (w := w)
  have z1 := zero_hold (S := S) (w := w) h.mid.zero h.mid.pos
  have k1 : ∀ t, t ∈ (S.hold w).ho.map (·.1) ↔ t ∈ S.ho.map (·.1) := fun t => by
    rw [keys_hold]
    exact ⟨fun q => q.elim id fun q => (h.mid.key t).mpr (q.2 ▸ p q.1), .inl⟩
  unfold Hs.pegOn
  cases e : getA S.pg n with
  | none =>
    have nn := getA_none.mp e
    simp only
    have v : ({ S.hold w with pg := putA S.pg n w } : Hs).vw = { S.vw with pg := putA S.pg n w } := by
      unfold Hs.vw
      simp only [a1, b1, c1, d1]
    refine ⟨⟨fun t ht => ?_, fun t => ?_, z1.1, ?_, hold_ndo h.mid.ndo⟩, v⟩
    · rw [occ_vw, v]
      show (S.hold w).cnt t = ((S.run.count t + (S.bx.map (·.2)).count t + ((putA S.pg n w).map (·.2)).count t + (S.wh.map fun e => e.2.count t).sum : Nat) : Int)
      rw [cnt_hold ht, h.mid.cnt t ht, count_putA_new nn]
      unfold Hs.occ
      split <;> omega
    · rw [v]
      exact (k1 t).trans (h.mid.key t)
    · rw [v]
      exact ⟨h.mid.tidy.plk, h.mid.tidy.ndw, h.mid.tidy.ndb, putA_nodup h.mid.tidy.ndp⟩
  | some old =>
    simp only
    have v : ({ (S.hold w).loose old with pg := putA S.pg n w } : Hs).vw = { S.vw with pg := putA S.pg n w } := by
      have := loose_vw (S := S.hold w) (w := old)
      rw [hold_vw] at this
      show ({ ((S.hold w).loose old).vw with pg := putA S.pg n w } : Vw) = _
      rw [this]
    refine ⟨⟨fun t ht => ?_, fun t => ?_, zero_loose z1.1, ?_, loose_ndo (hold_ndo h.mid.ndo)⟩, v⟩
    · rw [occ_vw, v]
      show ((S.hold w).loose old).cnt t = ((S.run.count t + (S.bx.map (·.2)).count t + ((putA S.pg n w).map (·.2)).count t + (S.wh.map fun e => e.2.count t).sum : Nat) : Int)
      rw [cnt_loose, cnt_hold ht, h.mid.cnt t ht]
      have cb := count_putA (m := S.pg) h.mid.tidy.ndp e w t
      have o : S.occ t = S.run.count t + (S.bx.map (·.2)).count t + (S.pg.map (·.2)).count t + (S.wh.map fun e => e.2.count t).sum := rfl
      by_cases q : old = t
      · rw [if_pos q] at cb
        have m : old ∈ S.ho.map (·.1) := by
          rw [q]
          refine h.mid.in_ ht ?_
          rw [occ_stands h.mid.tidy]
          exact .inr (.inl (List.mem_map.mpr ⟨_, getA_mem e, q⟩))
        rw [show (if old = t ∧ old ∈ (S.hold w).ho.map (·.1) then (1 : Int) else 0) = 1 from if_pos ⟨q, (k1 old).mpr m⟩]
        by_cases y : w = t
        · simp only [if_pos y] at cb ⊢
          omega
        · simp only [if_neg y] at cb ⊢
          omega
      · rw [if_neg q] at cb
        rw [show (if old = t ∧ old ∈ (S.hold w).ho.map (·.1) then (1 : Int) else 0) = 0 from if_neg fun y => q y.1]
        by_cases y : w = t
        · simp only [if_pos y] at cb ⊢
          omega
        · simp only [if_neg y] at cb ⊢
          omega
    · rw [v]
      show t ∈ ((S.hold w).loose old).ho.map (·.1) ↔ S.vw.has t
      rw [Hs.loose_keys, k1]
      exact h.mid.key t
    · rw [v]
      exact ⟨h.mid.tidy.plk, h.mid.tidy.ndw, h.mid.tidy.ndb, putA_nodup h.mid.tidy.ndp⟩
/-- a peg taken away -/
theorem Fine.pegOff {n : Str} (h : Fine S) (e : getA S.pg n = some w) : Mid (S.pegOff n w) ∧ (S.pegOff n w).vw = { S.vw with pg := dropA S.pg n } := by
  have v : (S.pegOff n w).vw = { S.vw with pg := dropA S.pg n } := by
    show ({ (S.loose w).vw with pg := dropA S.pg n } : Vw) = _
    rw [loose_vw]
  refine ⟨⟨fun t ht => ?_, fun t => ?_, zero_loose h.mid.zero, ?_, loose_ndo h.mid.ndo⟩, v⟩
  · rw [occ_vw, v]
    show (S.loose w).cnt t = ((S.run.count t + (S.bx.map (·.2)).count t + ((dropA S.pg n).map (·.2)).count t + (S.wh.map fun e => e.2.count t).sum : Nat) : Int)
    rw [cnt_loose, h.mid.cnt t ht]
    have cb := count_dropA (t := t) h.mid.tidy.ndp e
    have e2 : S.vw.pg = S.pg := rfl
    rw [e2] at cb
    have o : S.occ t = S.run.count t + (S.bx.map (·.2)).count t + (S.pg.map (·.2)).count t + (S.wh.map fun e => e.2.count t).sum := rfl
    by_cases q : w = t
    · rw [if_pos q] at cb
      rw [show (if w = t ∧ w ∈ S.ho.map (·.1) then (1 : Int) else 0) = 1 from if_pos ⟨q, by rw [q]; exact h.mid.in_ ht (by omega)⟩]
      omega
    · rw [if_neg q] at cb
      rw [show (if w = t ∧ w ∈ S.ho.map (·.1) then (1 : Int) else 0) = 0 from if_neg fun y => q y.1]
      omega
  · rw [v]
    show t ∈ (S.loose w).ho.map (·.1) ↔ S.vw.has t
    rw [Hs.loose_keys]
    exact h.mid.key t
  · rw [v]
    exact ⟨h.mid.tidy.plk, h.mid.tidy.ndw, h.mid.tidy.ndb, dropA_nodup h.mid.tidy.ndp⟩
end
end G
namespace G
open PySem L2
/-! ### houses of a size that lists can bear -/
structure Vw.Small (T : Vw) : Prop where
  run : T.run.length ≤ 20000
  th : T.bx.length + T.wh.length ≤ 9000
  row : ∀ e ∈ T.wh, e.2.length ≤ 20000
  sum : sumL T.wh ≤ 40000
  pg : T.pg.length ≤ 20000
theorem Fine.ho_len {S : Hs} (h : Fine S) : S.ho.length ≤ S.bx.length + S.wh.length := by
  have : (S.ho.map (·.1)).length ≤ ((S.bx.map fun e => boxW e.1) ++ (S.wh.map fun e => goW e.1)).length := by
    refine h.mid.ndo.length_le_of_subset fun t m => ?_
    rcases (h.mid.key t).mp m with ⟨e, q⟩ | ⟨e, q⟩
    · obtain ⟨x, mx, ex⟩ := List.mem_map.mp q
      exact List.mem_append_left _ (List.mem_map.mpr ⟨x, mx, Prod.ext e.symm ex⟩)
    · obtain ⟨x, mx, ex⟩ := List.mem_map.mp q
      exact List.mem_append_right _ (List.mem_map.mpr ⟨x, mx, Prod.ext e.symm ex⟩)
  simpa using this
theorem Fine.sm {S : Hs} (h : Fine S) (s : S.vw.Small) : S.ho.length ≤ 9000 ∧ S.run.length ≤ 20000 ∧ S.wa.length = 0 ∧ S.bx.length + S.wh.length ≤ 9000 ∧ sumL S.wh ≤ 40000 ∧ S.pg.length ≤ 20000 ∧ S.pl.length = S.wh.length := by
  have pl : S.pl.length = S.wh.length := by
    have := congrArg List.length (show S.pl.map (·.1) = S.wh.map (·.1) from h.mid.tidy.plk)
    simpa using this
  exact ⟨Nat.le_trans h.ho_len s.th, s.run, by rw [h.wa]; rfl, s.th, s.sum, s.pg, pl⟩
theorem many_of {S : Hs} {n : Nat} (v : S.bx.length + sumL S.wh ≤ 49001) (w : S.wa.length ≤ n) (l : n ≤ 40001) : S.many < 100000 := by
  unfold Hs.many
  omega
theorem wa_holds {S : Hs} {l : List Wo} : (S.holds l).wa = S.wa := Hs.holds_f.2.2.2.2.2
theorem row_of {T : Vw} {g : Int} {l : List Wo} (s : T.Small) (e : getA T.wh g = some l) : l.length ≤ 20000 := s.row _ (getA_mem e)
end G
namespace G
open PySem L2
theorem Fine.full {S : Hs} (h : Fine S) : ∀ t, S.vw.has t → S.vw.stands t := fun t ht => by
  have m := (h.mid.key t).mpr ht
  rw [← occ_stands h.mid.tidy]
  refine Nat.pos_of_ne_zero fun z => ?_
  have hc := h.mid.cnt t (Vw.has_isT ht)
  have := h.mid.zero t m (by omega)
  rw [h.wa] at this
  cases this
theorem Vw.stands_run {T : Vw} {l : List Wo} {t : Wo} (p : t ∈ T.run → t ∈ l) (h : T.stands t) : ({ T with run := l } : Vw).stands t := h.imp p id
theorem fine_none : Fine {} := ⟨⟨fun t _ => by rfl, fun t => ⟨fun m => (List.not_mem_nil m).elim, fun m => m.elim (fun z => (List.not_mem_nil z.2).elim) fun z => (List.not_mem_nil z.2).elim⟩, fun t m => (List.not_mem_nil m).elim, ⟨rfl, List.nodup_nil, List.nodup_nil, List.nodup_nil⟩, List.nodup_nil⟩, rfl⟩
/-- a worth lifted onto the pile again -/
theorem Fine.lifted {S : Hs} {us ts : List Wo} {w : Wo} (h : Fine S) (er : S.run = us ++ [w] ++ ts) : Mid ((S.out us w ts).lay w) ∧ ((S.out us w ts).lay w).vw = { S.vw with run := us ++ ts ++ [w] } := by
  obtain ⟨m, v⟩ := h.out er
  have rv : (S.out us w ts).run = us ++ ts := Hs.out_run
  have z := zero_hold (S := { S.out us w ts with run := (S.out us w ts).run ++ [w] }) (w := w) m.zero m.pos
  have v2 : ((S.out us w ts).lay w).vw = { S.vw with run := us ++ ts ++ [w] } := by
    unfold Hs.lay
    rw [hold_vw]
    show ({ (S.out us w ts).vw with run := (S.out us w ts).run ++ [w] } : Vw) = _
    rw [v, rv]
  refine ⟨⟨fun t ht => ?_, fun t => ?_, z.1, ?_, hold_ndo (S := { S.out us w ts with run := (S.out us w ts).run ++ [w] }) m.ndo⟩, v2⟩
  · have c := m.cnt t ht
    rw [occ_vw, v] at c
    rw [occ_vw, v2]
    unfold Hs.lay
    rw [cnt_hold ht]
    have c : (S.out us w ts).cnt t = (((us ++ ts).count t + (S.bx.map (·.2)).count t + (S.pg.map (·.2)).count t + (S.wh.map fun e => e.2.count t).sum : Nat) : Int) := c
    show (S.out us w ts).cnt t + _ = (((us ++ ts ++ [w]).count t + (S.bx.map (·.2)).count t + (S.pg.map (·.2)).count t + (S.wh.map fun e => e.2.count t).sum : Nat) : Int)
    rw [c, List.count_append (l₁ := us ++ ts), count1]
    split <;> omega
  · rw [v2]
    unfold Hs.lay
    rw [keys_hold]
    show t ∈ (S.out us w ts).ho.map (·.1) ∨ _ ↔ S.vw.has t
    rw [m.key, v]
    refine ⟨fun q => q.elim id fun q => (h.mid.key t).mp (h.mid.in_ (q.2 ▸ q.1) ?_), .inl⟩
    rw [occ_stands h.mid.tidy]
    exact .inl (by show t ∈ S.run; rw [er, q.2]; simp)
  · rw [v2]
    exact ⟨h.mid.tidy.plk, h.mid.tidy.ndw, h.mid.tidy.ndb, h.mid.tidy.ndp⟩
theorem out_waL {S : Hs} {us ts : List Wo} {w : Wo} : (S.out us w ts).wa.length ≤ S.wa.length + ts.length + 1 := by
  unfold Hs.out
  rw [wa_holds]
  have := Hs.looses_wa (S := ({ S with run := us ++ ts } : Hs)) (l := ts.reverse ++ [w])
  simp only [List.length_append, List.length_reverse, List.length_singleton] at this
  omega
end G

namespace G
open PySem L2
open Dat (At enc)
/-! ### what is held: things with addresses of their own, and facts -/
structure Rs where
  F : List Addr
  P : List Addr → Hp → Prop
  st : ∀ {ns ms : List Addr} {H H' : Hp}, P ns H → Fr ns H ms H' → (∀ a ∈ F, a ∈ ms) → (∀ a ∈ F, ∀ o, H a = some o → H' a = some o) → P ms H'
structure All (ns : List Addr) (H : Hp) (rs : List Rs) : Prop where
  lv : Live ns H
  at_ : ∀ r ∈ rs, r.P ns H
  sub : ∀ r ∈ rs, ∀ a ∈ r.F, a ∈ ns
  ap : rs.Pairwise fun r s => ∀ a ∈ r.F, a ∉ s.F
/-- what is done with the addresses F, which are F' from then on -/
structure Stp (ns : List Addr) (H : Hp) (F : List Addr) (ms : List Addr) (H' : Hp) (F' : List Addr) : Prop where
  fr : Fr ns H ms H'
  keep : ∀ a ∈ ns, a ∈ ms
  buts : Buts F H H'
  own : ∀ a ∈ F', a ∈ F ∨ H a = none
  sub : ∀ a ∈ F', a ∈ ms
section
variable {ns ms : List Addr} {H H' : Hp} {rs rs' : List Rs} {r r' : Rs} {p z : Addr}
theorem All.head (W : All ns H (r :: rs)) (s : Stp ns H r.F ms H' r'.F) (h : r'.P ms H') : All ms H' (r' :: rs) := by
  have ap := W.ap
  rw [List.pairwise_cons] at ap
  refine ⟨s.fr.live, fun q m => ?_, fun q m a ma => ?_, ?_⟩
  · rcases List.mem_cons.mp m with rfl | m
    · exact h
    · exact q.st (W.at_ q (List.mem_cons_of_mem _ m)) s.fr (fun a ma => s.keep a (W.sub q (List.mem_cons_of_mem _ m) a ma)) fun a ma o e => s.buts a o e fun z => ap.1 q m a z ma
  · rcases List.mem_cons.mp m with rfl | m
    · exact s.sub a ma
    · exact s.keep a (W.sub q (List.mem_cons_of_mem _ m) a ma)
  · rw [List.pairwise_cons]
    refine ⟨fun q m a ma ka => ?_, ap.2⟩
    rcases s.own a ma with k | k
    · exact ap.1 q m a k ka
    · obtain ⟨o, e, _⟩ := W.lv a (W.sub q (List.mem_cons_of_mem _ m) a ka)
      rw [k] at e
      cases e
theorem All.perm (W : All ns H rs) (p : rs.Perm rs') : All ns H rs' := by
  refine ⟨W.lv, fun q m => W.at_ q (p.mem_iff.mpr m), fun q m => W.sub q (p.mem_iff.mpr m), ?_⟩
  exact p.pairwise W.ap fun {x y} h a m k => h a k m
theorem All.tail (W : All ns H (r :: rs)) : All ns H rs :=
  ⟨W.lv, fun q m => W.at_ q (List.mem_cons_of_mem _ m), fun q m => W.sub q (List.mem_cons_of_mem _ m), (List.pairwise_cons.mp W.ap).2⟩
theorem All.fr (W : All ns H rs) (f : Fr ns H ms H') (k : ∀ a ∈ ns, a ∈ ms) (e : ∀ r ∈ rs, ∀ a ∈ r.F, ∀ o, H a = some o → H' a = some o) : All ms H' rs :=
  ⟨f.live, fun r m => r.st (W.at_ r m) f (fun a ma => k a (W.sub r m a ma)) (e r m), fun r m a ma => k a (W.sub r m a ma), W.ap⟩
theorem All.same (W : All ns H rs) (s : Same H H') : All ns H' rs := W.fr (.of W.lv s) (fun _ m => m) fun _ _ _ _ _ e => s _ _ e
/-- a new thing -/
theorem All.new (W : All ns H rs) (hz : H z = none) (s : Same H H') (f : Fr ns H (z :: ns) H') (hF : r.F = [z]) (h : r.P (z :: ns) H') : All (z :: ns) H' (r :: rs) := by
  have w := W.fr f (fun a m => List.mem_cons_of_mem _ m) fun _ _ _ _ _ e => s _ _ e
  refine ⟨w.lv, fun q m => (List.mem_cons.mp m).elim (fun e => e ▸ h) (w.at_ q), fun q m => (List.mem_cons.mp m).elim (fun e => ?_) (w.sub q), ?_⟩
  · subst e
    rw [hF]
    intro a m
    rw [List.mem_singleton] at m
    exact m ▸ List.mem_cons_self
  · rw [List.pairwise_cons]
    refine ⟨fun q m a ma ka => ?_, w.ap⟩
    rw [hF, List.mem_singleton] at ma
    subst ma
    obtain ⟨o, e, _⟩ := W.lv a (W.sub q m a ka)
    rw [hz] at e
    cases e
/-- a fact more -/
theorem All.fact (W : All ns H rs) (hF : r.F = []) (h : r.P ns H) : All ns H (r :: rs) := by
  refine ⟨W.lv, fun q m => (List.mem_cons.mp m).elim (fun e => e ▸ h) (W.at_ q), fun q m => (List.mem_cons.mp m).elim (fun e => ?_) (W.sub q), ?_⟩
  · subst e
    rw [hF]
    intro a m
    cases m
  · rw [List.pairwise_cons]
    refine ⟨fun q m a ma => ?_, W.ap⟩
    rw [hF] at ma
    cases ma
theorem Stp.but (l : Live ns H) (b : But p H H') (m : p ∈ ns) (t : Lv H' p) : Stp ns H [p] ns H' [p] :=
  ⟨b.fr l m t, fun _ m => m, b.buts (by simp), fun _ m => .inl m, fun a k => by rw [List.mem_singleton] at k; exact k ▸ m⟩
theorem Stp.put (f : Fr ns H ns H') (b : But p H H') (m : p ∈ ns) : Stp ns H [p] ns H' [p] :=
  ⟨f, fun _ m => m, b.buts (by simp), fun _ m => .inl m, fun a k => by rw [List.mem_singleton] at k; exact k ▸ m⟩
theorem Stp.trans {ks : List Addr} {H2 : Hp} {F F1 F2 : List Addr} (a : Stp ns H F ms H' F1) (b : Stp ms H' F1 ks H2 F2) : Stp ns H F ks H2 F2 :=
  have nn : ∀ x, H' x = none → H x = none := fun x e => a.fr.free a.keep e
  ⟨a.fr.trans b.fr, fun x m => b.keep x (a.keep x m), fun c o e n => b.buts c o (a.buts c o e n) fun m => (a.own c m).elim n fun z => (by rw [z] at e; cases e), fun x m => (b.own x m).elim (a.own x) fun e => .inr (nn x e), b.sub⟩
theorem Led.stp {C : Addr} {A A' : Ha} {S' : Hs} (l : Led C ns H A ms H' A' S') : Stp ns H A.all ms H' A'.all := ⟨l.fr, l.sub, l.buts, l.own, l.at_.sub⟩
end

section
variable {ns ms : List Addr} {H H' : Hp} {rs : List Rs} {r0 r1 r2 r3 r4 r5 r6 r7 r8 r9 r10 r11 r : Rs}
theorem All.g0 (W : All ns H (r0 :: rs)) : r0.P ns H := W.at_ _ List.mem_cons_self
theorem All.s0 (W : All ns H (r0 :: rs)) : ∀ a ∈ r0.F, a ∈ ns := W.sub _ List.mem_cons_self
theorem All.p1 (W : All ns H (r0 :: r1 :: rs)) : All ns H (r1 :: r0 :: rs) := W.perm (by
  have : ([r0] ++ r1 :: rs).Perm (r1 :: ([r0] ++ rs)) := List.perm_middle
  exact this)
theorem All.q1 (W : All ns H (r1 :: r0 :: rs)) : All ns H (r0 :: r1 :: rs) := W.perm (by
  have : (r1 :: ([r0] ++ rs)).Perm ([r0] ++ r1 :: rs) := List.perm_middle.symm
  exact this)
theorem All.g1 (W : All ns H (r0 :: r1 :: rs)) : r1.P ns H := W.p1.g0
theorem All.s1 (W : All ns H (r0 :: r1 :: rs)) : ∀ a ∈ r1.F, a ∈ ns := W.p1.s0
theorem All.p2 (W : All ns H (r0 :: r1 :: r2 :: rs)) : All ns H (r2 :: r0 :: r1 :: rs) := W.perm (by
  have : ([r0, r1] ++ r2 :: rs).Perm (r2 :: ([r0, r1] ++ rs)) := List.perm_middle
  exact this)
theorem All.q2 (W : All ns H (r2 :: r0 :: r1 :: rs)) : All ns H (r0 :: r1 :: r2 :: rs) := W.perm (by
  have : (r2 :: ([r0, r1] ++ rs)).Perm ([r0, r1] ++ r2 :: rs) := List.perm_middle.symm
  exact this)
theorem All.g2 (W : All ns H (r0 :: r1 :: r2 :: rs)) : r2.P ns H := W.p2.g0
theorem All.s2 (W : All ns H (r0 :: r1 :: r2 :: rs)) : ∀ a ∈ r2.F, a ∈ ns := W.p2.s0
theorem All.p3 (W : All ns H (r0 :: r1 :: r2 :: r3 :: rs)) : All ns H (r3 :: r0 :: r1 :: r2 :: rs) := W.perm (by
  have : ([r0, r1, r2] ++ r3 :: rs).Perm (r3 :: ([r0, r1, r2] ++ rs)) := List.perm_middle
  exact this)
theorem All.q3 (W : All ns H (r3 :: r0 :: r1 :: r2 :: rs)) : All ns H (r0 :: r1 :: r2 :: r3 :: rs) := W.perm (by
  have : (r3 :: ([r0, r1, r2] ++ rs)).Perm ([r0, r1, r2] ++ r3 :: rs) := List.perm_middle.symm
  exact this)
theorem All.g3 (W : All ns H (r0 :: r1 :: r2 :: r3 :: rs)) : r3.P ns H := W.p3.g0
theorem All.s3 (W : All ns H (r0 :: r1 :: r2 :: r3 :: rs)) : ∀ a ∈ r3.F, a ∈ ns := W.p3.s0
theorem All.p4 (W : All ns H (r0 :: r1 :: r2 :: r3 :: r4 :: rs)) : All ns H (r4 :: r0 :: r1 :: r2 :: r3 :: rs) := W.perm (by
  have : ([r0, r1, r2, r3] ++ r4 :: rs).Perm (r4 :: ([r0, r1, r2, r3] ++ rs)) := List.perm_middle
  exact this)
theorem All.q4 (W : All ns H (r4 :: r0 :: r1 :: r2 :: r3 :: rs)) : All ns H (r0 :: r1 :: r2 :: r3 :: r4 :: rs) := W.perm (by
  have : (r4 :: ([r0, r1, r2, r3] ++ rs)).Perm ([r0, r1, r2, r3] ++ r4 :: rs) := List.perm_middle.symm
  exact this)
theorem All.g4 (W : All ns H (r0 :: r1 :: r2 :: r3 :: r4 :: rs)) : r4.P ns H := W.p4.g0
theorem All.s4 (W : All ns H (r0 :: r1 :: r2 :: r3 :: r4 :: rs)) : ∀ a ∈ r4.F, a ∈ ns := W.p4.s0
theorem All.p5 (W : All ns H (r0 :: r1 :: r2 :: r3 :: r4 :: r5 :: rs)) : All ns H (r5 :: r0 :: r1 :: r2 :: r3 :: r4 :: rs) := W.perm (by
  have : ([r0, r1, r2, r3, r4] ++ r5 :: rs).Perm (r5 :: ([r0, r1, r2, r3, r4] ++ rs)) := List.perm_middle
  exact this)
theorem All.q5 (W : All ns H (r5 :: r0 :: r1 :: r2 :: r3 :: r4 :: rs)) : All ns H (r0 :: r1 :: r2 :: r3 :: r4 :: r5 :: rs) := W.perm (by
  have : (r5 :: ([r0, r1, r2, r3, r4] ++ rs)).Perm ([r0, r1, r2, r3, r4] ++ r5 :: rs) := List.perm_middle.symm
  exact this)
theorem All.g5 (W : All ns H (r0 :: r1 :: r2 :: r3 :: r4 :: r5 :: rs)) : r5.P ns H := W.p5.g0
theorem All.s5 (W : All ns H (r0 :: r1 :: r2 :: r3 :: r4 :: r5 :: rs)) : ∀ a ∈ r5.F, a ∈ ns := W.p5.s0
theorem All.p6 (W : All ns H (r0 :: r1 :: r2 :: r3 :: r4 :: r5 :: r6 :: rs)) : All ns H (r6 :: r0 :: r1 :: r2 :: r3 :: r4 :: r5 :: rs) := W.perm (by
  have : ([r0, r1, r2, r3, r4, r5] ++ r6 :: rs).Perm (r6 :: ([r0, r1, r2, r3, r4, r5] ++ rs)) := List.perm_middle
  exact this)
theorem All.q6 (W : All ns H (r6 :: r0 :: r1 :: r2 :: r3 :: r4 :: r5 :: rs)) : All ns H (r0 :: r1 :: r2 :: r3 :: r4 :: r5 :: r6 :: rs) := W.perm (by
  have : (r6 :: ([r0, r1, r2, r3, r4, r5] ++ rs)).Perm ([r0, r1, r2, r3, r4, r5] ++ r6 :: rs) := List.perm_middle.symm
  exact this)
theorem All.g6 (W : All ns H (r0 :: r1 :: r2 :: r3 :: r4 :: r5 :: r6 :: rs)) : r6.P ns H := W.p6.g0
theorem All.s6 (W : All ns H (r0 :: r1 :: r2 :: r3 :: r4 :: r5 :: r6 :: rs)) : ∀ a ∈ r6.F, a ∈ ns := W.p6.s0
theorem All.p7 (W : All ns H (r0 :: r1 :: r2 :: r3 :: r4 :: r5 :: r6 :: r7 :: rs)) : All ns H (r7 :: r0 :: r1 :: r2 :: r3 :: r4 :: r5 :: r6 :: rs) := W.perm (by
  have : ([r0, r1, r2, r3, r4, r5, r6] ++ r7 :: rs).Perm (r7 :: ([r0, r1, r2, r3, r4, r5, r6] ++ rs)) := List.perm_middle
  exact this)
theorem All.q7 (W : All ns H (r7 :: r0 :: r1 :: r2 :: r3 :: r4 :: r5 :: r6 :: rs)) : All ns H (r0 :: r1 :: r2 :: r3 :: r4 :: r5 :: r6 :: r7 :: rs) := W.perm (by
  have : (r7 :: ([r0, r1, r2, r3, r4, r5, r6] ++ rs)).Perm ([r0, r1, r2, r3, r4, r5, r6] ++ r7 :: rs) := List.perm_middle.symm
  exact this)
theorem All.g7 (W : All ns H (r0 :: r1 :: r2 :: r3 :: r4 :: r5 :: r6 :: r7 :: rs)) : r7.P ns H := W.p7.g0
theorem All.s7 (W : All ns H (r0 :: r1 :: r2 :: r3 :: r4 :: r5 :: r6 :: r7 :: rs)) : ∀ a ∈ r7.F, a ∈ ns := W.p7.s0
theorem All.p8 (W : All ns H (r0 :: r1 :: r2 :: r3 :: r4 :: r5 :: r6 :: r7 :: r8 :: rs)) : All ns H (r8 :: r0 :: r1 :: r2 :: r3 :: r4 :: r5 :: r6 :: r7 :: rs) := W.perm (by
  have : ([r0, r1, r2, r3, r4, r5, r6, r7] ++ r8 :: rs).Perm (r8 :: ([r0, r1, r2, r3, r4, r5, r6, r7] ++ rs)) := List.perm_middle
  exact this)
theorem All.q8 (W : All ns H (r8 :: r0 :: r1 :: r2 :: r3 :: r4 :: r5 :: r6 :: r7 :: rs)) : All ns H (r0 :: r1 :: r2 :: r3 :: r4 :: r5 :: r6 :: r7 :: r8 :: rs) := W.perm (by
  have : (r8 :: ([r0, r1, r2, r3, r4, r5, r6, r7] ++ rs)).Perm ([r0, r1, r2, r3, r4, r5, r6, r7] ++ r8 :: rs) := List.perm_middle.symm
  exact this)
theorem All.g8 (W : All ns H (r0 :: r1 :: r2 :: r3 :: r4 :: r5 :: r6 :: r7 :: r8 :: rs)) : r8.P ns H := W.p8.g0
theorem All.s8 (W : All ns H (r0 :: r1 :: r2 :: r3 :: r4 :: r5 :: r6 :: r7 :: r8 :: rs)) : ∀ a ∈ r8.F, a ∈ ns := W.p8.s0
theorem All.p9 (W : All ns H (r0 :: r1 :: r2 :: r3 :: r4 :: r5 :: r6 :: r7 :: r8 :: r9 :: rs)) : All ns H (r9 :: r0 :: r1 :: r2 :: r3 :: r4 :: r5 :: r6 :: r7 :: r8 :: rs) := W.perm (by
  have : ([r0, r1, r2, r3, r4, r5, r6, r7, r8] ++ r9 :: rs).Perm (r9 :: ([r0, r1, r2, r3, r4, r5, r6, r7, r8] ++ rs)) := List.perm_middle
  exact this)
theorem All.q9 (W : All ns H (r9 :: r0 :: r1 :: r2 :: r3 :: r4 :: r5 :: r6 :: r7 :: r8 :: rs)) : All ns H (r0 :: r1 :: r2 :: r3 :: r4 :: r5 :: r6 :: r7 :: r8 :: r9 :: rs) := W.perm (by
  have : (r9 :: ([r0, r1, r2, r3, r4, r5, r6, r7, r8] ++ rs)).Perm ([r0, r1, r2, r3, r4, r5, r6, r7, r8] ++ r9 :: rs) := List.perm_middle.symm
  exact this)
theorem All.g9 (W : All ns H (r0 :: r1 :: r2 :: r3 :: r4 :: r5 :: r6 :: r7 :: r8 :: r9 :: rs)) : r9.P ns H := W.p9.g0
theorem All.s9 (W : All ns H (r0 :: r1 :: r2 :: r3 :: r4 :: r5 :: r6 :: r7 :: r8 :: r9 :: rs)) : ∀ a ∈ r9.F, a ∈ ns := W.p9.s0
theorem All.p10 (W : All ns H (r0 :: r1 :: r2 :: r3 :: r4 :: r5 :: r6 :: r7 :: r8 :: r9 :: r10 :: rs)) : All ns H (r10 :: r0 :: r1 :: r2 :: r3 :: r4 :: r5 :: r6 :: r7 :: r8 :: r9 :: rs) := W.perm (by
  have : ([r0, r1, r2, r3, r4, r5, r6, r7, r8, r9] ++ r10 :: rs).Perm (r10 :: ([r0, r1, r2, r3, r4, r5, r6, r7, r8, r9] ++ rs)) := List.perm_middle
  exact this)
theorem All.q10 (W : All ns H (r10 :: r0 :: r1 :: r2 :: r3 :: r4 :: r5 :: r6 :: r7 :: r8 :: r9 :: rs)) : All ns H (r0 :: r1 :: r2 :: r3 :: r4 :: r5 :: r6 :: r7 :: r8 :: r9 :: r10 :: rs) := W.perm (by
  have : (r10 :: ([r0, r1, r2, r3, r4, r5, r6, r7, r8, r9] ++ rs)).Perm ([r0, r1, r2, r3, r4, r5, r6, r7, r8, r9] ++ r10 :: rs) := List.perm_middle.symm
  exact this)
theorem All.g10 (W : All ns H (r0 :: r1 :: r2 :: r3 :: r4 :: r5 :: r6 :: r7 :: r8 :: r9 :: r10 :: rs)) : r10.P ns H := W.p10.g0
theorem All.s10 (W : All ns H (r0 :: r1 :: r2 :: r3 :: r4 :: r5 :: r6 :: r7 :: r8 :: r9 :: r10 :: rs)) : ∀ a ∈ r10.F, a ∈ ns := W.p10.s0
theorem All.p11 (W : All ns H (r0 :: r1 :: r2 :: r3 :: r4 :: r5 :: r6 :: r7 :: r8 :: r9 :: r10 :: r11 :: rs)) : All ns H (r11 :: r0 :: r1 :: r2 :: r3 :: r4 :: r5 :: r6 :: r7 :: r8 :: r9 :: r10 :: rs) := W.perm (by
  have : ([r0, r1, r2, r3, r4, r5, r6, r7, r8, r9, r10] ++ r11 :: rs).Perm (r11 :: ([r0, r1, r2, r3, r4, r5, r6, r7, r8, r9, r10] ++ rs)) := List.perm_middle
  exact this)
theorem All.q11 (W : All ns H (r11 :: r0 :: r1 :: r2 :: r3 :: r4 :: r5 :: r6 :: r7 :: r8 :: r9 :: r10 :: rs)) : All ns H (r0 :: r1 :: r2 :: r3 :: r4 :: r5 :: r6 :: r7 :: r8 :: r9 :: r10 :: r11 :: rs) := W.perm (by
  have : (r11 :: ([r0, r1, r2, r3, r4, r5, r6, r7, r8, r9, r10] ++ rs)).Perm ([r0, r1, r2, r3, r4, r5, r6, r7, r8, r9, r10] ++ r11 :: rs) := List.perm_middle.symm
  exact this)
theorem All.g11 (W : All ns H (r0 :: r1 :: r2 :: r3 :: r4 :: r5 :: r6 :: r7 :: r8 :: r9 :: r10 :: r11 :: rs)) : r11.P ns H := W.p11.g0
theorem All.s11 (W : All ns H (r0 :: r1 :: r2 :: r3 :: r4 :: r5 :: r6 :: r7 :: r8 :: r9 :: r10 :: r11 :: rs)) : ∀ a ∈ r11.F, a ∈ ns := W.p11.s0
theorem All.u0 (W : All ns H (r0 :: rs)) (s : Stp ns H r0.F ms H' r.F) (h : r.P ms H') : All ms H' (r :: rs) := (W.head s h)
theorem All.u1 (W : All ns H (r0 :: r1 :: rs)) (s : Stp ns H r1.F ms H' r.F) (h : r.P ms H') : All ms H' (r0 :: r :: rs) := (W.p1.head s h).q1
theorem All.u2 (W : All ns H (r0 :: r1 :: r2 :: rs)) (s : Stp ns H r2.F ms H' r.F) (h : r.P ms H') : All ms H' (r0 :: r1 :: r :: rs) := (W.p2.head s h).q2
theorem All.u3 (W : All ns H (r0 :: r1 :: r2 :: r3 :: rs)) (s : Stp ns H r3.F ms H' r.F) (h : r.P ms H') : All ms H' (r0 :: r1 :: r2 :: r :: rs) := (W.p3.head s h).q3
theorem All.u4 (W : All ns H (r0 :: r1 :: r2 :: r3 :: r4 :: rs)) (s : Stp ns H r4.F ms H' r.F) (h : r.P ms H') : All ms H' (r0 :: r1 :: r2 :: r3 :: r :: rs) := (W.p4.head s h).q4
theorem All.u5 (W : All ns H (r0 :: r1 :: r2 :: r3 :: r4 :: r5 :: rs)) (s : Stp ns H r5.F ms H' r.F) (h : r.P ms H') : All ms H' (r0 :: r1 :: r2 :: r3 :: r4 :: r :: rs) := (W.p5.head s h).q5
theorem All.u6 (W : All ns H (r0 :: r1 :: r2 :: r3 :: r4 :: r5 :: r6 :: rs)) (s : Stp ns H r6.F ms H' r.F) (h : r.P ms H') : All ms H' (r0 :: r1 :: r2 :: r3 :: r4 :: r5 :: r :: rs) := (W.p6.head s h).q6
theorem All.u7 (W : All ns H (r0 :: r1 :: r2 :: r3 :: r4 :: r5 :: r6 :: r7 :: rs)) (s : Stp ns H r7.F ms H' r.F) (h : r.P ms H') : All ms H' (r0 :: r1 :: r2 :: r3 :: r4 :: r5 :: r6 :: r :: rs) := (W.p7.head s h).q7
theorem All.u8 (W : All ns H (r0 :: r1 :: r2 :: r3 :: r4 :: r5 :: r6 :: r7 :: r8 :: rs)) (s : Stp ns H r8.F ms H' r.F) (h : r.P ms H') : All ms H' (r0 :: r1 :: r2 :: r3 :: r4 :: r5 :: r6 :: r7 :: r :: rs) := (W.p8.head s h).q8
theorem All.u9 (W : All ns H (r0 :: r1 :: r2 :: r3 :: r4 :: r5 :: r6 :: r7 :: r8 :: r9 :: rs)) (s : Stp ns H r9.F ms H' r.F) (h : r.P ms H') : All ms H' (r0 :: r1 :: r2 :: r3 :: r4 :: r5 :: r6 :: r7 :: r8 :: r :: rs) := (W.p9.head s h).q9
theorem All.u10 (W : All ns H (r0 :: r1 :: r2 :: r3 :: r4 :: r5 :: r6 :: r7 :: r8 :: r9 :: r10 :: rs)) (s : Stp ns H r10.F ms H' r.F) (h : r.P ms H') : All ms H' (r0 :: r1 :: r2 :: r3 :: r4 :: r5 :: r6 :: r7 :: r8 :: r9 :: r :: rs) := (W.p10.head s h).q10
theorem All.u11 (W : All ns H (r0 :: r1 :: r2 :: r3 :: r4 :: r5 :: r6 :: r7 :: r8 :: r9 :: r10 :: r11 :: rs)) (s : Stp ns H r11.F ms H' r.F) (h : r.P ms H') : All ms H' (r0 :: r1 :: r2 :: r3 :: r4 :: r5 :: r6 :: r7 :: r8 :: r9 :: r10 :: r :: rs) := (W.p11.head s h).q11
end
/-! the kinds of what is held -/
def bagR (p : Addr) (n : Nat) : Rs := ⟨[p], fun _ H => BagAt H p n, fun ⟨a, b, c, e, h⟩ _ _ s => ⟨a, b, c, s p (by simp) _ e, h⟩⟩
def lstR {α : Type} [Dat α] (p : Addr) (l : List α) : Rs := ⟨[p], fun ns H => Own ns H p l, fun h f _ s => h.fr f (s p (by simp))⟩
def dctR {κ α : Type} [Dat κ] [DecidableEq κ] [DKey κ] [Dat α] (p : Addr) (l : List (κ × α)) : Rs := ⟨[p], fun ns H => Dc ns H p l, fun h f _ s => h.fr f (s p (by simp))⟩
def datR {α : Type} [Dat α] (v : V) (a : α) : Rs := ⟨[], fun ns H => At (del ns H) v a, fun h f _ _ => f.at_ h⟩
def seqR (K : PySem.W.Frag) (a : Addr) (xs : List V) : Rs := ⟨[], fun ns H => SqL K (del ns H) a xs, fun h f _ _ => f.same.seq h⟩
/-- that the heap was another one, of which all that is not in N still stands -/
def fromR (H0 : Hp) : Rs := ⟨[], fun ns H => Same H0 (del ns H), fun h f _ _ => h.trans f.same⟩
def rawR (p : Addr) (o : HO) : Rs := ⟨[p], fun _ H => H p = some o, fun h _ _ s => s p (by simp) _ h⟩
def houR (C h : Addr) (F : List Addr) (T : Vw) : Rs := ⟨F, fun ns H => ∃ A S, HouseAt C ns H A S ∧ Fine S ∧ S.vw = T ∧ h = A.h ∧ F = A.all, fun ⟨A, S, hh, fi, v, e, eF⟩ f m s => ⟨A, S, hh.fr f (fun a q => m a (eF ▸ q)) (fun a q => s a (eF ▸ q)), fi, v, e, eF⟩⟩
section
variable {ns : List Addr} {H H' : Hp} {rs : List Rs} {p : Addr}
theorem All.newL {α : Type} [Dat α] {z : Addr} {l : List α} (W : All ns H rs) (hz : H z = none) (s : Same H H') (f : Fr ns H (z :: ns) H') (h : Own (z :: ns) H' z l) : All (z :: ns) H' (lstR z l :: rs) := W.new hz s f rfl h
/-- plain data from now on a list that may change -/
theorem All.open_ {α : Type} [Dat α] [Imm α] {z : Addr} {l : List α} (W : All ns H rs) (hz : H z = none) (s : Same H H') (h : At (del ns H') (.ref z) l) : All (z :: ns) H' (lstR z l :: rs) :=
  have f : Fr ns H (z :: ns) H' := .more W.lv hz s (at_lv h)
  W.newL hz s f (.of_at f.live h)

theorem All.bag0 {n m : Nat} (W : All ns H (bagR p n :: rs)) (b : But p H H') (B : BagAt H' p m) : All ns H' (bagR p m :: rs) := W.u0 (.but W.lv b (W.s0 p (by simp [bagR])) B.lv) B
theorem All.bag1 {r0 : Rs} {n m : Nat} (W : All ns H (r0 :: bagR p n :: rs)) (b : But p H H') (B : BagAt H' p m) : All ns H' (r0 :: bagR p m :: rs) := W.u1 (.but W.lv b (W.s1 p (by simp [bagR])) B.lv) B
theorem All.bag2 {r0 r1 : Rs} {n m : Nat} (W : All ns H (r0 :: r1 :: bagR p n :: rs)) (b : But p H H') (B : BagAt H' p m) : All ns H' (r0 :: r1 :: bagR p m :: rs) := W.u2 (.but W.lv b (W.s2 p (by simp [bagR])) B.lv) B
theorem All.bag3 {r0 r1 r2 : Rs} {n m : Nat} (W : All ns H (r0 :: r1 :: r2 :: bagR p n :: rs)) (b : But p H H') (B : BagAt H' p m) : All ns H' (r0 :: r1 :: r2 :: bagR p m :: rs) := W.u3 (.but W.lv b (W.s3 p (by simp [bagR])) B.lv) B
theorem All.bag4 {r0 r1 r2 r3 : Rs} {n m : Nat} (W : All ns H (r0 :: r1 :: r2 :: r3 :: bagR p n :: rs)) (b : But p H H') (B : BagAt H' p m) : All ns H' (r0 :: r1 :: r2 :: r3 :: bagR p m :: rs) := W.u4 (.but W.lv b (W.s4 p (by simp [bagR])) B.lv) B
theorem All.bag5 {r0 r1 r2 r3 r4 : Rs} {n m : Nat} (W : All ns H (r0 :: r1 :: r2 :: r3 :: r4 :: bagR p n :: rs)) (b : But p H H') (B : BagAt H' p m) : All ns H' (r0 :: r1 :: r2 :: r3 :: r4 :: bagR p m :: rs) := W.u5 (.but W.lv b (W.s5 p (by simp [bagR])) B.lv) B
theorem All.lst0  {α : Type} [Dat α] {l m : List α} (W : All ns H (lstR p l :: rs)) (f : Fr ns H ns H') (b : But p H H') (o : Own ns H' p m) : All ns H' (lstR p m :: rs) := W.u0 (.put f b (W.s0 p (by simp [lstR]))) o
theorem All.dct0  {κ α : Type} [Dat κ] [DecidableEq κ] [DKey κ] [Dat α] {l m : List (κ × α)} (W : All ns H (dctR p l :: rs)) (f : Fr ns H ns H') (b : But p H H') (o : Dc ns H' p m) : All ns H' (dctR p m :: rs) := W.u0 (.put f b (W.s0 p (by simp [dctR]))) o
theorem All.lst1 {r0 : Rs} {α : Type} [Dat α] {l m : List α} (W : All ns H (r0 :: lstR p l :: rs)) (f : Fr ns H ns H') (b : But p H H') (o : Own ns H' p m) : All ns H' (r0 :: lstR p m :: rs) := W.u1 (.put f b (W.s1 p (by simp [lstR]))) o
theorem All.dct1 {r0 : Rs} {κ α : Type} [Dat κ] [DecidableEq κ] [DKey κ] [Dat α] {l m : List (κ × α)} (W : All ns H (r0 :: dctR p l :: rs)) (f : Fr ns H ns H') (b : But p H H') (o : Dc ns H' p m) : All ns H' (r0 :: dctR p m :: rs) := W.u1 (.put f b (W.s1 p (by simp [dctR]))) o
theorem All.lst2 {r0 r1 : Rs} {α : Type} [Dat α] {l m : List α} (W : All ns H (r0 :: r1 :: lstR p l :: rs)) (f : Fr ns H ns H') (b : But p H H') (o : Own ns H' p m) : All ns H' (r0 :: r1 :: lstR p m :: rs) := W.u2 (.put f b (W.s2 p (by simp [lstR]))) o
theorem All.dct2 {r0 r1 : Rs} {κ α : Type} [Dat κ] [DecidableEq κ] [DKey κ] [Dat α] {l m : List (κ × α)} (W : All ns H (r0 :: r1 :: dctR p l :: rs)) (f : Fr ns H ns H') (b : But p H H') (o : Dc ns H' p m) : All ns H' (r0 :: r1 :: dctR p m :: rs) := W.u2 (.put f b (W.s2 p (by simp [dctR]))) o
theorem All.lst3 {r0 r1 r2 : Rs} {α : Type} [Dat α] {l m : List α} (W : All ns H (r0 :: r1 :: r2 :: lstR p l :: rs)) (f : Fr ns H ns H') (b : But p H H') (o : Own ns H' p m) : All ns H' (r0 :: r1 :: r2 :: lstR p m :: rs) := W.u3 (.put f b (W.s3 p (by simp [lstR]))) o
theorem All.dct3 {r0 r1 r2 : Rs} {κ α : Type} [Dat κ] [DecidableEq κ] [DKey κ] [Dat α] {l m : List (κ × α)} (W : All ns H (r0 :: r1 :: r2 :: dctR p l :: rs)) (f : Fr ns H ns H') (b : But p H H') (o : Dc ns H' p m) : All ns H' (r0 :: r1 :: r2 :: dctR p m :: rs) := W.u3 (.put f b (W.s3 p (by simp [dctR]))) o
theorem All.lst4 {r0 r1 r2 r3 : Rs} {α : Type} [Dat α] {l m : List α} (W : All ns H (r0 :: r1 :: r2 :: r3 :: lstR p l :: rs)) (f : Fr ns H ns H') (b : But p H H') (o : Own ns H' p m) : All ns H' (r0 :: r1 :: r2 :: r3 :: lstR p m :: rs) := W.u4 (.put f b (W.s4 p (by simp [lstR]))) o
theorem All.dct4 {r0 r1 r2 r3 : Rs} {κ α : Type} [Dat κ] [DecidableEq κ] [DKey κ] [Dat α] {l m : List (κ × α)} (W : All ns H (r0 :: r1 :: r2 :: r3 :: dctR p l :: rs)) (f : Fr ns H ns H') (b : But p H H') (o : Dc ns H' p m) : All ns H' (r0 :: r1 :: r2 :: r3 :: dctR p m :: rs) := W.u4 (.put f b (W.s4 p (by simp [dctR]))) o
theorem All.lst5 {r0 r1 r2 r3 r4 : Rs} {α : Type} [Dat α] {l m : List α} (W : All ns H (r0 :: r1 :: r2 :: r3 :: r4 :: lstR p l :: rs)) (f : Fr ns H ns H') (b : But p H H') (o : Own ns H' p m) : All ns H' (r0 :: r1 :: r2 :: r3 :: r4 :: lstR p m :: rs) := W.u5 (.put f b (W.s5 p (by simp [lstR]))) o
theorem All.dct5 {r0 r1 r2 r3 r4 : Rs} {κ α : Type} [Dat κ] [DecidableEq κ] [DKey κ] [Dat α] {l m : List (κ × α)} (W : All ns H (r0 :: r1 :: r2 :: r3 :: r4 :: dctR p l :: rs)) (f : Fr ns H ns H') (b : But p H H') (o : Dc ns H' p m) : All ns H' (r0 :: r1 :: r2 :: r3 :: r4 :: dctR p m :: rs) := W.u5 (.put f b (W.s5 p (by simp [dctR]))) o
theorem All.lst6 {r0 r1 r2 r3 r4 r5 : Rs} {α : Type} [Dat α] {l m : List α} (W : All ns H (r0 :: r1 :: r2 :: r3 :: r4 :: r5 :: lstR p l :: rs)) (f : Fr ns H ns H') (b : But p H H') (o : Own ns H' p m) : All ns H' (r0 :: r1 :: r2 :: r3 :: r4 :: r5 :: lstR p m :: rs) := W.u6 (.put f b (W.s6 p (by simp [lstR]))) o
theorem All.dct6 {r0 r1 r2 r3 r4 r5 : Rs} {κ α : Type} [Dat κ] [DecidableEq κ] [DKey κ] [Dat α] {l m : List (κ × α)} (W : All ns H (r0 :: r1 :: r2 :: r3 :: r4 :: r5 :: dctR p l :: rs)) (f : Fr ns H ns H') (b : But p H H') (o : Dc ns H' p m) : All ns H' (r0 :: r1 :: r2 :: r3 :: r4 :: r5 :: dctR p m :: rs) := W.u6 (.put f b (W.s6 p (by simp [dctR]))) o
theorem All.lst7 {r0 r1 r2 r3 r4 r5 r6 : Rs} {α : Type} [Dat α] {l m : List α} (W : All ns H (r0 :: r1 :: r2 :: r3 :: r4 :: r5 :: r6 :: lstR p l :: rs)) (f : Fr ns H ns H') (b : But p H H') (o : Own ns H' p m) : All ns H' (r0 :: r1 :: r2 :: r3 :: r4 :: r5 :: r6 :: lstR p m :: rs) := W.u7 (.put f b (W.s7 p (by simp [lstR]))) o
theorem All.dct7 {r0 r1 r2 r3 r4 r5 r6 : Rs} {κ α : Type} [Dat κ] [DecidableEq κ] [DKey κ] [Dat α] {l m : List (κ × α)} (W : All ns H (r0 :: r1 :: r2 :: r3 :: r4 :: r5 :: r6 :: dctR p l :: rs)) (f : Fr ns H ns H') (b : But p H H') (o : Dc ns H' p m) : All ns H' (r0 :: r1 :: r2 :: r3 :: r4 :: r5 :: r6 :: dctR p m :: rs) := W.u7 (.put f b (W.s7 p (by simp [dctR]))) o
theorem All.raw0  {o u : HO} (W : All ns H (rawR p o :: rs)) (n : ∀ xs, u ≠ .tup xs) : All ns (upd H p u) (rawR p u :: rs) := W.u0 (.put (.put W.lv (W.s0 p (by simp [rawR])) n) But.upd (W.s0 p (by simp [rawR]))) upd_same
theorem All.raw1 {r0 : Rs} {o u : HO} (W : All ns H (r0 :: rawR p o :: rs)) (n : ∀ xs, u ≠ .tup xs) : All ns (upd H p u) (r0 :: rawR p u :: rs) := W.u1 (.put (.put W.lv (W.s1 p (by simp [rawR])) n) But.upd (W.s1 p (by simp [rawR]))) upd_same
theorem All.raw2 {r0 r1 : Rs} {o u : HO} (W : All ns H (r0 :: r1 :: rawR p o :: rs)) (n : ∀ xs, u ≠ .tup xs) : All ns (upd H p u) (r0 :: r1 :: rawR p u :: rs) := W.u2 (.put (.put W.lv (W.s2 p (by simp [rawR])) n) But.upd (W.s2 p (by simp [rawR]))) upd_same
theorem All.raw3 {r0 r1 r2 : Rs} {o u : HO} (W : All ns H (r0 :: r1 :: r2 :: rawR p o :: rs)) (n : ∀ xs, u ≠ .tup xs) : All ns (upd H p u) (r0 :: r1 :: r2 :: rawR p u :: rs) := W.u3 (.put (.put W.lv (W.s3 p (by simp [rawR])) n) But.upd (W.s3 p (by simp [rawR]))) upd_same
theorem All.raw4 {r0 r1 r2 r3 : Rs} {o u : HO} (W : All ns H (r0 :: r1 :: r2 :: r3 :: rawR p o :: rs)) (n : ∀ xs, u ≠ .tup xs) : All ns (upd H p u) (r0 :: r1 :: r2 :: r3 :: rawR p u :: rs) := W.u4 (.put (.put W.lv (W.s4 p (by simp [rawR])) n) But.upd (W.s4 p (by simp [rawR]))) upd_same
theorem All.raw5 {r0 r1 r2 r3 r4 : Rs} {o u : HO} (W : All ns H (r0 :: r1 :: r2 :: r3 :: r4 :: rawR p o :: rs)) (n : ∀ xs, u ≠ .tup xs) : All ns (upd H p u) (r0 :: r1 :: r2 :: r3 :: r4 :: rawR p u :: rs) := W.u5 (.put (.put W.lv (W.s5 p (by simp [rawR])) n) But.upd (W.s5 p (by simp [rawR]))) upd_same
theorem All.raw6 {r0 r1 r2 r3 r4 r5 : Rs} {o u : HO} (W : All ns H (r0 :: r1 :: r2 :: r3 :: r4 :: r5 :: rawR p o :: rs)) (n : ∀ xs, u ≠ .tup xs) : All ns (upd H p u) (r0 :: r1 :: r2 :: r3 :: r4 :: r5 :: rawR p u :: rs) := W.u6 (.put (.put W.lv (W.s6 p (by simp [rawR])) n) But.upd (W.s6 p (by simp [rawR]))) upd_same
theorem All.raw7 {r0 r1 r2 r3 r4 r5 r6 : Rs} {o u : HO} (W : All ns H (r0 :: r1 :: r2 :: r3 :: r4 :: r5 :: r6 :: rawR p o :: rs)) (n : ∀ xs, u ≠ .tup xs) : All ns (upd H p u) (r0 :: r1 :: r2 :: r3 :: r4 :: r5 :: r6 :: rawR p u :: rs) := W.u7 (.put (.put W.lv (W.s7 p (by simp [rawR])) n) But.upd (W.s7 p (by simp [rawR]))) upd_same
theorem All.ml0  {α : Type} [Dat α] {l : List α} (W : All ns H (lstR p l :: rs)) : p ∈ ns := W.s0 p (by simp [lstR])
theorem All.md0  {κ α : Type} [Dat κ] [DecidableEq κ] [DKey κ] [Dat α] {l : List (κ × α)} (W : All ns H (dctR p l :: rs)) : p ∈ ns := W.s0 p (by simp [dctR])
theorem All.mb0  {l : Nat} (W : All ns H (bagR p l :: rs)) : p ∈ ns := W.s0 p (by simp [bagR])
theorem All.ml1 {r0 : Rs} {α : Type} [Dat α] {l : List α} (W : All ns H (r0 :: lstR p l :: rs)) : p ∈ ns := W.s1 p (by simp [lstR])
theorem All.md1 {r0 : Rs} {κ α : Type} [Dat κ] [DecidableEq κ] [DKey κ] [Dat α] {l : List (κ × α)} (W : All ns H (r0 :: dctR p l :: rs)) : p ∈ ns := W.s1 p (by simp [dctR])
theorem All.mb1 {r0 : Rs} {l : Nat} (W : All ns H (r0 :: bagR p l :: rs)) : p ∈ ns := W.s1 p (by simp [bagR])
theorem All.ml2 {r0 r1 : Rs} {α : Type} [Dat α] {l : List α} (W : All ns H (r0 :: r1 :: lstR p l :: rs)) : p ∈ ns := W.s2 p (by simp [lstR])
theorem All.md2 {r0 r1 : Rs} {κ α : Type} [Dat κ] [DecidableEq κ] [DKey κ] [Dat α] {l : List (κ × α)} (W : All ns H (r0 :: r1 :: dctR p l :: rs)) : p ∈ ns := W.s2 p (by simp [dctR])
theorem All.mb2 {r0 r1 : Rs} {l : Nat} (W : All ns H (r0 :: r1 :: bagR p l :: rs)) : p ∈ ns := W.s2 p (by simp [bagR])
theorem All.ml3 {r0 r1 r2 : Rs} {α : Type} [Dat α] {l : List α} (W : All ns H (r0 :: r1 :: r2 :: lstR p l :: rs)) : p ∈ ns := W.s3 p (by simp [lstR])
theorem All.md3 {r0 r1 r2 : Rs} {κ α : Type} [Dat κ] [DecidableEq κ] [DKey κ] [Dat α] {l : List (κ × α)} (W : All ns H (r0 :: r1 :: r2 :: dctR p l :: rs)) : p ∈ ns := W.s3 p (by simp [dctR])
theorem All.mb3 {r0 r1 r2 : Rs} {l : Nat} (W : All ns H (r0 :: r1 :: r2 :: bagR p l :: rs)) : p ∈ ns := W.s3 p (by simp [bagR])
theorem All.ml4 {r0 r1 r2 r3 : Rs} {α : Type} [Dat α] {l : List α} (W : All ns H (r0 :: r1 :: r2 :: r3 :: lstR p l :: rs)) : p ∈ ns := W.s4 p (by simp [lstR])
theorem All.md4 {r0 r1 r2 r3 : Rs} {κ α : Type} [Dat κ] [DecidableEq κ] [DKey κ] [Dat α] {l : List (κ × α)} (W : All ns H (r0 :: r1 :: r2 :: r3 :: dctR p l :: rs)) : p ∈ ns := W.s4 p (by simp [dctR])
theorem All.mb4 {r0 r1 r2 r3 : Rs} {l : Nat} (W : All ns H (r0 :: r1 :: r2 :: r3 :: bagR p l :: rs)) : p ∈ ns := W.s4 p (by simp [bagR])
theorem All.ml5 {r0 r1 r2 r3 r4 : Rs} {α : Type} [Dat α] {l : List α} (W : All ns H (r0 :: r1 :: r2 :: r3 :: r4 :: lstR p l :: rs)) : p ∈ ns := W.s5 p (by simp [lstR])
theorem All.md5 {r0 r1 r2 r3 r4 : Rs} {κ α : Type} [Dat κ] [DecidableEq κ] [DKey κ] [Dat α] {l : List (κ × α)} (W : All ns H (r0 :: r1 :: r2 :: r3 :: r4 :: dctR p l :: rs)) : p ∈ ns := W.s5 p (by simp [dctR])
theorem All.mb5 {r0 r1 r2 r3 r4 : Rs} {l : Nat} (W : All ns H (r0 :: r1 :: r2 :: r3 :: r4 :: bagR p l :: rs)) : p ∈ ns := W.s5 p (by simp [bagR])
theorem All.ml6 {r0 r1 r2 r3 r4 r5 : Rs} {α : Type} [Dat α] {l : List α} (W : All ns H (r0 :: r1 :: r2 :: r3 :: r4 :: r5 :: lstR p l :: rs)) : p ∈ ns := W.s6 p (by simp [lstR])
theorem All.md6 {r0 r1 r2 r3 r4 r5 : Rs} {κ α : Type} [Dat κ] [DecidableEq κ] [DKey κ] [Dat α] {l : List (κ × α)} (W : All ns H (r0 :: r1 :: r2 :: r3 :: r4 :: r5 :: dctR p l :: rs)) : p ∈ ns := W.s6 p (by simp [dctR])
theorem All.mb6 {r0 r1 r2 r3 r4 r5 : Rs} {l : Nat} (W : All ns H (r0 :: r1 :: r2 :: r3 :: r4 :: r5 :: bagR p l :: rs)) : p ∈ ns := W.s6 p (by simp [bagR])
theorem All.ml7 {r0 r1 r2 r3 r4 r5 r6 : Rs} {α : Type} [Dat α] {l : List α} (W : All ns H (r0 :: r1 :: r2 :: r3 :: r4 :: r5 :: r6 :: lstR p l :: rs)) : p ∈ ns := W.s7 p (by simp [lstR])
theorem All.md7 {r0 r1 r2 r3 r4 r5 r6 : Rs} {κ α : Type} [Dat κ] [DecidableEq κ] [DKey κ] [Dat α] {l : List (κ × α)} (W : All ns H (r0 :: r1 :: r2 :: r3 :: r4 :: r5 :: r6 :: dctR p l :: rs)) : p ∈ ns := W.s7 p (by simp [dctR])
theorem All.mb7 {r0 r1 r2 r3 r4 r5 r6 : Rs} {l : Nat} (W : All ns H (r0 :: r1 :: r2 :: r3 :: r4 :: r5 :: r6 :: bagR p l :: rs)) : p ∈ ns := W.s7 p (by simp [bagR])
end
end G

namespace G
open PySem PySem.Spec PyProof.Rows L2
open Dat (At)
/-! ### dicts whose keys are (number, worth) -/
abbrev Nk := Int × Wo
def nkey (k : Nk) : NestedKey := .tup [.num k.1, .tup [.text k.2.1, .num k.2.2]]
theorem nkey_inj {k j : Nk} (h : nkey k = nkey j) : k = j := by
  obtain ⟨a, b, c⟩ := k
  obtain ⟨a', b', c'⟩ := j
  unfold nkey at h
  injection h with h
  injection h with h1 h
  injection h with h2 h
  injection h1 with h1
  injection h2 with h2
  injection h2 with h2 h3
  injection h3 with h3 h4
  injection h2 with h2
  injection h3 with h3
  subst h1 h2 h3
  rfl
theorem nkey_is {P : Program} {w : World} {H : Hp} {h : Heap} {b : Addr} {k : Nk} (ok : HOk P w H h) (g : At H (.ref b) k) : (nestedKind P w).is h (nkey k) b := by
  obtain ⟨t, x, y, e, et, ax, ay⟩ := g
  cases e
  obtain ⟨u, rfl, eu, _⟩ := at_wo.mp ay
  obtain rfl : x = .int k.1 := ax
  obtain ⟨_, its, r, o, h1, h2, n, h3⟩ := (show ObjOk P w H h b (.tup [.int k.1, .ref u]) from ok b _ et)
  obtain ⟨_, its2, r2, o2, k1, k2, n2, k3⟩ := (show ObjOk P w H h u (.tup [.str k.2.1, .int k.2.2]) from ok u _ eu)
  refine ⟨?_, Nat.le_of_ble_eq_true rfl⟩
  refine .tup h1 h2 h3 ?_
  cases r with
  | cons ra r =>
    cases r with
    | cons rb r =>
      cases r
      obtain ⟨t1, rfl⟩ := ra
      obtain rfl : _ = Value.ref u := rb
      refine .cons (.int _ _) (.cons (.tup k1 k2 k3 ?_) .nil)
      cases r2 with
      | cons rc r2 =>
        cases r2 with
        | cons rd r2 =>
          cases r2
          obtain ⟨t2, rfl⟩ := rc
          obtain ⟨t3, rfl⟩ := rd
          exact .cons (.text _ _) (.cons (.int _ _) .nil)
abbrev NE (H : Hp) : List (Nk × V) → List (NestedKey × Addr × Value) → Prop := Paired fun p q => nkey p.1 = q.1 ∧ At H (.ref q.2.1) p.1 ∧ RelV p.2 q.2.2
theorem NE.val {H : Hp} {kvs : List (Nk × V)} {xs : List (NestedKey × Addr × Value)} (r : NE H kvs xs) (k : Nk) : RelO (valV kvs k) ((atKey xs (nkey k)).map (·.2)) := by
  induction r with
  | nil => exact True.intro
  | @cons p q ps qs h t ih =>
    obtain ⟨h1, _, h2⟩ := h
    by_cases e : p.1 = k
    · have e' : q.1 = nkey k := by rw [← h1, e]
      have b : atKey (q :: qs) (nkey k) = some q.2 := by simp [atKey, List.find?_cons, e']
      rw [valV_pos e, b]; exact h2
    · have e' : ¬ q.1 = nkey k := fun z => e (nkey_inj (h1.trans z))
      have b : atKey (q :: qs) (nkey k) = atKey qs (nkey k) := by simp [atKey, List.find?_cons, e']
      rw [valV_neg e, b]; exact ih
theorem NE.repl {H : Hp} {kvs : List (Nk × V)} {xs : List (NestedKey × Addr × Value)} (r : NE H kvs xs) (k : Nk) {y : V} {u : Value} (ry : RelV y u) :
    NE H (kvs.map fun kv => if kv.1 = k then (kv.1, y) else kv) (xs.map (putAt (nkey k) u)) := by
  induction r with
  | nil => exact .nil
  | @cons p q ps qs h t ih =>
    rw [List.map_cons, List.map_cons]
    refine .cons ?_ ih
    obtain ⟨h1, h2, h3⟩ := h
    unfold putAt
    by_cases e : p.1 = k
    · rw [if_pos e, if_pos (by rw [← h1, e])]; exact ⟨h1, h2, ry⟩
    · rw [if_neg e, if_neg (fun z => e (nkey_inj (h1.trans z)))]; exact ⟨h1, h2, h3⟩
theorem NE.put {H : Hp} {kvs : List (Nk × V)} {xs : List (NestedKey × Addr × Value)} (r : NE H kvs xs) (k : Nk) {b : Addr} {y : V} {u : Value} (hb : At H (.ref b) k) (ry : RelV y u) :
    NE H (putK kvs k y) (storedH xs (nkey k) b u) := by
  have e : (kvs.any fun kv => decide (kv.1 = k)) = (atKey xs (nkey k)).isSome := by
    rw [valV_any, (r.val k).isSome_eq, Option.isSome_map]
  unfold putK storedH
  rw [e]
  by_cases q : (atKey xs (nkey k)).isSome = true
  · rw [if_pos q, if_pos q]; exact r.repl k ry
  · rw [if_neg q, if_neg q]; exact Paired.snoc r ⟨rfl, hb, ry⟩
theorem nk_keep {H H' : Hp} {v : V} {k : Nk} (ht : ∀ b xs, H b = some (.tup xs) → H' b = some (.tup xs)) (g : At H v k) : At H' v k := by
  obtain ⟨t, x, y, e, et, ax, ay⟩ := g
  obtain ⟨u, e2, eu, ok⟩ := at_wo.mp ay
  exact ⟨t, x, y, e, ht _ _ et, ax, at_wo.mpr ⟨u, e2, ht _ _ eu, ok⟩⟩
theorem NE.keeps {H H' : Hp} {kvs : List (Nk × V)} {xs : List (NestedKey × Addr × Value)} (r : NE H kvs xs) (ht : ∀ b xs, H b = some (.tup xs) → H' b = some (.tup xs)) : NE H' kvs xs :=
  Paired.mapP r fun _ _ z => ⟨z.1, nk_keep ht z.2.1, z.2.2⟩
/-- at d stands such a dict -/
def ND (P : Program) (w : World) (H : Hp) (d : Addr) (l : List (Nk × V)) : Prop := ∃ (o : Obj) (es : Array DictEntry) (ep : _) (xs : List (NestedKey × Addr × Value)),
  H d = some (.ext fun h => h.get? d = some o) ∧ (d == sysModules) = false ∧ l.length ≤ sizeLine ∧ o.ExactDict ∧ o.data = .dict es ep ∧ es.toList = xs.map (entryOfKey (nestedKind P w)) ∧ (xs.map (·.1)).Nodup ∧ NE H l xs
theorem nd_of {P : Program} {w : World} {H : Hp} {h : Heap} {d : Addr} {l : List (Nk × V)} (ok : HOk P w H h) (g : ND P w H d l) : l.length ≤ sizeLine ∧ (d == sysModules) = false ∧ ∃ xs, NE H l xs ∧ h.DictOfH (nestedKind P w) d xs := by
  obtain ⟨o, es, ep, xs, e, hd, hl, h2, h3, h4, h5, r⟩ := g
  have x : ObjOk P w H h d (.ext fun h => h.get? d = some o) := ok d _ e
  refine ⟨hl, hd, xs, r, o, es, ep, x.1, h2, h3, h4, ?_, h5⟩
  have all : ∀ {l : List (Nk × V)} {m : List (NestedKey × Addr × Value)}, NE H l m → ∀ x ∈ m, (nestedKind P w).is h x.1 x.2.1 := by
    intro l m q
    induction q with
    | nil => intro x hx; exact nomatch hx
    | @cons p q ps qs hq t ih =>
      intro x hx
      rcases List.mem_cons.mp hx with e | hx
      · subst e
        rw [← hq.1]
        exact nkey_is ok hq.2.1
      · exact ih x hx
  exact all r
theorem ND.keep {P : Program} {w : World} {H H' : Hp} {d : Addr} {l : List (Nk × V)} (g : ND P w H d l) (hd : ∀ o, H d = some o → H' d = some o) (ht : ∀ b xs, H b = some (.tup xs) → H' b = some (.tup xs)) : ND P w H' d l := by
  obtain ⟨o, es, ep, xs, e, h1, hl, h2, h3, h4, h5, r⟩ := g
  exact ⟨o, es, ep, xs, hd _ e, h1, hl, h2, h3, h4, h5, r.keeps ht⟩
section
variable {X : Cx} {pins : List (Addr × Obj)} {σ : L2.St} {H : Hp} {s : Shared} {d : Addr} {y v : V} {u r : Value} {A : Around} {E : Value → Shared → Prop} {l : List (Nk × V)} {k : Nk}
theorem n_room (hu : A.units + 64 < cLine) {P : Program} {w : World} : (nestedKind P w).room A.in1 := by
  show A.units + 1 + 8 < cLine
  omega
theorem n_key (g : At H y k) (ry : RelV y u) : ∃ b, u = .ref b ∧ At H (.ref b) k := by
  obtain ⟨b, x1, x2, rfl, e⟩ := g
  exact ⟨b, ry, b, x1, x2, rfl, e⟩
theorem n_getItem {Q : Value → Shared → Prop} (hu : A.units + 64 < cLine) (I : Inv X pins σ H s) (g : ND X.prog X.w H d l) (gk : At H y k) (e : valV l k = some v) (ry : RelV y u) (h : ∀ w' s', Inv X pins σ H s' → RelV v w' → Q w' s') :
    wpAny (model X.prog X.w) A (getItem (.ref d) u) Q E s := by
  obtain ⟨b, rfl, gk⟩ := n_key gk ry
  obtain ⟨z, hd, xs, rel, dd⟩ := nd_of I.hok g
  obtain ⟨w', hw, rw'⟩ := RelO.some_of (v := v) (o := (atKey xs (nkey k)).map (·.2)) (by rw [← e]; exact rel.val k)
  obtain ⟨p, hp, hp2⟩ := Option.map_eq_some_iff.mp hw
  refine wpAny_getItem_heap (n_room hu) (nkey_is I.hok gk) dd hp ?_
  rw [hp2]
  exact h w' _ (I.tok _) rw'
theorem n_notIn {Q : Value → Shared → Prop} (hu : A.units + 64 < cLine) (I : Inv X pins σ H s) (g : ND X.prog X.w H d l) (gk : At H y k) (ry : RelV y u) (h : ∀ s', Inv X pins σ H s' → Q (.bool (!(valV l k).isSome)) s') :
    wpAny (model X.prog X.w) A (compareOp .NotIn u (.ref d)) Q E s := by
  obtain ⟨b, rfl, gk⟩ := n_key gk ry
  obtain ⟨z, hd, xs, rel, dd⟩ := nd_of I.hok g
  refine wpAny_notIn_heap (n_room hu) (nkey_is I.hok gk) hd dd ?_
  have q := (rel.val k).isSome_eq
  rw [Option.isSome_map] at q
  rw [← q]
  exact h _ (I.tok _)
theorem n_in {Q : Value → Shared → Prop} (hu : A.units + 64 < cLine) (I : Inv X pins σ H s) (g : ND X.prog X.w H d l) (gk : At H y k) (ry : RelV y u) (h : ∀ s', Inv X pins σ H s' → Q (.bool (valV l k).isSome) s') :
    wpAny (model X.prog X.w) A (compareOp .In u (.ref d)) Q E s := by
  obtain ⟨b, rfl, gk⟩ := n_key gk ry
  obtain ⟨z, hd, xs, rel, dd⟩ := nd_of I.hok g
  refine wpAny_in_heap (n_room hu) (nkey_is I.hok gk) hd dd ?_
  have q := (rel.val k).isSome_eq
  rw [Option.isSome_map] at q
  rw [← q]
  exact h _ (I.tok _)
theorem n_setItem {Q : Unit → Shared → Prop} (hu : A.units + 64 < cLine) (I : Inv X pins σ H s) (g : ND X.prog X.w H d l) (gk : At H y k) (hl : l.length < sizeLine) (ry : RelV y u) (rv : RelV v r)
    (h : ∀ φ s', ND X.prog X.w (upd H d (.ext φ)) d (putK l k v) → Inv X pins σ (upd H d (.ext φ)) s' → Q () s') :
    wpAny (model X.prog X.w) A (setItem (.ref d) u r) Q E s := by
  obtain ⟨b, rfl, gk⟩ := n_key gk ry
  obtain ⟨z, hd, xs, rel, dd⟩ := nd_of I.hok g
  have hz : xs.length ≤ sizeLine := by rw [← Paired.length rel]; exact z
  have hl2 : (putK l k v).length ≤ sizeLine := by have := length_putK l k v; omega
  obtain ⟨o0, _, _, _, e0, _⟩ := g
  refine wpAny_setItem_heap (hsz := hz) (n_room hu) (nkey_is I.hok gk) dd fun h' dd' hs => ?_
  obtain ⟨q, es, ep, hq, h2, h3, h4, _, h5⟩ := dd'
  refine h (fun h => h.get? d = some q) _ ⟨q, es, ep, _, upd_same, hd, hl2, h2, h3, h4, h5, (rel.put k gk rv).keeps fun c ys ec => ?_⟩ (d_write I (by rw [e0]; exact True.intro) hs ⟨q, hq⟩ ⟨hq, ⟨q, hq⟩, fun _ _ a b => b _ a⟩)
  rw [upd_ne (ne_of ec e0 (fun z => nomatch z))]
  exact ec
theorem nd_new {P : Program} {w : World} {H : Hp} {p : Addr} {o : Obj} (hd : (p == sysModules) = false) (ho : o.ExactDict) (hdt : o.data = .dict #[] 0) : ND P w (upd H p (.ext fun h => h.get? p = some o)) p [] :=
  ⟨o, #[], 0, [], upd_same, hd, Nat.zero_le _, ho, hdt, rfl, List.nodup_nil, .nil⟩
/-! rules -/
def tNNotIn (P : Program) (w : World) (ty td : TE) : TE := fun σ H Q => ty σ H fun y H1 => td σ H1 fun x H2 => ∃ d l k, x = .ref d ∧ ND P w H2 d l ∧ At H2 y k ∧ Q (.bl (!(valV l k).isSome)) H2
def tNGet (P : Program) (w : World) (td ty : TE) : TE := fun σ H Q => td σ H fun x H1 => ty σ H1 fun y H2 => ∃ d l k v, x = .ref d ∧ ND P w H2 d l ∧ At H2 y k ∧ valV l k = some v ∧ Q v H2
def sNPut (P : Program) (w : World) (td ty tv : TE) : TS := fun D σ H => tv σ H fun v H1 => td σ H1 fun x H2 => ty σ H2 fun y H3 => ∃ d l k, x = .ref d ∧ ND P w H3 d l ∧ At H3 y k ∧ l.length < sizeLine ∧ ∀ φ, ND P w (upd H3 d (.ext φ)) d (putK l k v) → D.nx σ (upd H3 d (.ext φ))
def tNNew (P : Program) (w : World) : TE := fun _ H Q => ∀ p φ, H p = none → ND P w (upd H p (.ext φ)) p [] → Q (.ref p) (upd H p (.ext φ))
section
variable {o i e value : Expr} {pos pos' : Pos} {td ty tv : TE}
theorem pc_nnotin (hu : X.A.units + 64 < cLine) (hi : PE X i ty) (ho : PE X o td) : PC X .NotIn i o (tNNotIn X.prog X.w ty td) := by
  refine ⟨fun pins s σ H Q I h => ?_⟩
  refine thn (hi.run pins s σ H _ I h) fun iv s1 ⟨y, H1, I1, ry, q1⟩ => thn (ho.run pins s1 σ H1 _ I1 q1) fun u s2 ⟨x, H2, I2, rx, d, l, k, ex, g, gk, q2⟩ => ?_
  subst ex
  obtain rfl : u = Value.ref d := rx
  exact n_notIn hu I2 g gk ry fun s3 I3 => ⟨.bl (!(valV l k).isSome), H2, I3, rfl, q2⟩
theorem pe_nget (hu : X.A.units + 64 < cLine) (ho : PE X o td) (hi : PE X i ty) (hs : NoSl i) : PE X (.Subscript o i pos) (tNGet X.prog X.w td ty) := by
  refine ⟨fun pins s σ H Q I h => ?_⟩
  refine subD_of PySem.F.slot_dict_getitem.lookup hs (thn (ho.run pins s σ H _ I h) fun u s1 ⟨x, H1, I1, rx, q1⟩ => thn (hi.run pins s1 σ H1 _ I1 q1) fun iv s2 ⟨y, H2, I2, ry, d, l, k, v, ex, g, gk, ev, q2⟩ => ?_)
  subst ex
  obtain rfl : u = Value.ref d := rx
  obtain ⟨_, _, xs, _, dd⟩ := nd_of I2.hok g
  exact ⟨dd.typeIs, n_getItem hu I2 g gk ev ry fun w' s3 I3 rw' => ⟨v, H2, I3, rw', q2⟩⟩
theorem ps_nput (hu : X.A.units + 64 < cLine) (ho : PE X o td) (hi : PE X i ty) (hv : PE X value tv) (hs : swapsWith value (some (.Subscript o i pos')) pos.line X.env = pure false) :
    PS X (.Assign [.Subscript o i pos'] value pos) (sNPut X.prog X.w td ty tv) := by
  refine ⟨fun pins s σ H D I h => ?_⟩
  refine wpAny_Assign_Subscript (thn (hv.run pins s σ H _ I h) fun r s1 ⟨v, H1, I1, rv, q1⟩ => thn (ho.run pins s1 σ H1 _ I1 q1) fun u s2 ⟨x, H2, I2, rx, q2⟩ => thn (hi.run pins s2 σ H2 _ I2 q2) fun iv s3 ⟨y, H3, I3, ry, d, l, k, ex, g, gk, hl, q3⟩ => ?_) hs
  subst ex
  obtain rfl : u = Value.ref d := rx
  exact n_setItem hu I3 g gk hl ry rv fun φ s4 g4 I4 => ⟨σ, _, I4, q3 φ g4⟩
theorem pe_nnew : PE X (.Dict [] [] pos) (tNNew X.prog X.w) := ⟨fun pins s σ H Q I h =>
  have hd : (s.heap.objs.size == sysModules) = false := beq_eq_false_iff_ne.mpr (Ne.symm (Nat.ne_of_lt I.big))
  wpAny_Dict_empty ⟨.ref s.heap.objs.size, _, I.laid (a := s.heap.objs.size) (o := .ext fun h => h.get? s.heap.objs.size = some { cls := .type "dict", data := .dict #[] }) (t' := s.toks) (fun _ _ q => Heap.get?_push_of_some _ q) (Nat.le_refl _) ⟨Heap.get?_push_size _ rfl, ⟨_, Heap.get?_push_size _ rfl⟩, fun _ _ a b => b _ a⟩, rfl, h _ _ (I.hok.fresh (Nat.le_refl _)) (nd_new hd ⟨rfl, rfl, rfl⟩ rfl)⟩⟩
end
end
end G
namespace G
open PySem L2
open Dat (At)
section
variable {P : Program} {w : World} {ty td tv : TE} {σ : L2.St} {H : Hp} {Q : VK} {D : Ends}
def NIn (P : Program) (w : World) (x y : V) (H : Hp) (Q : VK) : Prop := ∃ d l k, x = .ref d ∧ ND P w H d l ∧ At H y k ∧ Q (.bl (!(valV l k).isSome)) H
def NGt (P : Program) (w : World) (x y : V) (H : Hp) (Q : VK) : Prop := ∃ d l k v, x = .ref d ∧ ND P w H d l ∧ At H y k ∧ valV l k = some v ∧ Q v H
def NPt (P : Program) (w : World) (x y v : V) (H : Hp) (R : Hp → Prop) : Prop := ∃ d l k, x = .ref d ∧ ND P w H d l ∧ At H y k ∧ l.length < sizeLine ∧ ∀ φ, ND P w (upd H d (.ext φ)) d (putK l k v) → R (upd H d (.ext φ))
theorem r_nin (h : ty σ H fun y H1 => td σ H1 fun x H2 => NIn P w x y H2 Q) : tNNotIn P w ty td σ H Q := h
theorem r_ngt (h : td σ H fun x H1 => ty σ H1 fun y H2 => NGt P w x y H2 Q) : tNGet P w td ty σ H Q := h
theorem r_npt (h : tv σ H fun v H1 => td σ H1 fun x H2 => ty σ H2 fun y H3 => NPt P w x y v H3 (D.nx σ)) : sNPut P w td ty tv D σ H := h
end
end G

namespace G
open PySem L2
open Dat (At enc)
/-! ### beginnings of piles -/
def Begs (ps P : List (List Wo)) : Prop := P.Nodup ∧ ∀ q, q ∈ P ↔ q = [] ∨ ∃ p ∈ ps, q <+: p
theorem Begs.le {ps qs P P' : List (List Wo)} (h : Begs ps P) (k : Begs qs P') (e : ∀ p, p ∈ ps → p ∈ qs) : P.length ≤ P'.length :=
  nodup_le h.1 fun q m => (k.2 q).mpr (((h.2 q).mp m).imp id fun ⟨p, mp, x⟩ => ⟨p, e p mp, x⟩)
theorem Begs.one {ps qs P P' : List (List Wo)} (h : Begs ps P) (k : Begs qs P') (e : ∀ p, p ∈ ps ↔ p ∈ qs) : P.length = P'.length :=
  Nat.le_antisymm (h.le k fun p => (e p).mp) (k.le h fun p => (e p).mpr)
theorem begs_none : Begs [] [[]] := ⟨by simp, fun q => by simp⟩
/-- the dict's keys are the steps between the beginnings P, numbered as they stand -/
structure Tri (l : List (Nk × V)) (P : List (List Wo)) : Prop where
  len : l.length + 1 = P.length
  root : P[0]? = some []
  nd : P.Nodup
  cl : ∀ q w, q ++ [w] ∈ P → q ∈ P
  key : ∀ k v, valV l k = some v → ∃ i : Nat, k.1 = i ∧ i < P.length
  yes : ∀ (i m : Nat) q w, P[i]? = some q → P[m]? = some (q ++ [w]) → valV l ((i : Int), w) = some (.int m)
  no : ∀ (i : Nat) q w, P[i]? = some q → q ++ [w] ∉ P → valV l ((i : Int), w) = none
theorem tri_none : Tri [] [[]] := ⟨rfl, rfl, by simp, fun q w m => by simp at m, fun k v e => by simp [valV] at e, fun i m q w _ e => by
  cases m with
  | zero => simp at e
  | succ m => simp at e, fun i q w _ _ => rfl⟩
theorem nd_get {α : Type} {P : List α} (nd : P.Nodup) {i j : Nat} {a : α} (h : P[i]? = some a) (k : P[j]? = some a) : i = j := by
  obtain ⟨hi, ei⟩ := List.getElem?_eq_some_iff.mp h
  obtain ⟨hj, ej⟩ := List.getElem?_eq_some_iff.mp k
  exact (List.getElem_inj nd).mp (ei.trans ej.symm)
theorem putK_valV {l : List (Nk × V)} {k j : Nk} {v : V} (n : valV l k = none) : valV (putK l k v) j = if j = k then some v else valV l j := by
  have e : putK l k v = l ++ [(k, v)] := by
    unfold putK
    rw [valV_any, n]
    rfl
  rw [e]
  unfold valV
  rw [List.find?_append]
  by_cases z : j = k
  · subst z
    unfold valV at n
    rw [Option.map_eq_none_iff.mp n]
    simp
  · rw [if_neg z]
    cases List.find? (fun kv => decide (kv.1 = j)) l with
    | some x => simp
    | none => simp [Ne.symm z]
theorem putK_len {l : List (Nk × V)} {k : Nk} {v : V} (n : valV l k = none) : (putK l k v).length = l.length + 1 := by
  have e : putK l k v = l ++ [(k, v)] := by
    unfold putK
    rw [valV_any, n]
    rfl
  rw [e, List.length_append]
  rfl
theorem get_app {α : Type} {P : List α} {a b : α} {m : Nat} (h : (P ++ [a])[m]? = some b) : (m < P.length ∧ P[m]? = some b) ∨ (m = P.length ∧ b = a) := by
  by_cases z : m < P.length
  · rw [List.getElem?_append_left z] at h
    exact .inl ⟨z, h⟩
  · rw [List.getElem?_append_right (by omega)] at h
    cases e : m - P.length with
    | zero =>
      rw [e] at h
      simp at h
      exact .inr ⟨by omega, h.symm⟩
    | succ n =>
      rw [e] at h
      simp at h
theorem Tri.more {l : List (Nk × V)} {P : List (List Wo)} {i : Nat} {q : List Wo} {w : Wo} (t : Tri l P) (ei : P[i]? = some q) (n : q ++ [w] ∉ P) : Tri (putK l ((i : Int), w) (.int (l.length + 1 : Int))) (P ++ [q ++ [w]]) := by
  have nv := t.no i q w ei n
  have li : i < P.length := (List.getElem?_eq_some_iff.mp ei).1
  have nv' : ∀ w', valV l (((P.length : Nat) : Int), w') = none := fun w' => by
    cases e : valV l (((P.length : Nat) : Int), w') with
    | none => rfl
    | some v =>
      obtain ⟨j, ej, hj⟩ := t.key _ _ e
      have : ((P.length : Nat) : Int) = j := ej
      omega
  refine ⟨?_, ?_, ?_, ?_, ?_, ?_, ?_⟩
  · rw [putK_len nv, List.length_append, t.len]; rfl
  · rw [List.getElem?_append_left (by omega)]; exact t.root
  · rw [List.nodup_append]
    exact ⟨t.nd, by simp, fun a ma b mb e => n (by rw [List.mem_singleton.mp mb] at e; rw [← e]; exact ma)⟩
  · intro q' w' m
    rcases List.mem_append.mp m with m | m
    · exact List.mem_append_left _ (t.cl _ _ m)
    · obtain ⟨e, _⟩ := List.append_inj' (List.mem_singleton.mp m) rfl
      rw [e]
      exact List.mem_append_left _ (List.mem_of_getElem? ei)
  · intro k v e
    rw [putK_valV nv] at e
    rw [List.length_append]
    by_cases z : k = ((i : Int), w)
    · exact ⟨i, by rw [z], by omega⟩
    · rw [if_neg z] at e
      obtain ⟨j, ej, hj⟩ := t.key _ _ e
      exact ⟨j, ej, by omega⟩
  · intro i' m q' w' e1 e2
    rw [putK_valV nv]
    rcases get_app e1 with ⟨h1, e1b⟩ | ⟨rfl, rfl⟩
    · rcases get_app e2 with ⟨h2, e2b⟩ | ⟨rfl, e2b⟩
      · by_cases z : (((i' : Nat) : Int), w') = ((i : Int), w)
        · obtain ⟨z1, z2⟩ := Prod.mk.inj z
          have z1 : i' = i := by omega
          subst z1 z2
          rw [ei] at e1b
          cases e1b
          exact absurd (List.mem_of_getElem? e2b) n
        · rw [if_neg z]
          exact t.yes _ _ _ _ e1b e2b
      · obtain ⟨e3, e4⟩ := List.append_inj' e2b rfl
        subst e3
        have e4 : w' = w := by simpa using e4
        subst e4
        have := nd_get t.nd e1b ei
        subst this
        rw [if_pos rfl]
        have := t.len
        congr 2
        omega
    · exfalso
      rcases get_app e2 with ⟨h2, e2⟩ | ⟨_, e2⟩
      · exact n (t.cl _ _ (List.mem_of_getElem? e2))
      · have := congrArg List.length e2
        simp at this
  · intro i' q' w' e1 nm
    rw [putK_valV nv]
    rcases get_app e1 with ⟨h1, e1b⟩ | ⟨rfl, rfl⟩
    · by_cases z : (((i' : Nat) : Int), w') = ((i : Int), w)
      · obtain ⟨z1, z2⟩ := Prod.mk.inj z
        have z1 : i' = i := by omega
        subst z1 z2
        rw [ei] at e1b
        cases e1b
        exact absurd (List.mem_append_right _ (List.mem_singleton.mpr rfl)) nm
      · rw [if_neg z]
        exact t.no _ _ _ e1b fun m => nm (List.mem_append_left _ m)
    · rw [if_neg (fun z => by have z1 : ((P.length : Nat) : Int) = i := (Prod.mk.inj z).1; omega)]
      exact nv' w'
/-- a pile's beginnings, i worths long at most, and those of the piles gone through -/
def MemI (P done : List (List Wo)) (p : List Wo) (i : Nat) : Prop := ∀ q, q ∈ P ↔ q = [] ∨ (∃ a ∈ done, q <+: a) ∨ ∃ j, j ≤ i ∧ q = p.take j
theorem MemI.start {P done : List (List Wo)} {p : List Wo} (h : ∀ q, q ∈ P ↔ q = [] ∨ ∃ a ∈ done, q <+: a) : MemI P done p 0 := fun q => by
  rw [h]
  constructor
  · rintro (e | m)
    · exact .inl e
    · exact .inr (.inl m)
  · rintro (e | m | ⟨j, hj, e⟩)
    · exact .inl e
    · exact .inr m
    · obtain rfl : j = 0 := by omega
      exact .inl e
theorem MemI.stay {P done : List (List Wo)} {p : List Wo} {i : Nat} (h : MemI P done p i) (m : p.take (i + 1) ∈ P) : MemI P done p (i + 1) := fun q => by
  constructor
  · intro k
    rcases (h q).mp k with e | k | ⟨j, hj, e⟩
    · exact .inl e
    · exact .inr (.inl k)
    · exact .inr (.inr ⟨j, by omega, e⟩)
  · rintro (e | k | ⟨j, hj, e⟩)
    · exact (h q).mpr (.inl e)
    · exact (h q).mpr (.inr (.inl k))
    · by_cases z : j = i + 1
      · rw [e, z]; exact m
      · exact (h q).mpr (.inr (.inr ⟨j, by omega, e⟩))
theorem MemI.add {P done : List (List Wo)} {p : List Wo} {i : Nat} (h : MemI P done p i) : MemI (P ++ [p.take (i + 1)]) done p (i + 1) := fun q => by
  rw [List.mem_append, List.mem_singleton, h]
  constructor
  · rintro ((e | k | ⟨j, hj, e⟩) | e)
    · exact .inl e
    · exact .inr (.inl k)
    · exact .inr (.inr ⟨j, by omega, e⟩)
    · exact .inr (.inr ⟨i + 1, Nat.le_refl _, e⟩)
  · rintro (e | k | ⟨j, hj, e⟩)
    · exact .inl (.inl e)
    · exact .inl (.inr (.inl k))
    · by_cases z : j = i + 1
      · exact .inr (by rw [e, z])
      · exact .inl (.inr (.inr ⟨j, by omega, e⟩))
theorem MemI.shut {P done : List (List Wo)} {p : List Wo} (h : MemI P done p p.length) : ∀ q, q ∈ P ↔ q = [] ∨ ∃ a ∈ done ++ [p], q <+: a := fun q => by
  rw [h]
  constructor
  · rintro (e | ⟨a, ma, x⟩ | ⟨j, hj, e⟩)
    · exact .inl e
    · exact .inr ⟨a, List.mem_append_left _ ma, x⟩
    · exact .inr ⟨p, List.mem_append_right _ (List.mem_singleton.mpr rfl), by rw [e]; exact List.take_prefix _ _⟩
  · rintro (e | ⟨a, ma, x⟩)
    · exact .inl e
    · rcases List.mem_append.mp ma with ma | ma
      · exact .inr (.inl ⟨a, ma, x⟩)
      · rw [List.mem_singleton.mp ma] at x
        exact .inr (.inr ⟨q.length, x.length_le, List.prefix_iff_eq_take.mp x⟩)
/-! sorted piles -/
def ltR (a b : List Wo) : Bool := PySem.W.dataLt (enc a) (enc b)
theorem alike_wo {a b : Wo} : PySem.W.alike (enc a) (enc b) = true := by simp [PySem.W.alike, PySem.W.alikeAll, Dat.enc]
theorem eqv_wo {a b : Wo} : PyData.eqv (enc a) (enc b) = true ↔ a = b := by
  constructor
  · intro h
    simp [PyData.eqv, PyData.eqvAll, Dat.enc] at h
    exact Prod.ext h.1 h.2
  · rintro rfl
    simp [PyData.eqv, PyData.eqvAll, Dat.enc]
theorem lt_wo {a b : Wo} (h : PySem.W.dataLt (enc a) (enc b) = false) (k : PySem.W.dataLt (enc b) (enc a) = false) : a = b := by
  have e : ∀ c d : Wo, PySem.W.dataLt (enc c) (enc d) = if PyData.eqv (.str c.1) (.str d.1) = true then (if PyData.eqv (.int c.2) (.int d.2) = true then false else PySem.W.dataLt (.int c.2) (.int d.2)) else PySem.W.dataLt (.str c.1) (.str d.1) := fun c d =>
    PySem.W.dataLt_pair rfl rfl
  rw [e] at h k
  have e1 : PyData.eqv (.str a.1) (.str b.1) = true ↔ a.1 = b.1 := by simp [PyData.eqv]
  have e1' : PyData.eqv (.str b.1) (.str a.1) = true ↔ b.1 = a.1 := by simp [PyData.eqv]
  have e2 : PyData.eqv (.int a.2) (.int b.2) = true ↔ a.2 = b.2 := by simp [PyData.eqv]
  have e2' : PyData.eqv (.int b.2) (.int a.2) = true ↔ b.2 = a.2 := by simp [PyData.eqv]
  by_cases z : a.1 = b.1
  · rw [if_pos (e1.mpr z)] at h
    rw [if_pos (e1'.mpr z.symm)] at k
    by_cases y : a.2 = b.2
    · exact Prod.ext z y
    · rw [if_neg (fun q => y (e2.mp q)), PySem.W.dataLt_int] at h
      rw [if_neg (fun q => y (e2'.mp q).symm), PySem.W.dataLt_int] at k
      have h := of_decide_eq_false h
      have k := of_decide_eq_false k
      omega
  · rw [if_neg (fun q => z (e1.mp q)), PySem.W.dataLt_str] at h
    rw [if_neg (fun q => z (e1'.mp q).symm), PySem.W.dataLt_str] at k
    have h := of_decide_eq_false h
    have k := of_decide_eq_false k
    exact absurd (PySem.W.str_of_cps (List.le_antisymm (List.not_lt.mp k) (List.not_lt.mp h))) z
theorem ltP_cons {a b : Wo} {x y : List Wo} : ltR (a :: x) (b :: y) = if a = b then ltR x y else PySem.W.dataLt (enc a) (enc b) := by
  have e : ∀ u v : List Wo, ltR u v = PyProof.Rows.lexLt PyProof.Rows.itemOrd (PySem.W.keyToksAll (u.map enc)) (PySem.W.keyToksAll (v.map enc)) := fun u v => PySem.W.dataLt_list _ _
  rw [e, e, List.map_cons, List.map_cons, PySem.W.dataLt_cons alike_wo]
  by_cases z : a = b
  · rw [if_pos z, if_pos (eqv_wo.mpr z)]
  · rw [if_neg z, if_neg (fun q => z (eqv_wo.mp q))]
theorem ltP_nil {b : Wo} {y : List Wo} : ltR [] (b :: y) = true := by
  have e : ∀ u v : List Wo, ltR u v = PyProof.Rows.lexLt PyProof.Rows.itemOrd (PySem.W.keyToksAll (u.map enc)) (PySem.W.keyToksAll (v.map enc)) := fun u v => PySem.W.dataLt_list _ _
  rw [e, List.map_cons, List.map_nil]
  simp [PySem.W.keyToksAll, PyProof.Rows.lexLt, PyProof.Rows.itemLt]
theorem between : ∀ (p : List Wo) {a b c : List Wo}, ltR b (p ++ a) = false → ltR (p ++ c) b = false → p <+: b
  | [], _, _, _, _, _ => List.nil_prefix
  | x :: p, a, b, c, h, k => by
    cases b with
    | nil => rw [List.cons_append, ltP_nil] at h; cases h
    | cons y b =>
      rw [List.cons_append, ltP_cons] at h k
      by_cases z : y = x
      · subst z
        rw [if_pos rfl] at h k
        exact List.cons_prefix_cons.mpr ⟨rfl, between p h k⟩
      · rw [if_neg z] at h
        rw [if_neg (Ne.symm z)] at k
        exact absurd (lt_wo h k) z
def Lcp (a b : List Wo) (n : Nat) : Prop := n ≤ a.length ∧ n ≤ b.length ∧ a.take n = b.take n ∧ (n < a.length → n < b.length → a[n]? ≠ b[n]?)
/-- one pile more, the highest -/
theorem Begs.next {done P : List (List Wo)} {ahead p : List Wo} {n : Nat} (h : Begs done P) (ha : (done = [] ∧ ahead = []) ∨ ahead ∈ done) (le : ∀ a ∈ done, ltR ahead a = false) (lp : ahead ∈ done → ltR p ahead = false) (c : Lcp ahead p n) :
    Begs (done ++ [p]) (P ++ (List.range (p.length - n)).map fun j => p.take (n + 1 + j)) := by
  obtain ⟨c1, c2, c3, c4⟩ := c
  refine ⟨?_, fun q => ?_⟩
  · rw [List.nodup_append]
    refine ⟨h.1, ?_, ?_⟩
    · rw [List.nodup_iff_pairwise_ne, List.pairwise_map]
      refine (List.nodup_iff_pairwise_ne.mp List.nodup_range).imp_of_mem fun {i j} mi mj nij e => nij ?_
      have e := congrArg List.length e
      rw [List.length_take, List.length_take] at e
      have := List.mem_range.mp mi
      have := List.mem_range.mp mj
      omega
    · intro q mq b mb e
      subst e
      obtain ⟨j, mj, ej⟩ := List.mem_map.mp mb
      have hj := List.mem_range.mp mj
      have lq : q.length = n + 1 + j := by rw [← ej, List.length_take]; omega
      rcases (h.2 q).mp mq with e | ⟨a, ma, x⟩
      · rw [e] at lq; simp at lq; omega
      · have mh : ahead ∈ done := ha.resolve_left fun ⟨e, _⟩ => by rw [e] at ma; cases ma
        obtain ⟨a', rfl⟩ := x
        have ep : p = q ++ p.drop (n + 1 + j) := by rw [← ej, List.take_append_drop]
        have hb := between q (le _ ma) (by rw [← ep]; exact lp mh)
        obtain ⟨r, er⟩ := hb
        refine c4 (by rw [← er, List.length_append]; omega) (by omega) ?_
        rw [← er, List.getElem?_append_left (by omega)]
        conv => rhs; rw [ep]
        rw [List.getElem?_append_left (by omega)]
  · rw [List.mem_append, h.2]
    constructor
    · rintro ((e | ⟨a, ma, x⟩) | m)
      · exact .inl e
      · exact .inr ⟨a, List.mem_append_left _ ma, x⟩
      · obtain ⟨j, _, rfl⟩ := List.mem_map.mp m
        exact .inr ⟨p, List.mem_append_right _ (List.mem_singleton.mpr rfl), List.take_prefix _ _⟩
    · rintro (e | ⟨a, ma, x⟩)
      · exact .inl (.inl e)
      · rcases List.mem_append.mp ma with ma | ma
        · exact .inl (.inr ⟨a, ma, x⟩)
        · rw [List.mem_singleton.mp ma] at x
          have eq := List.prefix_iff_eq_take.mp x
          have lq := x.length_le
          by_cases z : q.length ≤ n
          · refine .inl ?_
            have e3 : q = ahead.take q.length := by
              have : (ahead.take n).take q.length = (p.take n).take q.length := by rw [c3]
              rw [List.take_take, List.take_take, Nat.min_eq_left z] at this
              rw [this]; exact eq
            rcases ha with ⟨_, e⟩ | mh
            · exact .inl (by rw [e3, e]; simp)
            · exact .inr ⟨ahead, mh, by rw [e3]; exact List.take_prefix _ _⟩
          · refine .inr (List.mem_map.mpr ⟨q.length - n - 1, List.mem_range.mpr (by omega), ?_⟩)
            rw [show n + 1 + (q.length - n - 1) = q.length by omega]
            exact eq.symm
end G
namespace G
theorem take_snoc2 {α : Type} {l : List α} {i : Nat} {a : α} (e : l[i]? = some a) : l.take (i + 1) = l.take i ++ [a] := by
  rw [List.take_add_one, e]
  rfl
end G

namespace G
open PySem L2 PySem.Spec PyProof.Rows
theorem alikeAll_wo : ∀ a b : List Wo, PySem.W.alikeAll (a.map Dat.enc) (b.map Dat.enc) = true
  | [], _ => by simp [PySem.W.alikeAll]
  | _ :: _, [] => by simp [PySem.W.alikeAll]
  | x :: a, y :: b => by
    rw [List.map_cons, List.map_cons]
    simp only [PySem.W.alikeAll]
    rw [alike_wo, alikeAll_wo a b]
    rfl
theorem depthAll_wo : ∀ a : List Wo, PyData.depthAll (a.map Dat.enc) ≤ 4
  | [] => by simp [PyData.depthAll]
  | x :: a => by
    have := depthAll_wo a
    rw [List.map_cons]
    simp [PyData.depthAll, PyData.depth, Dat.enc] at this ⊢
    omega
def rSortRw : List V → Hp → VK → Prop := fun vs H Q => ∃ (a : Addr) (xs : List V) (ls : List (List Wo)), vs = [.ref a] ∧ H a = some (.lst xs) ∧ Ats H xs ls ∧
  ∀ (ys : List V) (ls' : List (List Wo)) (p : Addr), ls'.Perm ls → ls'.Pairwise (fun e f => ltR f e = false) → H p = none → Ats H ys ls' → Q (.ref p) (upd H p (.lst ys))
section
variable {X : Cx}
theorem cr_sortedRw (hu : X.A.units + 64 < cLine) : CallR X (.builtin "sorted") rSortRw := by
  intro pins s σ H vs us Q I r h
  obtain ⟨a, xs, ls, rfl, ha, hr, q⟩ := h
  obtain ⟨its, rv, hl, hz⟩ := I.list (.inl (.inl ha))
  rw [Vals.ref1 r]
  have e1 : xs.length = ls.length := hr.len
  have lz : (xs.zip ls).length = xs.length := by rw [List.length_zip]; omega
  have eI : PySem.W.EachIs (fun u (b : V × List Wo) => RelV b.1 u) its (xs.zip ls) := each_at (by rw [lz, rv.length]) fun j u b hu hb => by
    obtain ⟨hb1, hb2⟩ := List.getElem?_zip_eq_some.mp hb
    obtain ⟨u', e, ru⟩ := rv.get hb1
    rw [hu] at e
    cases e
    exact ru
  have eR : PySem.W.EachIs (fun u (b : V × List Wo) => ∃ as, Reads s.heap u (Dat.enc b.2) as) its (xs.zip ls) := each_at (by rw [lz, rv.length]) fun j u b hu hb => by
    obtain ⟨hb1, hb2⟩ := List.getElem?_zip_eq_some.mp hb
    obtain ⟨u', e, ru⟩ := rv.get hb1
    rw [hu] at e
    cases e
    obtain ⟨c, ec, hc⟩ := hr.get hb1
    rw [hb2] at ec
    cases ec
    exact Dp.reads I _ _ _ (Dat.dp (K := X.K) hc) ru
  refine PySem.W.sorted_data (bs := xs.zip ls) (enc := fun b => Dat.enc b.2) (R := fun u (b : V × List Wo) => RelV b.1 u) hl.isList eI eR (PySem.W.AllAlike.of fun b b' => ?_) (PySem.W.Sortable.others fun b => ⟨fun z => by simp [Dat.enc] at z, fun ys z => by simp [Dat.enc] at z⟩) (by rw [lz]; exact hz) (fun b _ => ?_) fun out hlo eo => ?_
  · show PySem.W.alike (.list _) (.list _) = true
    simp only [PySem.W.alike]
    exact alikeAll_wo _ _
  · have hd : (Dat.enc b.2 : PyData).depth ≤ 5 := by
      have := depthAll_wo b.2
      show (PyData.list (b.2.map Dat.enc)).depth ≤ 5
      simp [PyData.depth]
      omega
    omega
  · have hTL : PySem.W.TotalLe (PySem.W.dataLe false fun b : V × List Wo => Dat.enc b.2) := PySem.W.sortLe_total _ _ _
    have pz := List.mergeSort_perm (xs.zip ls) (PySem.W.dataLe false fun b : V × List Wo => Dat.enc b.2)
    have oz := PySem.W.sort_pairwise hTL (xs.zip ls)
    generalize (xs.zip ls).mergeSort (PySem.W.dataLe false fun b : V × List Wo => Dat.enc b.2) = zs at eo pz oz
    have hperm : (zs.map (·.2)).Perm ls := by
      have e := pz.map (·.2)
      rw [List.map_snd_zip (by omega)] at e
      exact e
    have hsort : (zs.map (·.2)).Pairwise (fun e f => ltR f e = false) := by
      rw [List.pairwise_map]
      refine oz.imp fun {x y} h1 => ?_
      rw [PySem.W.dataLe_eq] at h1
      show PySem.W.dataLt (Dat.enc y.2) (Dat.enc x.2) = false
      simpa using h1
    have hv : Vals (zs.map (·.1)) out := by
      clear hlo oz hsort hperm pz
      induction eo with
      | nil => exact .nil
      | cons h _ ih => exact .cons h ih
    have hats : Ats H (zs.map (·.1)) (zs.map (·.2)) := by
      have m : ∀ z ∈ zs, Dat.At H z.1 z.2 := fun z hz => by
        obtain ⟨j, hj⟩ := List.mem_iff_getElem?.mp (pz.mem_iff.mp hz)
        obtain ⟨hb1, hb2⟩ := List.getElem?_zip_eq_some.mp hj
        obtain ⟨c, ec, hc⟩ := hr.get hb1
        rw [hb2] at ec
        cases ec
        exact hc
      clear hv hlo oz hsort hperm pz eo
      induction zs with
      | nil => exact .nil
      | cons z r ih => exact .cons (m z List.mem_cons_self) (ih fun y hy => m y (List.mem_cons_of_mem _ hy))
    obtain ⟨ep, he'⟩ := PyProof.Rows.sortedAll_at s.heap its out.toArray
    have hlen : (zs.map (·.1)).length ≤ sizeLine := by
      have := hperm.length_eq
      rw [List.length_map] at this ⊢
      omega
    exact ⟨.ref _, upd H (s.heap.objs.size + 1) (.lst (zs.map (·.1))), I.laid (t' := s.toks) (fun _ _ => PyProof.Rows.sortedAll_old) (Nat.le_succ _) ⟨hlen, out, ep, hv, he'⟩, rfl, q _ _ _ hperm hsort (I.hok.fresh (Nat.le_succ _)) hats⟩
/-- len(d) -/
def rLenN (P : Program) (w : World) : List V → Hp → VK → Prop := fun xs H Q => ∃ (p : Addr) (l : List (Nk × V)), xs = [.ref p] ∧ ND P w H p l ∧ Q (.int ((l.length : Nat) : Int)) H
theorem call_lenN : CallR X (.builtin "len") (rLenN X.prog X.w) := by
  intro pins s σ H xs us Q I r h
  obtain ⟨p, kvs, rfl, hp, q⟩ := h
  obtain ⟨u, rfl, rx⟩ := vals1 r
  obtain rfl : u = .ref p := rx
  obtain ⟨z, hd, ys, rel, dd⟩ := nd_of I.hok hp
  have hl : kvs.length = ys.length := Paired.length rel
  refine call_len_dictH hd dd (by rw [← hl]; rw [sizeLine_eq] at z; omega) ?_
  rw [← hl]
  exact ⟨.int ((kvs.length : Nat) : Int), H, I.tok _, ⟨_, rfl⟩, q⟩
end
end G

namespace G
open PySem L2
open Dat (At enc)
theorem wo_del {ns : List Addr} {H : Hp} {t : V} {w : Wo} (lv : Live ns H) (h : WoAt H t w) : At (del ns H) t w := by
  obtain ⟨a, e, ea, ok⟩ := h
  refine at_wo.mpr ⟨a, e, del_at ea fun m => ?_, ok⟩
  obtain ⟨o, eo, nt⟩ := lv a m
  rw [ea] at eo
  cases eo
  exact nt _ rfl
end G

namespace G
open PySem L2
open Dat (At enc)
/-- a list that changes no more -/
theorem All.shutL {α : Type} [Dat α] {ns : List Addr} {H : Hp} {rs : List Rs} {p : Addr} {l : List α} (W : All ns H (lstR p l :: rs)) : ∃ ms, All ms H (datR (.ref p) l :: rs) := by
  have f : Fr ns H (ns.filter fun a => decide (a ≠ p)) H := .sub W.lv fun a m => (List.mem_filter.mp m).1
  have ap := List.pairwise_cons.mp W.ap
  have keep : ∀ r ∈ rs, ∀ a ∈ r.F, a ∈ ns.filter fun a => decide (a ≠ p) := fun r m a ma => List.mem_filter.mpr ⟨W.sub r (List.mem_cons_of_mem _ m) a ma, by
    rw [decide_eq_true_eq]
    rintro rfl
    exact ap.1 r m a (by simp [lstR]) ma⟩
  have W2 : All (ns.filter fun a => decide (a ≠ p)) H rs := ⟨f.live, fun r m => r.st (W.at_ r (List.mem_cons_of_mem _ m)) f (keep r m) fun _ _ _ e => e, keep, ap.2⟩
  obtain ⟨ys, h, r⟩ := W.g0
  exact ⟨_, W2.fact (r := datR (.ref p) l) rfl ⟨p, ys, rfl, del_at h fun m => by simpa using (List.mem_filter.mp m).2, f.ats r⟩⟩
end G

namespace G
open PySem L2
open Dat (At enc)
/-! ### a list as numbered pairs -/
def ix {α : Type} (l : List α) : List (Int × α) := l.mapIdx fun i a => ((i : Int), a)
section
variable {α : Type} {l : List α} {a : α} {b : Nat}
theorem ix_len : (ix l).length = l.length := by simp [ix]
theorem ix_get? {i : Nat} : (ix l)[i]? = l[i]?.map fun a => ((i : Int), a) := by simp [ix, List.getElem?_mapIdx]
theorem ix_snoc : ix (l ++ [a]) = ix l ++ [((l.length : Int), a)] := by simp [ix, List.mapIdx_append]
theorem ix_keys : (ix l).map (·.1) = (List.range l.length).map fun i : Nat => (i : Int) := by
  apply List.ext_getElem?
  intro i
  rw [List.getElem?_map, ix_get?, List.getElem?_map]
  by_cases h : i < l.length
  · rw [List.getElem?_eq_getElem h, List.getElem?_range h]
    rfl
  · rw [List.getElem?_eq_none (by omega), List.getElem?_eq_none (by rw [List.length_range]; omega)]
    rfl
theorem ix_nodup : ((ix l).map (·.1)).Nodup := by
  rw [ix_keys, List.nodup_iff_pairwise_ne, List.pairwise_map]
  exact List.nodup_range.imp fun h e => h (Int.ofNat_inj.mp e)
theorem ix_mem : (b : Int) ∈ (ix l).map (·.1) ↔ b < l.length := by
  rw [ix_keys, List.mem_map]
  constructor
  · rintro ⟨c, m, e⟩
    rw [Int.ofNat_inj.mp e] at m
    exact List.mem_range.mp m
  · intro h
    exact ⟨b, List.mem_range.mpr h, rfl⟩
theorem ix_memI {k : Int} : k ∈ (ix l).map (·.1) ↔ ∃ b : Nat, b < l.length ∧ k = b := by
  rw [ix_keys, List.mem_map]
  constructor
  · rintro ⟨c, m, e⟩
    exact ⟨c, List.mem_range.mp m, e.symm⟩
  · rintro ⟨b, h, e⟩
    exact ⟨b, List.mem_range.mpr h, e.symm⟩
theorem ix_getA (e : l[b]? = some a) : getA (ix l) (b : Int) = some a := by
  refine getA_of ix_nodup (List.mem_of_getElem? (i := b) ?_)
  rw [ix_get?, e]
  rfl
theorem ix_getI {k : Int} (e : getA (ix l) k = some a) : ∃ b : Nat, k = b ∧ l[b]? = some a := by
  obtain ⟨i, hi, e'⟩ := List.getElem_of_mem (getA_mem e)
  have : (ix l)[i]? = some (k, a) := by rw [List.getElem?_eq_getElem hi, e']
  rw [ix_get?] at this
  obtain ⟨x, ex, ey⟩ := Option.map_eq_some_iff.mp this
  cases ey
  exact ⟨i, rfl, ex⟩
theorem ix_put (h : b < l.length) : putA (ix l) (b : Int) a = ix (l.set b a) := by
  unfold putA
  rw [if_pos (ix_mem.mpr h)]
  apply List.ext_getElem?
  intro i
  rw [List.getElem?_map, ix_get?, ix_get?, List.getElem?_set]
  by_cases e : b = i
  · subst e
    rw [if_pos rfl, if_pos h, List.getElem?_eq_getElem h]
    simp
  · rw [if_neg e]
    cases l[i]? with
    | none => rfl
    | some x =>
      simp only [Option.map_some]
      rw [if_neg fun z => e (Int.ofNat_inj.mp z).symm]
theorem ix_least (n : (b : Int) ∉ (ix l).map (·.1)) (h : ∀ m : Nat, m < b → (m : Int) ∈ (ix l).map (·.1)) : b = l.length := by
  have h1 : ¬ b < l.length := fun z => n (ix_mem.mpr z)
  have h2 : ¬ l.length < b := fun z => by
    have := ix_mem.mp (h _ z)
    omega
  omega
theorem ix_sorted {ys : List Int} (pm : ys.Perm ((ix l).map (·.1))) (pw : ys.Pairwise (· ≤ ·)) : ys = (List.range l.length).map fun i : Nat => (i : Int) := by
  rw [ix_keys] at pm
  refine List.Perm.eq_of_pairwise (le := fun a b => a ≤ b) (fun a b _ _ h1 h2 => Int.le_antisymm h1 h2) pw ?_ pm
  rw [List.pairwise_map]
  exact List.pairwise_lt_range.imp fun h => by omega
end
/-- list(range(n)) -/
theorem all_ne {ns : List Addr} {H : Hp} {r s : Rs} {rs : List Rs} (W : All ns H (r :: s :: rs)) {a b : Addr} (ha : a ∈ r.F) (hb : b ∈ s.F) : a ≠ b := fun z => by
  have := W.ap
  rw [List.pairwise_cons] at this
  exact this.1 s List.mem_cons_self a ha (z ▸ hb)
theorem split_at {ws us ts : List Wo} {w : Wo} {k : Int} (er : ws = us ++ [w] ++ ts) (lt : ts.length = k.toNat) (k0 : 0 ≤ k) : (ws.length : Int) - 1 - k = (us.length : Nat) ∧ ws[us.length]? = some w ∧ ws.eraseIdx us.length = us ++ ts := by
  have ln : ws.length = us.length + 1 + ts.length := by rw [er]; simp; omega
  refine ⟨by omega, ?_, ?_⟩
  · rw [er, List.append_assoc, List.getElem?_append_right (Nat.le_refl _), Nat.sub_self]
    rfl
  · rw [er, List.append_assoc, List.eraseIdx_append_of_length_le (Nat.le_refl _), Nat.sub_self]
    rfl
end G
namespace G
open PySem L2
open Dat (At enc)
theorem r_setO {α : Type} [Dat α] {ns : List Addr} {H : Hp} {p : Addr} {l : List α} {a : α} {x : V} {i : Nat} {Q : Hp → Prop} (lv : Live ns H) (m : p ∈ ns) (h : Own ns H p l) (hi : i < l.length) (ax : At (del ns H) x a) (q : ∀ H', Fr ns H ns H' → But p H H' → Own ns H' p (l.set i a) → Q H') : rSetL (.ref p) (.int (i : Int)) x H Q := by
  obtain ⟨xs, e, r⟩ := h
  have f : Fr ns H ns (upd H p (.lst (xs.set i x))) := .put lv m (fun _ e => by cases e)
  refine ⟨p, xs, i, i, rfl, rfl, e, ?_, q _ f But.upd ⟨_, upd_same, f.ats (r.set ax i)⟩⟩
  unfold ixN
  rw [r.len, if_pos (by omega), if_pos (by omega)]
  rfl
theorem All.ob {C h : Addr} {F ns : List Addr} {T : Vw} {rs : List Rs} {H : Hp} (W : All ns H (houR C h F T :: rs)) : ∃ (dx : Addr) (A : Ha), H h = some (.ins C dx A.fs) := by
  obtain ⟨A, S, hh, fi, v, rfl, e⟩ := W.g0
  obtain ⟨dx, eh⟩ := hh.ob
  exact ⟨dx, A, eh⟩
theorem none_is : decide (V.non = V.non) = true := by simp
theorem own_at {α : Type} [Dat α] {ns : List Addr} {H : Hp} {p : Addr} {l : List α} (h : Own ns H p l) : At H (.ref p) l := h.at_
theorem Fr.bag {ns : List Addr} {H H' : Hp} {p : Addr} {n : Nat} (l : Live ns H) (m : p ∈ ns) (b : But p H H') (B : BagAt H' p n) : Fr ns H ns H' := b.fr l m B.lv
theorem pile_own {ns : List Addr} {H : Hp} {p : Addr} {l : List Wo} (h : Own ns H p l) : PileAt H p l := pile_at h.at_
theorem same_w {ns : List Addr} {H : Hp} {x : V} {w : Wo} (h : At (del ns H) x w) : WoAt H x w := at_wo.mp (at_sub h)
end G
namespace G
open PySem L2
open Dat (At enc)
abbrev LRgG (x : V) (H : Hp) (Q : VK) : Prop := ∃ n, x = .int n ∧ RgOk 0 n ∧ ∀ q, H q = none → Q (.ref q) (upd H q (.lst (rgV 0 n)))
theorem r_lrg1 {ta : TE} {σ : L2.St} {H : Hp} {Q : VK} (h : ta σ H fun x H1 => LRgG x H1 Q) : tLstRg (tRg1 ta) σ H Q := h
theorem r_rgA {ns : List Addr} {H : Hp} {n : Nat} {Q : VK} (lv : Live ns H) (hn : n ≤ 100000) (q : ∀ p H', H p = none → Same H H' → At (del ns H') (.ref p) ((List.range n).map fun i : Nat => (i : Int)) → Q (.ref p) H') : LRgG (.int (n : Nat)) H Q := by
  refine ⟨_, rfl, .of_le (by omega) (by omega) (by omega) (by omega), fun p hp => q p _ hp (same_new hp) ?_⟩
  have e : rgV 0 (n : Int) = ((List.range n).map fun i : Nat => (i : Int)).map V.int := by
    unfold rgV
    rw [show ((n : Int) - 0).toNat = n by omega, List.map_map]
    refine List.map_congr_left fun i _ => ?_
    show V.int (0 + (i : Int)) = V.int (i : Int)
    rw [Int.zero_add]
  rw [e]
  exact (newL lv hp ats_of_int).2
/-- [x for x in l if not whole(x)] of whole numbers -/
theorem none_left {α : Type} {l : List α} : l.filterMap (fun _ => (none : Option α)) = [] := by
  induction l with
  | nil => rfl
  | cons a l ih => rw [List.filterMap_cons]; exact ih
end G
namespace G
open PySem L2
theorem All.newB {ns : List Addr} {H H' : Hp} {rs : List Rs} {z : Addr} {n : Nat} (W : All ns H rs) (hz : H z = none) (s : Same H H') (B : BagAt H' z n) : All (z :: ns) H' (bagR z n :: rs) := W.new hz s (.more W.lv hz s B.lv) rfl B
theorem All.seq {K : PySem.W.Frag} {ns : List Addr} {H0 H : Hp} {rs : List Rs} {a : Addr} {xs : List V} (W : All ns H rs) (s : Same H0 (del ns H)) (h : SqL K H0 a xs) : All ns H (seqR K a xs :: rs) := W.fact rfl (s.seq h)
theorem seq_of {K : PySem.W.Frag} {ns : List Addr} {H : Hp} {a : Addr} {xs : List V} (h : SqL K (del ns H) a xs) : SqL K H a xs := Same.seq (H := del ns H) del_sub h
end G

namespace G
open PySem PySem.Spec PyProof.Rows L2
/-! ### z[::-1] of a text -/
def revS (z : Str) : Str := ⟨z.cps.toList.reverse.toArray⟩
theorem range_pick {α : Type} : ∀ l : List α, (List.range l.length).filterMap (l[·]?) = l
  | [] => rfl
  | a :: l => by
    rw [List.length_cons, List.range_succ_eq_map, List.filterMap_cons]
    show a :: _ = _
    rw [List.filterMap_map]
    congr 1
    exact range_pick l
theorem rev_pick (z : Str) : (Builtin.Str.strSliceIndices none none (-1) z.length).filterMap (z.cps[·]?) = z.cps.toList.reverse := by
  have e : Builtin.Str.strSliceIndices none none (-1) z.length = (List.range z.length).reverse := by
    unfold Builtin.Str.strSliceIndices sliceRange
    simp only [show ¬ ((-1 : Int) > 0) by decide, if_false]
    have c : (if (z.length : Int) - 1 > -1 then ((z.length : Int) - 1 - -1 - -1 - 1) / (- -1) else 0).toNat = z.length := by
      split
      · rw [show (- -1 : Int) = 1 from rfl, Int.ediv_one]
        omega
      · omega
    rw [c, List.range_eq_range', List.reverse_range']
    rw [← List.range_eq_range']
    refine List.map_congr_left fun k m => ?_
    have := List.mem_range.mp m
    omega
  rw [e, List.filterMap_reverse]
  congr 1
  have := range_pick z.cps.toList
  rw [Array.length_toList] at this
  simpa [Str.length] using this
def tRevS (te : TE) : TE := fun σ H Q => te σ H fun x H1 => ∃ z, x = .str z ∧ z.length ≤ sizeLine ∧ Q (.str (revS z)) H1
theorem pe_revS {X : Cx} {e : PySem.Expr} {te : TE} {k : Nat} {p1 p2 p3 pos : Pos} (he : PE X e te) : PE X (.Subscript e (.Slice none none (some (.UnaryOp .USub (.Constant (.int 1) k p1) p2)) p3) pos) (tRevS te) := by
  refine ⟨fun pins s σ H Q I h => ?_⟩
  refine Subscript_ (thn (he.run pins s σ H _ I h) fun v s1 ⟨x, H1, I1, r1, q1⟩ => ?_)
  obtain ⟨z, ex, hz, q⟩ := q1
  subst ex
  obtain ⟨t, rfl⟩ := r1
  have hst : PO X (some (.UnaryOp .USub (.Constant (.int 1) k p1) p2)) (tPart (tUn (rU fun i => .int (-i)) (tC (.int 1)))) := po_some (pe_un un_neg pe_int)
  refine wpAny_Slice (thn (po_none.run pins s1 σ H1 (fun o H2 => o = none ∧ H2 = H1) I1 ⟨rfl, rfl⟩) fun vl s2 ⟨l, H2, I2, pl, el, e2⟩ => ?_)
  subst el e2
  refine thn (po_none.run pins s2 σ H2 (fun o H3 => o = none ∧ H3 = H2) I2 ⟨rfl, rfl⟩) fun vu s3 ⟨u, H3, I3, pu, eu, e3⟩ => ?_
  subst eu e3
  refine thn (hst.run pins s3 σ H3 (fun o H4 => o = some (-1) ∧ H4 = H3) I3 ⟨1, rfl, -1, rfl, rfl, rfl⟩) fun vs s4 ⟨o, H4, I4, ps, eo, e4⟩ => ?_
  subst eo e4
  have I5 : L2.Inv X pins σ H4 { s4 with heap := s4.heap.push { cls := .type "slice", data := .fields #[vl, vu, vs] } } := I4.kept (t' := s4.toks) fun b ob q => Heap.get?_push_of_some _ q
  obtain ⟨l', rfl, el⟩ := IsPart.raw pl
  obtain ⟨u', rfl, eu⟩ := IsPart.raw pu
  obtain ⟨s', rfl, es⟩ := IsPart.raw ps
  obtain ⟨os, hos, hcs, hds⟩ := Heap.IsSliceOf.new s4.heap (partValue l') (partValue u') (partValue s')
  cases l' with
  | some _ => cases el
  | none =>
    cases u' with
    | some _ => cases eu
    | none =>
      obtain ⟨⟨i, ti⟩, rfl, ei⟩ : ∃ y, s' = some y ∧ y.1 = -1 := by
        cases s' with
        | none => cases es
        | some y => exact ⟨y, rfl, by simpa using es⟩
      obtain rfl : i = -1 := ei
      show wpAny (model X.prog X.w) X.A (subscriptTail e (.Slice none none (some (.UnaryOp .USub (.Constant (.int 1) k p1) p2)) p3) (.str z t) (.ref s4.heap.objs.size)) (L2.EP X pins σ Q) X.xe _
      refine tail_any (ops := [.ref s4.heap.objs.size, .str z t]) (typeIs_str _ _ _) F.slot_str_getitem.lookup ?_ (by with_unfolding_all rfl)
      refine wpAny_getItem_str_slice (l := none) (u := none) (st := some (-1, ti)) ⟨os, hos, hcs, hds⟩ rfl ?_
      show Made.post (if ((-1 : Int) == 1 && (Builtin.Str.strSliceIndices none none (-1) z.length).length == z.length) = true then Made.val (.str z t)
        else Made.str ⟨((Builtin.Str.strSliceIndices none none (-1) z.length).filterMap (z.cps[·]?)).toArray⟩) (L2.EP X pins σ Q) _
      rw [if_neg (by simp), rev_pick]
      exact ⟨by show (z.cps.toList.reverse.toArray).size ≤ _; rw [List.size_toArray, List.length_reverse, Array.length_toList]; exact hz, .str _, H4, I5.tok _, ⟨_, rfl⟩, q⟩
theorem r_revS {te : TE} {σ : L2.St} {H : Hp} {Q : VK} (h : te σ H fun x H1 => ∃ z, x = .str z ∧ z.length ≤ sizeLine ∧ Q (.str (revS z)) H1) : tRevS te σ H Q := h
end G

namespace G
open PySem L2 PySem.Spec PyProof.Rows
open Dat (At enc)
instance datOptWo : Dat (Option Wo) where
  At := fun H v a => match a with | none => v = .non | some w => At H v w
  enc := fun a => match a with | none => .none | some w => enc w
  dep := 1
  same := fun {_ _ _ a} s h => by
    cases a with
    | none => exact h
    | some w => exact Dat.same s h
  dp := fun {_ _ _ a} h => by
    cases a with
    | none => exact h ▸ .non
    | some w => exact Dat.dp (α := Wo) h
  lay := fun {_ _ a} h => by
    cases a with
    | none => exact ⟨by simp [PyData.canLay0], by simp [PyData.depth]⟩
    | some w => exact Dat.lay (α := Wo) h
  inj := fun {_ _ _ _ a b} h k q => by
    cases a with
    | none =>
      cases b with
      | none => rfl
      | some w => simp [PyData.eqv, Dat.enc] at q
    | some v =>
      cases b with
      | none => simp [PyData.eqv, Dat.enc] at q
      | some w => rw [Dat.inj (α := Wo) h k q]
def NDa (P : Program) (w : World) (ns : List Addr) (H : Hp) (d : Addr) (l : List (Nk × V)) : Prop := ∃ (o : Obj) (es : Array DictEntry) (ep : _) (xs : List (NestedKey × Addr × Value)),
  H d = some (.ext fun h => h.get? d = some o) ∧ (d == sysModules) = false ∧ l.length ≤ sizeLine ∧ o.ExactDict ∧ o.data = .dict es ep ∧ es.toList = xs.map (entryOfKey (nestedKind P w)) ∧ (xs.map (·.1)).Nodup ∧ NE (del ns H) l xs
section
variable {P : Program} {w : World} {ns : List Addr} {H : Hp} {d : Addr} {l : List (Nk × V)}
theorem NDa.nd (h : NDa P w ns H d l) : ND P w H d l := by
  obtain ⟨o, es, ep, xs, e, h1, hl, h2, h3, h4, h5, r⟩ := h
  exact ⟨o, es, ep, xs, e, h1, hl, h2, h3, h4, h5, r.keeps fun b xs e => (of_del e).1⟩
theorem NDa.of (lv : Live ns H) (h : ND P w H d l) : NDa P w ns H d l := by
  obtain ⟨o, es, ep, xs, e, h1, hl, h2, h3, h4, h5, r⟩ := h
  refine ⟨o, es, ep, xs, e, h1, hl, h2, h3, h4, h5, r.keeps fun b xs e => del_at e fun m => ?_⟩
  obtain ⟨u, eu, nt⟩ := lv b m
  rw [e] at eu
  cases eu
  exact nt _ rfl
end
def ndR (P : Program) (w : World) (d : Addr) (l : List (Nk × V)) : Rs := ⟨[d], fun ns H => NDa P w ns H d l, fun h f _ s => by
  obtain ⟨o, es, ep, xs, e, h1, hl, h2, h3, h4, h5, r⟩ := h
  exact ⟨o, es, ep, xs, s d (by simp) _ e, h1, hl, h2, h3, h4, h5, r.keeps fun b xs e => f.same _ _ e⟩⟩
section
variable {P : Program} {w : World} {ns : List Addr} {H : Hp} {d : Addr} {l : List (Nk × V)} {rs : List Rs}
theorem All.newN {φ : Heap → Prop} (W : All ns H rs) (hd : H d = none) (n : ND P w (upd H d (.ext φ)) d l) : All (d :: ns) (upd H d (.ext φ)) (ndR P w d l :: rs) := by
  have f : Fr ns H (d :: ns) (upd H d (.ext φ)) := .mkO W.lv hd fun _ e => by cases e
  exact W.new (r := ndR P w d l) hd (same_new hd) f rfl (NDa.of f.live n)
theorem All.ndput {φ : Heap → Prop} {m : List (Nk × V)} (W : All ns H (ndR P w d l :: rs)) (n : ND P w (upd H d (.ext φ)) d m) : All ns (upd H d (.ext φ)) (ndR P w d m :: rs) := by
  have f : Fr ns H ns (upd H d (.ext φ)) := .put W.lv (W.s0 d (by simp [ndR])) fun _ e => by cases e
  exact W.u0 (.put f But.upd (W.s0 d (by simp [ndR]))) (NDa.of f.live n)
end
def atsQ {α : Type} [Dat α] (xs : List V) (l : List α) : Rs := ⟨[], fun ns H => Ats (del ns H) xs l, fun h f _ _ => f.ats h⟩
/-- the beginnings, each with the one that it follows and the worth by which -/
structure Tree (B : List (List Wo)) (bf : List Int) (la : List (Option Wo)) : Prop where
  lb : bf.length = B.length
  ll : la.length = B.length
  b0 : bf[0]? = some 0
  st : ∀ i, 0 < i → i < B.length → ∃ (j : Nat) (q : List Wo) (w : Wo), bf[i]? = some (j : Int) ∧ la[i]? = some (some w) ∧ j < i ∧ B[j]? = some q ∧ B[i]? = some (q ++ [w])
theorem tree_none : Tree [[]] [0] [none] := ⟨rfl, rfl, rfl, fun i h k => by simp at k; omega⟩
theorem Tree.more {B : List (List Wo)} {bf : List Int} {la : List (Option Wo)} {j : Nat} {q : List Wo} {w : Wo} (t : Tree B bf la) (e : B[j]? = some q) : Tree (B ++ [q ++ [w]]) (bf ++ [(j : Int)]) (la ++ [some w]) := by
  have hj := (List.getElem?_eq_some_iff.mp e).1
  have h0 : 0 < bf.length := by rw [t.lb]; omega
  refine ⟨by simp [t.lb], by simp [t.ll], by rw [List.getElem?_append_left h0]; exact t.b0, fun i h k => ?_⟩
  rw [List.length_append, List.length_singleton] at k
  by_cases z : i < B.length
  · obtain ⟨j', q', w', e1, e2, e3, e4, e5⟩ := t.st i h z
    exact ⟨j', q', w', by rw [List.getElem?_append_left (by rw [t.lb]; exact z)]; exact e1, by rw [List.getElem?_append_left (by rw [t.ll]; exact z)]; exact e2, e3, by rw [List.getElem?_append_left (by omega)]; exact e4, by rw [List.getElem?_append_left z]; exact e5⟩
  · obtain rfl : i = B.length := by omega
    exact ⟨j, q, w, by rw [← t.lb]; simp, by rw [← t.ll]; simp, hj, by rw [List.getElem?_append_left hj]; exact e, by simp⟩
end G

namespace G
open PySem L2
open Dat (At enc)
theorem seq_ints {K : PySem.W.Frag} {H : Hp} {v : V} {l : List Int} (h : At H v l) : ∃ p, v = .ref p ∧ SqL K H p (l.map V.int) := by
  obtain ⟨t, xs, e, h, r⟩ := h
  rw [ats_int r] at h
  exact ⟨t, e, .inl (.inl h)⟩
theorem r_tupY {ns : List Addr} {H : Hp} {xs : List V} {Q : VK} (lv : Live ns H) (hz : xs.length ≤ 100) (q : ∀ t H', H t = none → Same H H' → del ns H' t = some (.tup xs) → Q (.ref t) H') : NewT xs H Q :=
  ⟨Nat.le_trans hz (by decide), fun p hp => q p _ hp (same_new hp) (del_at upd_same (lv.not hp))⟩
theorem get_of_len {α β : Type} {l : List α} {m : List β} {k : Nat} (e : l.length = m.length) (h : k < m.length) : ∃ a, l[k]? = some a := ⟨_, List.getElem?_eq_getElem (by rw [e]; exact h)⟩
theorem atI_of {α : Type} {l : List α} {i : Int} {a : α} (h : 0 ≤ i) (e : l[i.toNat]? = some a) : atI l i = some a := by
  obtain ⟨n, rfl⟩ : ∃ n : Nat, i = n := ⟨i.toNat, by omega⟩
  exact L2.atI_nat e
end G

namespace G
open PySem L2 PySem.Spec PyProof.Rows
theorem kit_own {K : PySem.W.Frag} {D C : Addr} {b : Bool} (hd : PySem.W.hasDictIn K C = true) (ht : PySem.W.typeIn K (.ref C) = some (.type "type")) (h : PySem.W.subIn K (.ref D) (.ref C) = some b) (r : PySem.W.subIn K (.ref D) (.ref D) = some true) : PySem.W.kitOne K (.ref D) (.ref C) = some b := by
  obtain ⟨cd, hc, _⟩ := PySem.W.any_some hd
  have e2 : ((PySem.W.clsIn K C).isSome && PySem.W.typeIn K (.ref C) == some (.type "type")) = true := by rw [hc, ht] <;> rfl
  unfold PySem.W.kitOne
  by_cases e : D = C
  · subst e
    rw [r] at h
    rw [if_pos (by simp), h]
  · rw [if_neg (by simpa using e)]
    show (if _ then _ else none) = some b
    rw [if_pos e2]
    exact h
theorem kit_bt {K : PySem.W.Frag} {D : Addr} {T : String} {b : Bool} (hm : PySem.W.kitMeta T = true) (h : PySem.W.subIn K (.ref D) (.type T) = some b) : PySem.W.kitOne K (.ref D) (.type T) = some b := by
  unfold PySem.W.kitOne
  rw [if_neg (by simp)]
  show (if _ then _ else none) = some b
  rw [if_pos hm]
  exact h
/-! ### an error that was caught and is held -/
/-- an error object of the class cls at a -/
def EO (cls : Value) (a : Addr) : HO := .ext fun h => ∃ (oe : Obj) (vs : Array Value), h.get? a = some oe ∧ Zc cls none oe ∧ oe.data = .fields vs
theorem eo_ok {P : Program} {w : World} {H : Hp} {h : Heap} {a : Addr} {cls : Value} {oe : Obj} {vs : Array Value} (e : h.get? a = some oe) (z : Zc cls none oe) (d : oe.data = .fields vs) : ObjOk P w H h a (EO cls a) :=
  ⟨⟨oe, vs, e, z, d⟩, ⟨oe, e⟩, fun _ _ ⟨o, v, q, r⟩ k => ⟨o, v, k o q, r⟩⟩
section
variable {X : Cx} {pins : List (Addr × Obj)} {σ : L2.St} {H : Hp} {s : Shared}
/-- an object that was not there at the entry is tracked from now on, in an except suite -/
theorem inv_track {a : Addr} {o : HO} {oe : Obj} {vs : Array Value} (I : Inv X pins σ H s) (hn : H a = none) (h0 : X.s_0.heap.get? a = none) (he : s.heap.get? a = some oe) (hd : oe.data = .fields vs) (nL : a ≠ X.env.locals) (np : ∀ p ∈ X.pn ++ pins, p.1 ≠ a)
    (new : ObjOk X.prog X.w (upd H a o) s.heap a o) : Inv X pins σ (upd H a o) s := by
  refine ⟨I.ok, I.os, I.bare, ⟨I.base.keep, I.base.slot, fun b u q n hx => ?_, I.base.there, fun b xs q => ?_, fun b u xs q => ?_, fun b ps q => ?_⟩, I.loc, I.cell, ?_, fun x c e => ?_, fun p hp => ?_, fun b u e => ?_, I.len⟩
  · rw [upd_ne (fun z => by rw [z, h0] at q; cases q)]
    exact I.base.free b u q n hx
  · rw [upd_ne (ne_of_none (I.base.tups b xs q) hn)]
    exact I.base.tups b xs q
  · rw [upd_ne (ne_of_none (I.base.frzs b u xs q) hn)]
    exact I.base.frzs b u xs q
  · obtain ⟨m, e⟩ := I.base.tbls b ps q
    exact ⟨m, by rw [upd_ne (ne_of_none e hn)]; exact e⟩
  · rw [upd_ne nL.symm]
    exact I.free
  · rw [upd_ne ?_]
    · exact I.freeC x c e
    · intro z
      obtain ⟨v, o', ho, hc⟩ := I.cell x c e
      rw [z, he] at ho
      cases ho
      rw [hd] at hc
      cases hc
  · obtain ⟨e1, e2, e3⟩ := I.pin p hp
    exact ⟨e1, by rw [upd_ne (np p hp)]; exact e2, e3⟩
  · by_cases hb : b = a
    · subst hb
      rw [upd_same] at e
      cases e
      exact new
    · rw [upd_ne hb] at e
      exact (I.hok b u e).stay (fun c v _ q => q) (fun c q => by rw [upd_ne (ne_of_none q hn)]; exact q) fun c xs q => by rw [upd_ne (ne_of_none q hn)]; exact q
end
theorem inv_toSuite {X : Cx} {pins : List (Addr × Obj)} {σ : L2.St} {H : Hp} {s : Shared} (I : Inv X pins σ H s) (a : Addr) : Inv (X.suite a (X.pn ++ pins)) [] σ H s :=
  ⟨I.ok.suite _ _, I.os, I.bare, I.base, I.loc, I.cell, I.free, I.freeC, fun p hp => I.pin p (by rw [List.append_nil] at hp; exact hp), I.hok, I.len⟩
theorem inv_unSuite {X : Cx} {pins pn' : List (Addr × Obj)} {σ : L2.St} {H : Hp} {s : Shared} {a : Addr} (I : Inv (X.suite a (X.pn ++ pins)) pn' σ H s) (ok : X.Ok) : Inv X pins σ H s :=
  ⟨ok, I.os, I.bare, I.base, I.loc, I.cell, I.free, I.freeC, fun p hp => I.pin p (List.mem_append_left _ hp), I.hok, I.len⟩
/-- what the clause 'except x as n' wishes, the error held from then on -/
def wHeld (K : PySem.W.Frag) (c : Value) (i : Nat) (ts : TS) (Wout : WX) (D : Ends) : WX := fun cls d σ H =>
  ∃ b, PySem.W.exmOne K cls c = some b ∧ (b = true → d = none ∧ ∀ a, H a = none → ts { nx := fun σ' H' => D.nx (σ'.set i none) H', rt := D.rt, bk := fun σ' H' => D.bk (σ'.set i none) H', ct := fun σ' H' => D.ct (σ'.set i none) H' } (σ.set i (some (.ref a))) (upd H a (EO cls a))) ∧
    (b = false → Wout cls d σ H)
def tTryH (K : PySem.W.Frag) (c : Value) (i : Nat) (tb : WX → TS) (ts : TS) (Wout : WX) : TS := fun D σ H => tb (wHeld K c i ts Wout D) D σ H
section
variable {X : Cx} {x n : Str} {c : Value} {i : Nat} {body suite : List Stmt} {b₀ : Stmt} {np pos pos' : Pos} {tb : WX → TS} {ts : TS} {Wout : WX}
theorem ps_tryH (hex : X.ex = []) (hs : X.stack = X.env :: X.outer) (hf : X.env.frame = some X.env.locals) (hN : X.N.Nodup) (hi : X.N[i]? = some n) (hln : X.env.kindOf n = some .local) (hc : Names X x c) (tk : Takes X Wout)
    (hb : ∀ (W : WX) (pn : List (Addr × Obj)) (xe : Value → Shared → Prop), Takes (X.tr pn xe) W → PassesOwn (model X.prog X.w) X.A X.env xe → PSs (X.tr pn xe) body (tb W))
    (hsu : ∀ (a : Addr) (pn : List (Addr × Obj)), PSs (X.suite a pn) (b₀ :: suite) ts) :
    PS X (.Try body [.ExceptHandler (some (.Name x np)) (some n) (b₀ :: suite) pos'] [] [] pos) (tTryH X.K c i tb ts Wout) := by
  refine ⟨fun pins s σ H D I h => ?_⟩
  have ok := I.ok
  have hfr : X.A.frames = some (X.env :: X.outer) := by rw [ok.frames, hs]
  have hloc : Loc X.env.scope n := .inl hln
  refine wpAny_Try_except ?_
  refine wpAny_mono ((hb (wHeld X.K c i ts Wout D) (X.pn ++ pins) (fun e s₁ => wpAny (model X.prog X.w) X.A (noteFrame e X.env) (fun _ s₂ => wpAny (model X.prog X.w) X.A (setFlight e none) (fun _ s₃ =>
    wpAny (model X.prog X.w) X.A (handleBy e X.env [.ExceptHandler (some (.Name x np)) (some n) (b₀ :: suite) pos']) (SP X pins D) X.xe s₃) X.xe s₂) X.xe s₁) (fun u s' xx => ?_) PassesOwn.looking).run [] s σ H D (I.toTry _) h) (fun f s1 hsp => ?_) (fun e s1 he => he)
  · obtain ⟨a, B, sI, pins', σ', H', cls, d, rfl, J', nb, up, sky, na, os, ag, b, hb1, hyes, hno⟩ := xx
    have J : Inv X pins σ' H' sI := J'.ofTry ok
    have sky' : Sky B (X.env :: X.outer) a (Zc cls d) X.env.locals s'.heap := by rw [← hs]; exact sky
    show wpAny (model X.prog X.w) X.A (noteFrame (.ref a) X.env) _ _ _
    refine Sky.land Zc.steady hfr hf sky' fun h3 fl3 up3 => ?_
    have J3 : Inv X pins σ' H' { s' with heap := h3 } := J.landed nb fl3.1 (up.trans up3) os ag
    obtain ⟨oe3, vs3, he3, hz3, hd3⟩ := fl3.there
    have notFr : ∀ {h : Heap} {o : Obj} {vs : Array Value}, h.FunFrames B (X.env :: X.outer) → h.get? a = some o → o.data = .fields vs → a ∉ frs (X.env :: X.outer) := fun {h o vs} ff e dd hm => by
      obtain ⟨_, o', e', hnf⟩ := ff.mem hm
      rw [e] at e'; cases e'
      exact hnf _ dd
    have nfr := notFr fl3.2.2.1 he3 hd3
    have nL : a ≠ X.env.locals := fun z => nfr (List.mem_filterMap.mpr ⟨X.env, List.mem_cons_self, by rw [hf, z]⟩)
    have nF : a ∉ X.fs := fun hm => by
      obtain ⟨e, he, q⟩ := List.mem_filterMap.mp hm
      exact nfr (List.mem_filterMap.mpr ⟨e, List.mem_cons_of_mem _ he, q⟩)
    have S3 := J3.suite he3 hd3 na nL nF
    have bn : B.get? a = none := fl3.2.1
    have sIn : ∀ o, sI.heap.get? a ≠ some o := fun o e => by
      have := nb a o e (by rw [hs]; exact nfr)
      rw [bn] at this
      cases this
    have s0n : X.s_0.heap.get? a = none := by
      cases e : X.s_0.heap.get? a with
      | none => rfl
      | some o =>
        obtain ⟨o', e'⟩ := J.base.there a o e (by rw [hex]; simp)
        exact absurd e' (sIn o')
    have npin : ∀ p ∈ X.pn ++ pins, p.1 ≠ a := fun p hp z => by
      obtain ⟨e1, _⟩ := J.pin p hp
      rw [z] at e1
      exact sIn _ e1
    refine wpAny_handleBy_cons (codeAny_handlers_test ?_) (by intro q; cases q)
    have LT : PySem.W.Looks (model X.prog X.w) h3 (typeOf (.ref a)) cls := fun A Q E s k q => wpAny_typeOf_ref (k _ _ he3) (by rw [hz3.1]; exact q)
    have LM := PySem.W.exm_one (M := model X.prog X.w) (J3.kIn) LT hb1
    have test : ∀ {Q : Value → Shared → Prop} {E : Value → Shared → Prop}, Q c { s' with heap := h3 } → wpAny (model X.prog X.w) (X.A.mark (some (.ref a))) (eval (.Name x np) X.env) Q E { s' with heap := h3 } := fun {Q E} q => by
      obtain ⟨hg, hdbg, hm | ⟨hm, hv, hnn⟩⟩ := hc
      · exact ld_glob (X := X.suite a ((a, oe3) :: (X.pn ++ pins))) S3 hg hm q hdbg
      · exact ld_blt (X := X.suite a ((a, oe3) :: (X.pn ++ pins))) S3 hg hm hv q hnn hdbg
    refine test (LM.here ?_)
    cases b with
    | true =>
      obtain ⟨rfl, hy2⟩ := hyes rfl
      refine codeAny_handlers_suite_as ?_
      refine HandSPX.lands_againZ fl3 fun h4 fl4 up4 => ?_
      have J4 : Inv X pins σ' H' { s' with heap := h4 } := J.landed nb fl4.1 ((up.trans up3).trans up4) os ag
      obtain ⟨oe4, vs4, he4, hz4, hd4⟩ := fl4.there
      have T4 : Inv X pins σ' (upd H' a (EO cls a)) { s' with heap := h4 } := inv_track J4 na s0n he4 hd4 nL npin (eo_ok he4 hz4 hd4)
      have S4 := inv_toSuite T4 a
      refine store_ok (X := X.suite a (X.pn ++ pins)) (v := .ref a) S4 hN hi hloc rfl (fun s5 S5 => ?_) (.inr hln)
      refine wpAny_mono ((hsu a (X.pn ++ pins)).run [] s5 _ _ _ S5 (hy2 a na)) (fun f s6 hsp => ?_) (fun _ _ z => False.elim z)
      have end_ : ∀ {σ6 : L2.St} {H6 : Hp} {Q : Shared → Prop}, Inv (X.suite a (X.pn ++ pins)) [] σ6 H6 s6 → (∀ s7, Inv X pins (σ6.set i none) H6 s7 → Q s7) →
          wpAny (model X.prog X.w) X.A (do bindName X.env n .none; unbindBehindTheSuite X.env n pos') (fun _ s7 => Q s7) X.xe s6 := fun {σ6 H6 Q} S6 hq => gone_ok (inv_unSuite S6 ok) hN hi hln hq
      cases f with
      | next =>
        obtain ⟨σ6, H6, S6, q6⟩ := hsp
        exact end_ S6 fun s7 J7 => ⟨_, _, J7, q6⟩
      | brk =>
        obtain ⟨σ6, H6, S6, q6⟩ := hsp
        exact end_ S6 fun s7 J7 => ⟨_, _, J7, q6⟩
      | cont =>
        obtain ⟨σ6, H6, S6, q6⟩ := hsp
        exact end_ S6 fun s7 J7 => ⟨_, _, J7, q6⟩
      | ret u =>
        obtain ⟨v6, σ6, H6, S6, r6, q6⟩ := hsp
        exact end_ S6 fun s7 J7 => ⟨_, _, _, J7, r6, q6⟩
    | false =>
      show wpAny _ X.A (handleBy (.ref a) X.env []) _ _ _
      refine wpAny_handleBy_nil ?_
      obtain ⟨k1, k2, k3, oe, vs, T, oT, ts', he, hz, hd, h1, hr⟩ := id fl3
      unfold PySem.passOn
      refine wpAny_bind (wpAny_field he hd h1 ?_)
      rw [if_neg (show ¬ ((Value.ref T == Value.none) = true) from by simp)]
      have fin : wpAny (model X.prog X.w) X.A (setFlight (.ref a) X.env.frame) (fun _ s4 => wpAny (model X.prog X.w) X.A (throw (.ref a) : Sem Flow) (SP X pins D) X.xe s4) X.xe { s' with heap := h3 } := by
        rw [hf]
        refine HandSPX.setFlight_upZ fl3 fun h4 hh4 up4 => wpAny_throw (tk _ _ ?_)
        exact ⟨a, B, sI, pins, σ', H', cls, d, rfl, J, nb, (up.trans up3).trans up4, .inr (.inr (by rw [hs]; exact hh4)), na, os, ag, hno rfl⟩
      first
        | exact wpAny_bind (wpAny_pure (wpAny_bind fin))
        | exact wpAny_bind fin
  · cases f with
    | next =>
      obtain ⟨σ', H', J', q⟩ := hsp
      exact wpAny_execs_nil ⟨σ', H', J'.ofTry ok, q⟩
    | brk =>
      obtain ⟨σ', H', J', q⟩ := hsp
      exact ⟨σ', H', J'.ofTry ok, q⟩
    | cont =>
      obtain ⟨σ', H', J', q⟩ := hsp
      exact ⟨σ', H', J'.ofTry ok, q⟩
    | ret u =>
      obtain ⟨v, σ', H', J', r, q⟩ := hsp
      exact ⟨v, σ', H', J'.ofTry ok, r, q⟩
end
/-! ### isinstance of it -/
def rIsO (K : PySem.W.Frag) : List V → Hp → VK → Prop := fun xs H Q => ∃ (a D : Addr) (c : V) (cv : Value) (b : Bool), xs = [.ref a, c] ∧ H a = some (EO (.ref D) a) ∧ ExcC K D ∧ ClsV c cv ∧ PySem.W.kitOne K (.ref D) cv = some b ∧ Q (.bl b) H
def rIsOT (K : PySem.W.Frag) : List V → Hp → VK → Prop := fun xs H Q => ∃ (a D tp : Addr) (cs : List V) (us : List Value) (b : Bool), xs = [.ref a, .ref tp] ∧ H a = some (EO (.ref D) a) ∧ ExcC K D ∧ H tp = some (.tup cs) ∧ Paired ClsV cs us ∧ PySem.W.kitAny K (.ref D) us = some b ∧ Q (.bl b) H
theorem eo_inst {X : Cx} {pins : List (Addr × Obj)} {σ : L2.St} {H : Hp} {s : Shared} {a D : Addr} (I : Inv X pins σ H s) (e : H a = some (EO (.ref D) a)) : ∃ oe, PySem.W.InstAt s.heap a oe D none := by
  obtain ⟨⟨oe, vs, hget, ⟨h1, h2⟩, hv⟩, _⟩ := (show ObjOk X.prog X.w H s.heap a (EO (.ref D) a) from I.hok a _ e)
  obtain ⟨oc, od, oda, osl⟩ := oe
  dsimp only at h1 h2 hv
  subst h1 h2 hv
  exact ⟨_, hget, rfl, rfl, trivial⟩
theorem call_isO {X : Cx} : CallR X (.builtin "isinstance") (rIsO X.K) := by
  intro pins s σ H xs us Q I r h
  obtain ⟨a, D, c, cv, b, rfl, ea, C, k, e, q⟩ := h
  obtain ⟨u1, u2, rfl, r1, r2⟩ := vals2 r
  cases (show u1 = Value.ref a from r1)
  have e2 := k.eq r2
  subst e2
  obtain ⟨oe, J⟩ := eo_inst I ea
  exact PySem.W.kia_one (PySem.W.handS_kitx_exc C.hg C.hk C.hs C.hd C.ha C.hn C.ht C.hm) I.kIn J e (fun z => nomatch z) fun tk => ⟨.bl b, H, I.kept (t' := tk) fun _ _ z => z, rfl, q⟩
theorem call_isOT {X : Cx} : CallR X (.builtin "isinstance") (rIsOT X.K) := by
  intro pins s σ H xs us Q I r h
  obtain ⟨a, D, tp, cs, ws, b, rfl, ea, C, hT, k, e, q⟩ := h
  obtain ⟨u1, u2, rfl, r1, r2⟩ := vals2 r
  cases (show u1 = Value.ref a from r1)
  cases (show u2 = Value.ref tp from r2)
  obtain ⟨oe, J⟩ := eo_inst I ea
  obtain ⟨_, its, rv, o, h1, h2, n, h3⟩ := (show ObjOk X.prog X.w H s.heap tp (.tup cs) from I.hok tp _ hT)
  have e3 := ClsV.all k rv
  subst e3
  obtain ⟨oc, od, dt, sl⟩ := o
  simp only at h2 h3
  subst h2 h3
  exact PySem.W.kia_tup (PySem.W.handS_kitx_exc C.hg C.hk C.hs C.hd C.ha C.hn C.ht C.hm) I.kIn J h1 e (fun z => nomatch z) fun tk => ⟨.bl b, H, I.tok tk, rfl, q⟩
section
variable {K : PySem.W.Frag} {H : Hp} {Q : VK} {a D tp : Addr} {c : V} {cv : Value} {b : Bool}
theorem r_isO (e : H a = some (EO (.ref D) a)) (C : ExcC K D) (k : ClsV c cv) (h : PySem.W.kitOne K (.ref D) cv = some b) (q : Q (.bl b) H) : rIsO K [.ref a, c] H Q := ⟨a, D, c, cv, b, rfl, e, C, k, h, q⟩
theorem r_isOT {cs : List V} {us : List Value} (e : H a = some (EO (.ref D) a)) (C : ExcC K D) (t : H tp = some (.tup cs)) (k : Paired ClsV cs us) (h : PySem.W.kitAny K (.ref D) us = some b) (q : Q (.bl b) H) : rIsOT K [.ref a, .ref tp] H Q := ⟨a, D, tp, cs, us, b, rfl, e, C, t, k, h, q⟩
end
section
variable {σ : L2.St} {H : Hp} {Q : VK} {nx : L2.St → Hp → Prop} {rt : VK} {bk ct : L2.St → Hp → Prop}
theorem r_tryH {K : PySem.W.Frag} {c : Value} {i : Nat} {tb : WX → TS} {ts : TS} {Wout : WX} (h : tb (wHeld K c i ts Wout ⟨nx, rt, bk, ct⟩) ⟨nx, rt, bk, ct⟩ σ H) : tTryH K c i tb ts Wout ⟨nx, rt, bk, ct⟩ σ H := h
end
end G
local macro_rules | `(tactic| walk_at "r1") => `(tactic| with_reducible refine G.r_tryH ?_)

/-! ### a list comprehension out of which an element may raise -/
namespace LcX
open PySem PySem.Spec PyProof.Rows L2
def postX (M : Model) (A : Around) (E : Value → Shared → Prop) (Q : Value → Shared → Prop) (acc : Value) (cenv : Env) (r : Result) (s' : Shared) : Prop :=
  match r with
  | .ok _ => ∃ m, s'.heap.Ns cenv.locals m ∧ ∀ h', Heap.SameBut cenv.locals s'.heap h' → Q acc { s' with heap := h' }
  | .error x => ∃ m, s'.heap.Ns cenv.locals m ∧ ∀ h', Heap.SameBut cenv.locals s'.heap h' → wpAny M A (PySem.passOn "comprehension.variables-let-go" x cenv : Sem Value) (fun _ _ => False) E { s' with heap := h' }
theorem comp_freeX {M : Model} {A : Around} {E : Value → Shared → Prop} {env : Env} {s : Shared} {e : Expr} {scope : Scope} {pos : Pos} {newAcc first : Sem Value} {g : Comprehension} {gs : List Comprehension} {cl : List (Str × Addr)}
    {Q : Value → Shared → Prop}
    (hcl : clausesOf e = g :: gs) (hs : ∀ x, foldedSetIterable g.iter env x = pure x) (hclos : closureFor scope env = pure cl)
    (hkind : scope.kind = .function) (hnames : ∀ x ∈ scope.names, x.2 = .local → scope.names.lookup x.1 = some .local)
    (h : wpAny M A first (fun x s₁ => wpAny M A (pyIter x) (fun it s₂ => wpAny M A newAcc (fun acc s₃ =>
      wpAny M A (newFunctionEnv scope env.globals cl [] env.qual none .none (some env)) (fun cenv s₄ =>
        codeAny M A (.compStart e 0 it acc { cenv with scope := relabel scope env }) (postX M A E Q acc { cenv with scope := relabel scope env }) s₄) E s₃) E s₂) E s₁) E s) :
    wpAny M A (comprehension e scope env pos newAcc false first none) Q E s := by
  unfold comprehension
  rw [hclos, hcl]
  refine wpAny_bind (wpAny_mono h (fun x s₁ h₁ => wpAny_bind (wpAny_standAt (wpAny_bind (wpAny_of_eq (hs x) (wpAny_bind (wpAny_holding (wpAny_mono h₁ (fun it s₂ h₂ =>
    wpAny_standIf (wpAny_bind (wpAny_mono h₂ (fun acc s₃ h₃ => wpAny_bind (wpAny_pure (wpAny_bind (wpAny_mono h₃ (fun cenv s₄ h₄ => ?_) fun _ _ h' => h')))) fun _ _ h' => h')))
      fun _ _ h' => h'))))))) fun _ _ h' => h')
  dsimp only
  have hv : ∀ x ∈ (scope.names.filter fun x => (x.2 == .local || x.2 == .cell) && x.1 != (".0" : Str)).reverse, x.2 = .local →
      Env.kindOf { cenv with scope := relabel scope env } x.1 = some .local := fun x hx hl => lookup_relabel_local (hnames x (List.mem_filter.mp (List.mem_reverse.mp hx)).1 hl)
  refine wpAny_holding (wpAny_bind (wpAny_attempt (wpAny_holding (wpAny_run (codeAny_mono h₄ fun r s' hr => ?_)))))
  cases r with
  | ok f =>
    obtain ⟨m, hn, hr⟩ := hr
    exact wpAny_bind (wpAny_holding (wpAny_comp_letGo (cenv := { cenv with scope := relabel scope env }) hkind _ s' m hv hn fun h' m' _ hs' => wpAny_pure (hr h' hs')))
  | error x =>
    obtain ⟨m, hn, hr⟩ := hr
    exact wpAny_bind (wpAny_holding (wpAny_comp_letGo (cenv := { cenv with scope := relabel scope env }) hkind _ s' m hv hn fun h' m' _ hs' => wpAny_mono (hr h' hs') (fun _ _ f => f.elim) fun _ _ y => y))
theorem note_frame {x : Value} {e e' : Env} (h : e.frame = e'.frame) : noteFrame x e = noteFrame x e' := by
  unfold noteFrame PySem.frameOf
  rw [h]
/-- what holds of frames over a lesser base, and where another object has changed -/
theorem frames_sub {base B h h' : Heap} : ∀ {l : List Env}, h.FunFrames base l → (∀ L ∈ frs l, base.get? L = none → B.get? L = none) → (∀ L ∈ frs l, ∀ o, h.get? L = some o → h'.get? L = some o) → h'.FunFrames B l
  | [], _, _, _ => trivial
  | env :: l, h, hn, hk => by
    obtain ⟨k, ⟨L, o, hf, hb, ho, hd⟩, hr⟩ := h
    have m : L ∈ frs (env :: l) := List.mem_filterMap.mpr ⟨env, List.mem_cons_self, hf⟩
    have up : ∀ {b}, b ∈ frs l → b ∈ frs (env :: l) := fun hb => by
      obtain ⟨e, he, q⟩ := List.mem_filterMap.mp hb
      exact List.mem_filterMap.mpr ⟨e, List.mem_cons_of_mem _ he, q⟩
    exact ⟨k, ⟨L, o, hf, hn L m hb, hk L m o ho, hd⟩, frames_sub hr (fun b m => hn b (up m)) fun b m => hk b (up m)⟩
section
variable {X : Cx} {pins : List (Addr × Obj)} {σ : L2.St} {H : Hp} {s s' : Shared} {E : XK}
/-- a call's exception, flying -/
theorem of_call (I : Inv X pins σ H s) {u : Value} (c : L2.CX X.prog X.w X.stack H s E u s') : ∃ (a : Addr) (B : Heap) (sI : Shared) (H' : Hp) (cls : Value) (d : Option Addr), u = .ref a ∧ Inv X pins σ H' sI ∧
    (∀ b o, sI.heap.get? b = some o → b ∉ frs X.stack → B.get? b = some o) ∧ sI.heap.UpToSlots s'.heap ∧ HandSPX.FlyingZ B X.stack a (Zc cls d) s'.heap ∧ H' a = none ∧ s'.os = sI.os ∧ AllBare s'.gens ∧ E cls d H' := by
  obtain ⟨a, B, H', cls, d, rfl, fl, hok, ub, na, os, ag, hE⟩ := c
  obtain ⟨G, g1, g2⟩ := L2.restrict s'.heap fun b => (B.get? b).isSome || decide (b ∈ frs X.stack)
  have st : B.StaysIn s'.heap := fl.1
  have gB : ∀ b o, B.get? b = some o → G.get? b = some o := fun b o e => by
    rw [g1 b (by simp [e])]
    exact st b o e
  have gF : ∀ b, b ∈ frs X.stack → G.get? b = s'.heap.get? b := fun b hb => g1 b (by simp [hb])
  have og : ∀ b o, G.get? b = some o → s'.heap.get? b = some o ∧ ((B.get? b).isSome = true ∨ b ∈ frs X.stack) := fun b o e => by
    cases q : ((B.get? b).isSome || decide (b ∈ frs X.stack)) with
    | false => rw [g2 b q] at e; cases e
    | true =>
      rw [g1 b q] at e
      exact ⟨e, by simpa [Bool.or_eq_true] using q⟩
  refine ⟨a, B, { s with heap := G, gens := s'.gens, drawn := s'.drawn, toks := s'.toks }, H', cls, d, rfl, ?_, fun b o e hb => ?_, Heap.UpToSlots.of_keeps fun b o e => (og b o e).1, fl, na, os, ag, hE⟩
  · refine I.call (ch := []) ⟨fun b o e n hb _ => gB b o (ub.keep b o e n hb), fun b o e n hb _ => ?_, fun b o e n _ => ub.free b o e n, fun b o e _ => ?_, ub.tups, ub.frzs, ub.tbls⟩ (hok.kept gB) ag (fun _ z => nomatch z)
    · obtain ⟨sl, q⟩ := ub.slot b o e hb
      exact ⟨sl, by rw [gF b hb]; exact q⟩
    · by_cases hb : b ∈ frs X.stack
      · obtain ⟨sl, q⟩ := ub.slot b o e hb
        exact ⟨_, by rw [gF b hb]; exact q⟩
      · obtain ⟨o', q⟩ := ub.there b o e hb
        exact ⟨o', gB b o' q⟩
  · obtain ⟨e', h⟩ := og b o e
    rcases h with h | h
    · obtain ⟨o', q⟩ := Option.isSome_iff_exists.mp h
      have z := st b o' q
      rw [e'] at z; cases z
      exact q
    · exact absurd h hb
end
/-- the block's context, with a wish of what leaves it -/
abbrev blkx (X : Cx) (s : Shared) (H : Hp) (scope : Scope) (cenv : Env) (fp : List Addr) (xe : Value → Shared → Prop) : Cx := { X.blk s H scope cenv fp with xe := xe }
theorem inv_x {X : Cx} {s0 : Shared} {H0 : Hp} {scope : Scope} {cenv : Env} {fp : List Addr} {xe : Value → Shared → Prop} {pins : List (Addr × Obj)} {σ : L2.St} {H : Hp} {s : Shared} (I : Inv (X.blk s0 H0 scope cenv fp) pins σ H s) : Inv (blkx X s0 H0 scope cenv fp xe) pins σ H s :=
  ⟨⟨I.ok.mod, I.ok.kind, I.ok.glob, I.ok.blt, I.ok.above, I.ok.inj, I.ok.has, I.ok.cab, I.ok.hd, I.ok.frames, I.ok.stk, I.ok.exf, I.ok.bs, I.ok.bsz, I.ok.noex, I.ok.exfs, I.ok.funs, I.ok.frf⟩, I.os, I.bare, I.base, I.loc, I.cell, I.free, I.freeC, I.pin, I.hok, I.len⟩
section
variable {X : Cx} {pins : List (Addr × Obj)} {σ : L2.St} {H3 : Hp} {s3 : Shared} {W : WX} {scope : Scope} {ce : Env} {fp : List Addr} {xe : Value → Shared → Prop} {Qf : Value → Shared → Prop} {D : Addr}
/-- what a call within the block lets out leaves the comprehension -/
theorem blk_out (tk : Takes X W) (hs : X.stack = X.env :: X.outer) (hf : X.env.frame = some X.env.locals) (I3 : Inv X pins σ H3 s3) (f3 : ∀ b ∈ fp, FpOk X pins H3 b) (cL : ce.locals = s3.heap.objs.size) (cF : ce.frame = X.env.frame)
    {pins' : List (Addr × Obj)} {σ' : L2.St} {H : Hp} {s : Shared} {e : Value} {s' : Shared} (Ib : Inv (blkx X s3 H3 scope ce fp xe) pins' σ' H s) (c : L2.CX X.prog X.w X.stack H s (fun cls d H' => W cls d σ H') e s') :
    notedBy (model X.prog X.w) X.A ce (fun e s'' => postX (model X.prog X.w) X.A X.xe Qf (.ref D) ce (.error e) s'') e s' := by
  obtain ⟨a, B, sI, H2, cls, d, rfl, I2, nb, up, fl, na, os, ag, w⟩ := of_call (X := blkx X s3 H3 scope ce fp xe) Ib c
  have nb : ∀ b o, sI.heap.get? b = some o → b ∉ frs X.stack → B.get? b = some o := nb
  have fl : HandSPX.FlyingZ B X.stack a (Zc cls d) s'.heap := fl
  show wpAny _ _ (noteFrame (.ref a) ce) _ _ _
  rw [note_frame cF]
  have hfr : X.A.frames = some (X.env :: X.outer) := by rw [I3.ok.frames, hs]
  rw [hs] at fl
  refine HandSPX.looks_onZ Zc.steady hfr hf fl fun h' hd up2 => ?_
  have cS : ce.locals ∉ frs X.stack := fun m => by
    rw [cL] at m
    rcases List.mem_cons.mp (I3.stkSub _ m) with z | z
    · exact absurd I3.lt (by rw [z]; exact Nat.lt_irrefl _)
    · exact I3.nofs (Nat.le_refl _) z
  obtain ⟨m, ⟨oC, es, ep, hoC, rC⟩, _⟩ := I2.loc
  have hoC : sI.heap.get? ce.locals = some oC := hoC
  have hC' : h'.get? ce.locals = some oC := hd.1 _ _ (nb _ _ hoC cS)
  refine ⟨m, ⟨oC, es, ep, hC', rC⟩, fun h'' sb => ?_⟩
  have dC : oC.data = .dict es ep := rC.1
  obtain ⟨k1, k2, k3, oe, vs, T, oT, ts, he, hz, hdt, h1, hnT, hTe, hT, hdT, h3⟩ := hd
  have aC : a ≠ ce.locals := fun z => by
    rw [z, hC'] at he
    cases he
    rw [dC] at hdt
    cases hdt
  have tC : T ≠ ce.locals := fun z => by
    rw [z, hC'] at hT
    cases hT
    rw [dC] at hdT
    cases hdT
  have bH : ∀ b o, (PySem.W.hideAll B [ce.locals]).get? b = some o → B.get? b = some o ∧ b ≠ ce.locals := fun b o e => ⟨PySem.W.of_hideAll _ e, fun z => by
    rw [z, PySem.W.hideAll_none _ (by simp)] at e
    cases e⟩
  have nH : ∀ b, B.get? b = none → (PySem.W.hideAll B [ce.locals]).get? b = none := fun b e => by
    cases q : (PySem.W.hideAll B [ce.locals]).get? b with
    | none => rfl
    | some o =>
      rw [(bH b o q).1] at e
      cases e
  have hd2 : HandSPX.HeldZ (PySem.W.hideAll B [ce.locals]) (X.env :: X.outer) a (Zc cls d) X.env.locals h'' := by
    refine ⟨fun b o e => (sb.2 b (bH b o e).2).trans (k1 b o (bH b o e).1), nH a k2, frames_sub k3 (fun L _ e => nH L e) fun L m o e => (sb.2 L fun z => cS (by rw [hs, ← z]; exact m)).trans e, ?_⟩
    exact ⟨oe, vs, T, oT, ts, (sb.2 a aC).trans he, hz, hdt, h1, nH T hnT, hTe, (sb.2 T tC).trans hT, hdT, h3⟩
  unfold PySem.passOn
  refine wpAny_bind (wpAny_field ((sb.2 a aC).trans he) hdt h1 ?_)
  rw [if_neg (by simp)]
  rw [cF, hf]
  refine wpAny_bind (HandSPX.setFlight_onZ (s := { s' with heap := h'' }) hd2 fun h4 hd4 up4 => ?_)
  refine wpAny_throw (tk _ _ ?_)
  have nC : H2 ce.locals = none := I2.free
  have I7 : Inv X pins σ H2 sI := I3.call' (ch := fp) I2.os I2.base I2.hok I2.bare fun b hb => ⟨(f3 b hb).2.2.2.1, (f3 b hb).2.1, (f3 b hb).2.2.2.2.1, (f3 b hb).2.2.2.2.2⟩
  have f := I3.fpOk (b := ce.locals) (H' := H2) (by rw [cL]; exact Nat.le_refl _) nC
  obtain ⟨f0, f1, f2, f4, f5, f6⟩ := f
  have IX := I7.turned (h' := PySem.W.hideAll sI.heap [ce.locals]) (t' := sI.toks) (fun b o hb e => PySem.W.hideAll_get _ e (by simpa using hb)) f0 f1 f4 f5 f6
  have sH : ∀ b o, (PySem.W.hideAll sI.heap [ce.locals]).get? b = some o → sI.heap.get? b = some o ∧ b ≠ ce.locals := fun b o e => ⟨PySem.W.of_hideAll _ e, fun z => by
    rw [z, PySem.W.hideAll_none _ (by simp)] at e
    cases e⟩
  refine ⟨a, PySem.W.hideAll B [ce.locals], _, pins, σ, H2, cls, d, rfl, IX, fun b o e n => PySem.W.hideAll_get _ (nb b o (sH b o e).1 n) (by simpa using (sH b o e).2), fun b o e n => ?_, by rw [hs]; exact .inr (.inr hd4), na, os, ag, w⟩
  obtain ⟨e1, e2⟩ := sH b o e
  obtain ⟨sl1, q1⟩ := up b o e1 n
  obtain ⟨sl2, q2⟩ := up2 b _ q1 n
  obtain ⟨sl4, q4⟩ := up4 b _ ((sb.2 b e2).trans q2) n
  exact ⟨sl4, q4⟩
end
section
variable {X : Cx}
/-- as tLc; what an element lets out is W's, at the slots of the def -/
def tLcX (wi : TI) (g : TG) (tt : TT) (te : (L2.St → XK) → TE) (W : WX) (vs : List Nat) : TE := fun σ H Q => tLc wi g tt (te fun _ cls d H' => W cls d σ H') vs σ H Q
theorem lc_coreX {pins : List (Addr × Obj)} {s : Shared} {σ : L2.St} {H : Hp} {Q : VK} {elt tg iter : Expr} {ifs : List Expr} {scope : Scope} {own : List (Str × Nat)} {pos pos' : Pos} {wi : TI} {g : TG} {tt : TT} {te : (L2.St → XK) → TE} {W : WX} {Qf : Value → Shared → Prop}
    (hc : X.calm = true) (hN : X.N.Nodup) (tk : Takes X W) (hst : X.stack = X.env :: X.outer) (hfr : X.env.frame = some X.env.locals) (I : Inv X pins σ H s) (hi : PI X tg iter wi) (ok : BlkOk X.N X.env.scope scope own)
    (hg : ∀ (s : Shared) (H : Hp) (C : Addr) (cl : List (Str × Addr)) (fp : List Addr) (xe : Value → Shared → Prop), PG (blkx X s H scope (compEnvC scope cl C X.env) fp xe) tg g) (ht : ∀ (s : Shared) (H : Hp) (C : Addr) (cl : List (Str × Addr)) (fp : List Addr) (xe : Value → Shared → Prop), PTs (blkx X s H scope (compEnvC scope cl C X.env) fp xe) ifs tt)
    (he : ∀ (s : Shared) (H : Hp) (C : Addr) (cl : List (Str × Addr)) (fp : List Addr) (xe : Value → Shared → Prop) (Eb : L2.St → XK), (∀ σ, PassesAt (L2.CX X.prog X.w) (blkx X s H scope (compEnvC scope cl C X.env) fp xe) σ (Eb σ)) → PE (blkx X s H scope (compEnvC scope cl C X.env) fp xe) elt (te Eb)) (hs : ∀ x, foldedSetIterable iter X.env x = pure x)
    (h : tLcX wi g tt te W (own.map (·.2)) σ H Q)
    (hRR : ∀ D C s' m H', Inv X pins σ H' s' → Q (.ref D) H' → s'.heap.Ns C m → FpOk X pins H' C → ∀ h', Heap.SameBut C s'.heap h' → Qf (.ref D) { s' with heap := h' }) :
    wpAny (model X.prog X.w) X.A (comprehension (.ListComp elt [⟨tg, iter, ifs, 0⟩] scope pos) scope X.env pos' (newList []) false (eval iter X.env) none) Qf X.xe s := by
  have h : tLc wi g tt (te fun _ cls d H' => W cls d σ H') (own.map (·.2)) σ H Q := h
  have hfree : ∀ y ∈ scope.names, y.2 = .free → ∃ c, X.env.cells.lookup y.1 = some c := fun y hy e => by
    rcases ok.free y hy e with k | k
    · exact I.ok.has _ (.inl k)
    · exact I.ok.has _ (.inr k)
  refine comp_freeX rfl hs (closure_ok hfree) ok.kind (fun y hy e => by rw [ok.uniq y hy, e])
    (thn (hi.run pins s σ H _ I h) fun xv s1 hx => thn hx fun itv s2 h2 => ?_)
  obtain ⟨it, fp, tn, J, H2, e, I2, T, st2, f2, q⟩ := h2
  subst e
  refine wpAny_newObj_type (newEnv_comp ?_) (by show 0 ≤ sizeLine; decide)
  generalize hD : s2.heap.objs.size = D
  have hDn : H2 D = none := I2.hok.fresh (Nat.le_of_eq hD)
  obtain ⟨W1, ⟨m0, w0⟩, turn⟩ := q D hDn
  generalize hs3 : ({ s2 with heap := s2.heap.push { cls := .type "list", data := .seq ([] : List Value).toArray } } : Shared) = s3
  have I3 : Inv X pins σ (upd H2 D (.lst [])) s3 := by
    rw [← hs3]
    refine I2.laid (t' := s2.toks) (fun b o e => Heap.get?_push_of_some _ e) (Nat.le_of_eq hD) ⟨Nat.zero_le _, [], 0, .nil, ?_⟩
    rw [← hD]
    exact Heap.get?_push_size _ rfl
  have h3 : s3.heap = s2.heap.push { cls := .type "list", data := .seq ([] : List Value).toArray } := by rw [← hs3]
  have sz : ∀ b ∈ fp, b < s2.heap.objs.size := fun b hb => by
    obtain ⟨o, e, _⟩ := T.obj _ _ st2 b hb
    exact Heap.lt_size e
  have f3 : ∀ b ∈ fp, FpOk X pins (upd H2 D (.lst [])) b ∧ b < s3.heap.objs.size := fun b hb => by
    have hlt := sz b hb
    refine ⟨⟨?_, (f2 b hb).2⟩, by rw [h3, Heap.size_push]; exact Nat.lt_succ_of_lt hlt⟩
    rw [upd_ne (by rw [← hD]; exact Nat.ne_of_lt hlt)]
    exact (f2 b hb).1
  have st3 : tn 0 s3.heap := T.keep _ _ _ st2 fun b _ o e => by rw [h3]; exact Heap.get?_push_of_some _ e
  have I4 := block_start I3 ok hN f3
  have pg := hg s3 (upd H2 D (.lst [])) s3.heap.objs.size (cellsFrom (s3.heap.objs.size + 1) scope.names (cloFrom X.env.cells scope.names [])) fp
  have pt := ht s3 (upd H2 D (.lst [])) s3.heap.objs.size (cellsFrom (s3.heap.objs.size + 1) scope.names (cloFrom X.env.cells scope.names [])) fp
  have pe := he s3 (upd H2 D (.lst [])) s3.heap.objs.size (cellsFrom (s3.heap.objs.size + 1) scope.names (cloFrom X.env.cells scope.names [])) fp
  show codeAny _ _ (.compStart (.ListComp elt [⟨tg, iter, ifs, 0⟩] scope pos) 0 (.ref it) (.ref D) (compEnvC scope (cellsFrom (s3.heap.objs.size + 1) scope.names (cloFrom X.env.cells scope.names [])) s3.heap.objs.size X.env)) (postX (model X.prog X.w) X.A X.xe Qf (.ref D) (compEnvC scope (cellsFrom (s3.heap.objs.size + 1) scope.names (cloFrom X.env.cells scope.names [])) s3.heap.objs.size X.env)) { s3 with heap := pushCells (s3.heap.push { cls := .type "dict", data := .dict #[] }) scope.names }
  have nfp : ∀ b ∈ fp, (upd H2 D (.lst [])) b = none := fun b hb => (f3 b hb).1.1
  generalize hce : compEnvC scope (cellsFrom (s3.heap.objs.size + 1) scope.names (cloFrom X.env.cells scope.names [])) s3.heap.objs.size X.env = ce at I4 pg pt pe ⊢
  have cL : ce.locals = s3.heap.objs.size := by subst hce; rfl
  have cF : ce.frame = X.env.frame := by subst hce; rfl
  generalize hH3 : upd H2 D (.lst []) = H3 at I3 I4 pg pt pe w0 nfp f3
  generalize hs4 : ({ s3 with heap := pushCells (s3.heap.push { cls := .type "dict", data := .dict #[] }) scope.names } : Shared) = s4 at I4 ⊢
  have st4 : tn 0 s4.heap := T.keep _ _ _ st3 fun b _ o e => by rw [← hs4]; exact pushCells_keeps _ _ _ _ (Heap.get?_push_of_some _ e)
  generalize hxe : notedBy (model X.prog X.w) X.A ce (fun e s'' => postX (model X.prog X.w) X.A X.xe Qf (.ref D) ce (.error e) s'') = xe
  have pg := pg xe
  have pt := pt xe
  have pe := pe xe (fun _ cls d H' => W cls d σ H') fun σ' pins' H s e s' Ib c => by
    show xe e s'
    rw [← hxe]
    exact blk_out tk hst hfr I3 (fun b hb => (f3 b hb).1) cL cF Ib c
  have I4 := inv_x (xe := xe) I4
  have stat : ∀ {σ' : L2.St} {H' : Hp} {s' : Shared}, Inv (blkx X s3 H3 scope ce fp xe) [] σ' H' s' → (∀ b ∈ fp, H' b = none) → ∀ b ∈ fp, FpOk (blkx X s3 H3 scope ce fp xe) [] H' b := fun {σ' H' s'} I' hn b hb =>
    ⟨hn b hb, (I'.ok.exf b hb).1, I'.ok.exfs b hb, .inl hb, fun x c e => (I'.ok.exf b hb).2 x c e, fun p hp => absurd (show p ∈ ([] : List (Addr × Obj)) ++ [] from hp) (by simp)⟩
  have loop : codeAny (model X.prog X.w) X.A (.compLoop (.ListComp elt [⟨tg, iter, ifs, 0⟩] scope pos) 0 (.ref it) (.ref D) ce) (postX (model X.prog X.w) X.A X.xe Qf (.ref D) ce) s4 := by
    refine compLoop_any (fun n s' => ∃ i H', Inv (blkx X s3 H3 scope ce fp xe) [] (wipe σ (own.map (·.2))) H' s' ∧ tn i s'.heap ∧ (∀ b ∈ fp, H' b = none) ∧ W1 i n H') ?_ m0 ⟨0, H3, I4, st4, nfp, w0⟩
    rw [hxe]
    rintro n s5 ⟨i, H5, I5, st5, n5, w5⟩
    rcases turn i n H5 w5 with ⟨stop, qq⟩ | ⟨go, Nx, hNx, step⟩
    · have td := T.done (blkx X s3 H3 scope ce fp xe) rfl rfl rfl hc i [] s5 _ H5 (fun _ _ => False) I5 (stat I5 n5) st5 stop
      refine thnF td fun r s6 ⟨hr, I6⟩ => ?_
      subst hr
      have I7 : Inv X pins σ H5 s6 := I3.call' (ch := fp) I6.os I6.base I6.hok I6.bare fun b hb => ⟨(f3 b hb).1.2.2.2.1, (f3 b hb).1.2.1, (f3 b hb).1.2.2.2.2.1, (f3 b hb).1.2.2.2.2.2⟩
      have nC : H5 s3.heap.objs.size = none := by
        have z : H5 ce.locals = none := I6.free
        rw [cL] at z
        exact z
      obtain ⟨m, hn, _⟩ := I6.loc
      have hn : s6.heap.Ns ce.locals m := hn
      have fC := I3.fpOk (Nat.le_refl _) nC
      rw [← cL] at fC
      exact ⟨m, hn, hRR D ce.locals s6 m H5 I7 qq hn fC⟩
    · have ti := T.item (blkx X s3 H3 scope ce fp xe) rfl rfl rfl hc i [] s5 _ H5 (fun _ _ => False) I5 (stat I5 n5) st5 go
      refine thnF ti fun r s6 ⟨u, hr, h6⟩ => ?_
      subst hr
      refine thnF h6 fun _ s7 ⟨x, H7, I7, r7, y7, st7, n7⟩ => ?_
      have I7' := I7.pinned (stat I7 n7) (T.obj _ _ st7)
      refine thn (pg.run _ s7 _ H7 x u _ I7' r7 (step x H7 y7)) fun _ s8 ⟨σ8, H8, I8, hw8, q8⟩ => ?_
      refine thn (pt.run _ s8 σ8 H8 _ I8 q8) fun b s9 ⟨H9, I9, q9⟩ => ?_
      have fin : ∀ {s' : Shared} {H' : Hp}, Inv (blkx X s3 H3 scope ce fp xe) ([] ++ pinsAt fp s7.heap) σ8 H' s' → Nx H' → ∃ m, m < n ∧ ∃ i H', Inv (blkx X s3 H3 scope ce fp xe) [] (wipe σ (own.map (·.2))) H' s' ∧ tn i s'.heap ∧ (∀ b ∈ fp, H' b = none) ∧ W1 i m H' := fun {s' H'} I' nx => by
        obtain ⟨m', hm, w'⟩ := hNx H' nx
        have pin' : ∀ b ∈ fp, ∀ o, s7.heap.get? b = some o → s'.heap.get? b = some o ∧ H' b = none := fun b hb o e =>
          let z := I'.pin (b, o) (List.mem_append_right _ (List.mem_append_right _ (mem_pinsAt hb e)))
          ⟨z.1, z.2.1⟩
        have hl : (wipe σ (own.map (·.2))).length = σ8.length := by rw [← hw8, wipe_length]
        refine ⟨m', hm, i + 1, H', (I'.unpinned (pins := [])).weak hl (fun j v e => ?_), T.keep _ _ _ st7 fun b hb o e => (pin' b hb o e).1, fun b hb => ?_, w'⟩
        · rw [← hw8] at e
          exact (wipe_some e).1
        · obtain ⟨o, e, _⟩ := T.obj _ _ st7 b hb
          exact (pin' b hb o e).2
      cases b with
      | false =>
        simp only [Bool.false_eq_true, if_false] at q9 ⊢
        exact fin I9 q9
      | true =>
        simp only [if_true] at q9 ⊢
        refine thn (pe.run _ s9 σ8 H9 _ I9 q9) fun z s10 ⟨yv, H10, I10, r10, acc, hD10, hz10, nx⟩ => ?_
        exact app_ok (X := blkx X s3 H3 scope ce fp xe) I10 hD10 hz10 r10 fun s11 I11 => fin I11 nx
  exact codeAny_compStart_list loop (T.self X.A 0 _ _ _ st4 loop)
/-- as a value -/
theorem pe_lcX {elt tg iter : Expr} {ifs : List Expr} {scope : Scope} {own : List (Str × Nat)} {pos : Pos} {wi : TI} {g : TG} {tt : TT} {te : (L2.St → XK) → TE} {W : WX} (hc : X.calm = true) (hN : X.N.Nodup) (tk : Takes X W) (hst : X.stack = X.env :: X.outer) (hfr : X.env.frame = some X.env.locals) (hi : PI X tg iter wi) (ok : BlkOk X.N X.env.scope scope own)
    (hg : ∀ (s : Shared) (H : Hp) (C : Addr) (cl : List (Str × Addr)) (fp : List Addr) (xe : Value → Shared → Prop), PG (blkx X s H scope (compEnvC scope cl C X.env) fp xe) tg g) (ht : ∀ (s : Shared) (H : Hp) (C : Addr) (cl : List (Str × Addr)) (fp : List Addr) (xe : Value → Shared → Prop), PTs (blkx X s H scope (compEnvC scope cl C X.env) fp xe) ifs tt)
    (he : ∀ (s : Shared) (H : Hp) (C : Addr) (cl : List (Str × Addr)) (fp : List Addr) (xe : Value → Shared → Prop) (Eb : L2.St → XK), (∀ σ, PassesAt (L2.CX X.prog X.w) (blkx X s H scope (compEnvC scope cl C X.env) fp xe) σ (Eb σ)) → PE (blkx X s H scope (compEnvC scope cl C X.env) fp xe) elt (te Eb)) (hs : ∀ x, foldedSetIterable iter X.env x = pure x := by intro _; rfl) :
    PE X (.ListComp elt [⟨tg, iter, ifs, 0⟩] scope pos) (tLcX wi g tt te W (own.map (·.2))) := by
  refine ⟨fun pins s σ H Q I h => ?_⟩
  rw [eval_ListComp]
  refine lc_coreX hc hN tk hst hfr I hi ok hg ht he hs h fun D C s' m H' I' q hn f h'' sb => ?_
  obtain ⟨f0, f1, f2, f3, f4, f5⟩ := f
  exact ⟨.ref D, H', I'.turned (t' := s'.toks) (fun b o hb e => (sb.2 b hb).trans e) f0 f1 f3 f4 f5, rfl, q⟩
end
end LcX
namespace LcX
open PySem L2
theorem r_lcX {wi : TI} {g : TG} {tt : TT} {te : (L2.St → XK) → TE} {W : WX} {vs : List Nat} {σ : L2.St} {H : Hp} {Q : VK} (h : tLc wi g tt (te fun _ cls d H' => W cls d σ H') vs σ H Q) : tLcX wi g tt te W vs σ H Q := h
end LcX

/-! ### text.replace(a, b, 1) with written texts, of which only the length is told -/
namespace G
open PySem PySem.Spec PyProof.Rows L2
open PySem.Builtin PySem.Builtin.Str
def repl1 (x y z : Str) : Str := if ((occurrences x y 0 x.length 1).isEmpty || (y.length == 0 && z.length == 0)) = true then x else glued z (partsBetween x (occurrences x y 0 x.length 1) y.length)
theorem gives_repl1 (x y z : Str) (t u v w : Tok)
    (hf : ((occurrences x y 0 x.length 1).isEmpty || (y.length == 0 && z.length == 0)) = false →
      (u == 0 || v == 0) = false ∧ (u == v) = false ∧ (y == z) = false ∧ tooLong (x.length + (occurrences x y 0 x.length 1).length * z.length) = false) :
    Gives («str.replace» ⟨[.str x t, .str y u, .str z v, .int 1 w], []⟩) (if ((occurrences x y 0 x.length 1).isEmpty || (y.length == 0 && z.length == 0)) = true then .val (.str x t) else .str (glued z (partsBetween x (occurrences x y 0 x.length 1) y.length))) := by
  show Gives (if ((occurrences x y 0 x.length 1).isEmpty || (y.length == 0 && z.length == 0)) = true then (do rule "str.replace.nothing"; ret (.str x t)) else
          (do let same ← isSame (.str y u) (.str z v)
              if same = true then (do rule "str.replace.old-is-new"; ret (.str x t)) else
              if tooLong (x.length + (occurrences x y 0 x.length 1).length * z.length) = true then unsupported "str.replace:memory" else
              retStr (glued z (partsBetween x (occurrences x y 0 x.length 1) y.length)))) _
  cases hc : ((occurrences x y 0 x.length 1).isEmpty || (y.length == 0 && z.length == 0))
  · obtain ⟨h0, huv, hyz, hl⟩ := hf hc
    rw [isSame_str_other y z u v h0 huv hyz, hl]
    exact .of_eq rfl
  · exact .rule (.of_eq rfl)
theorem repl1_len {x y : Str} : (repl1 x y "").length ≤ x.length := by
  unfold repl1
  split
  · exact Nat.le_refl _
  · have hy : (glued y (partsBetween x (occurrences x y 0 x.length 1) y.length)).length = x.length := by rw [StrLaws.glued_between_self]
    rw [size_glued] at hy ⊢
    have e : ("" : Str).length = 0 := rfl
    rw [e]
    omega
def tRepl1 (to : TE) (y : Str) : TE := fun σ H Q => to σ H fun v H1 => ∃ x, v = .str x ∧ x.length ≤ 1000000 ∧ Q (.str (repl1 x y "")) H1
section
variable {X : Cx} {o e : Expr} {te : TE} {to : TE} {y : Str} {j k l : Nat} {c0 c1 c2 apos pos p p' : Pos}
theorem pet_repl1 (ho : PE X o to) (hyz : (y == ("" : Str)) = false := by decide)
    (hst : starEach [.Constant (.str y) j c0, .Constant (.str "") k c1, .Constant (.int 1) l c2] X.env = [(false, eval (.Constant (.str y) j c0) X.env), (false, eval (.Constant (.str "") k c1) X.env), (false, eval (.Constant (.int 1) l c2) X.env)] := by rfl)
    (hbase : attributeBase o "replace" X.env (eval o X.env) = eval o X.env := by rfl) (hline : (apos.endLine == pos.line) = true := by rfl) :
    PET X (.Call (.Attribute o "replace" apos) [.Constant (.str y) j c0, .Constant (.str "") k c1, .Constant (.int 1) l c2] [] pos) (tRepl1 to y) := by
  intro pins s σ H Q h0 I h
  refine PySem.wpAny_Call_method_lateS hbase (by rw [hst]; rfl) hline (wpAny_mono (PySem.wpAny_toks (ho.run pins s σ H _ I h)) (fun v s1 q => ?_) fun _ _ z => z.2)
  obtain ⟨hk, v', H1, I1, r1, x, e1, hb, q⟩ := q
  subst e1
  obtain ⟨tx, e2⟩ := r1
  subst e2
  rw [hst]
  refine ⟨"str", _, PySem.F.plainAttrs_str, PySem.F.slot_str_replace, PySem.F.type_str_replace, typeIs_str _ _ _, (fun _ e => nomatch e), Calls.callWith_builtin rfl (Calls.evalArgs_plain (Calls.spliced_cons ?_))⟩
  change wpAny _ _ (PySem.eval (.Constant (.str y) j c0) X.env) _ _ _
  refine Calls.Constant_str (Calls.spliced_cons ?_)
  change wpAny _ _ (PySem.eval (.Constant (.str "") k c1) X.env) _ _ _
  refine Calls.Constant_str (Calls.spliced_cons ?_)
  change wpAny _ _ (PySem.eval (.Constant (.int 1) l c2) X.env) _ _ _
  refine wpAny_Constant_int (Calls.spliced_nil ?_)
  have el : ("" : Str).length = 0 := rfl
  refine call_gives PySem.F.slot_str_replace (typeIs_str _ _ _) PySem.F.entry_str_replace (PySem.F.args_str_replace_4 _ _ _ _)
    (gives_repl1 x y "" _ _ _ _ fun _ => ⟨by have u0 : s1.toks ≠ 0 := (by omega); simp [u0], by simp, hyz, by unfold tooLong; rw [sizeLine_eq, el]; exact decide_eq_false (by omega)⟩) ?_
  have hl := repl1_len (x := x) (y := y)
  have hq := q
  unfold repl1 at hq hl
  cases hc : ((occurrences x y 0 x.length 1).isEmpty || (y.length == 0 && ("" : Str).length == 0))
  · rw [hc] at hq hl
    simp only [Bool.false_eq_true, if_false] at hq hl ⊢
    exact ⟨by rw [sizeLine_eq]; omega, .str _, H1, I1.tok _, ⟨_, rfl⟩, hq⟩
  · rw [hc] at hq
    simp only [if_true] at hq ⊢
    exact ⟨.str _, H1, I1.tok _, ⟨_, rfl⟩, hq⟩
/-- x = e, where e's first step is a written text: behind it a token is out -/
theorem pss_tok {i : Nat} {x c : Str} {cp pos' : Pos} {rest : List Stmt} {u : TS} (hN : X.N.Nodup) (hi : X.N[i]? = some x) (hx : Loc X.env.scope x) (he : PE X e te) (h2 : PSsT X rest u)
    (hf1 : ∃ k, eval e X.env = (eval (.Constant (.str c) j cp) X.env >>= k) := by exact ⟨_, rfl⟩)
    (hs : swapsWith e (some (.Name x pos')) pos.line X.env = pure false := by rfl) (hf : X.fn x = true ∨ X.env.scope.names.lookup x = some .local := by first | exact .inl rfl | exact .inr rfl | assumption) :
    PSs X (.Assign [.Name x pos'] e pos :: rest) (tSeq (tAsg te (gName i)) u) := by
  refine ⟨fun pins s σ H D I h => ?_⟩
  obtain ⟨kk, hk⟩ := hf1
  have hr := he.run pins s σ H _ I h
  rw [hk] at hr
  have hr2 : wpAny (model X.prog X.w) X.A (kk (.str c s.toks)) (EP X pins σ (fun x H1 => gName i x σ H1 (u D))) X.xe { s with toks := s.toks + 1 } := fun Γ p hΓ => by
    have := hr Γ p hΓ
    rw [Sem.wp_bind'] at this
    exact this
  refine wpAny_execs_cons (wpAny_Assign_Name ?_ hs)
  rw [hk]
  refine wpAny_bind (Calls.Constant_str (wpAny_mono (PySem.wpAny_toks hr2) (fun v s1 q => ?_) fun _ _ z => z.2))
  obtain ⟨hk1, y, H1, I1, r1, q1⟩ := q
  have hk1 : s.toks + 1 ≤ s1.toks := hk1
  refine wpAny_mono (PySem.wpAny_toks (store_ok (Q := fun _ s2 => Inv X pins (σ.set i (some y)) H1 s2) I1 hN hi hx r1 (fun _ I2 => I2) hf)) (fun _ s2 q => ?_) fun _ _ z => z.2
  exact h2 pins s2 _ H1 D (by have := q.1; omega) q.2 q1
end
end G

namespace G
open PySem L2 TL
/-! ### any text read as a worth -/
def figB (c : Nat) : Bool := decide (48 ≤ c) && decide (c ≤ 57)
def figsOk (l : List Nat) : Bool := !l.isEmpty && decide (l.length ≤ 60) && l.all figB && (decide (l.head? ≠ some 48) || decide (l.length = 1))
theorem fig_mem {c : Nat} : c ∈ (Str.ofString "0123456789").cps.toList ↔ figB c = true := by
  have e : (Str.ofString "0123456789").cps.toList = [48, 49, 50, 51, 52, 53, 54, 55, 56, 57] := by decide +kernel
  rw [e]
  unfold figB
  simp only [List.mem_cons, List.not_mem_nil, or_false, Bool.and_eq_true, decide_eq_true_eq]
  omega
theorem figs_nil : figsOk [] = false := rfl
theorem figs_long {l : List Nat} (h : 60 < l.length) : figsOk l = false := by
  unfold figsOk
  rw [decide_eq_false (by omega : ¬ l.length ≤ 60)]
  simp
theorem figs_bad {l : List Nat} {c : Nat} (m : c ∈ l) (h : figB c = false) : figsOk l = false := by
  unfold figsOk
  have : l.all figB = false := List.all_eq_false.mpr ⟨c, m, by rw [h]; decide⟩
  rw [this]
  simp
theorem figs_nought {r : List Nat} (h : r ≠ []) : figsOk (48 :: r) = false := by
  unfold figsOk
  have : ¬ (48 :: r).length = 1 := fun e => h (List.length_eq_zero_iff.mp (by simpa using e))
  rw [decide_eq_false this]
  simp
theorem figs_ok {c : Nat} {r : List Nat} (h60 : (c :: r).length ≤ 60) (h : ∀ d ∈ c :: r, figB d = true) (hn : c ≠ 48 ∨ r = []) : figsOk (c :: r) = true := by
  unfold figsOk
  rw [decide_eq_true h60, List.all_eq_true.mpr h]
  rcases hn with hn | rfl
  · simp [hn]
  · simp
theorem figs_parts {l : List Nat} (h : figsOk l = true) : l ≠ [] ∧ l.length ≤ 60 ∧ (∀ d ∈ l, figB d = true) ∧ (l.head? ≠ some 48 ∨ l.length = 1) := by
  unfold figsOk at h
  simp only [Bool.and_eq_true, Bool.or_eq_true, decide_eq_true_eq, List.all_eq_true, Bool.not_eq_true', List.isEmpty_eq_false_iff] at h
  exact ⟨h.1.1.1, h.1.1.2, h.1.2, h.2⟩
theorem figs_digits {l : List Nat} (h : ∀ d ∈ l, figB d = true) : NumText.AllDigits l := fun c hc => by
  have := h c hc
  unfold figB at this
  simp only [Bool.and_eq_true, decide_eq_true_eq] at this
  exact this
def dval (l : List Nat) : Int := ((NumText.digitsVal l : Nat) : Int)
theorem fin_of {z : Str} (h : ∀ d ∈ tl z, figB d = true) (hn : tl z ≠ []) (hl : (tl z).length ≤ 60) : PySem.intText? z = some (dval (tl z)) :=
  intText_digits (x := z) (figs_digits h) hn (by rw [len_tl]; omega)
/-- the worth that a text writes -/
def dueW (z : Str) : Option Wo := match tl z with
  | [] => none
  | c :: r => match marked.find? (fun p => decide (p.1 = (⟨#[c]⟩ : Str))) with
    | some p => if figsOk r = true then some ((p.2, dval r) : Wo) else none
    | none => if c = 45 then (if figsOk r = true ∧ r ≠ [48] then some (("num", -(dval r)) : Wo) else none) else if figsOk (c :: r) = true then some (("num", dval (c :: r)) : Wo) else none
theorem due_nil : dueW "" = none := rfl
theorem due_mark {z : Str} {c : Nat} {r : List Nat} {p : Str × Str} (e : tl z = c :: r) (m : marked.find? (fun p => decide (p.1 = (⟨#[c]⟩ : Str))) = some p) : dueW z = if figsOk r = true then some ((p.2, dval r) : Wo) else none := by
  unfold dueW
  rw [e]
  dsimp only
  rw [m]
theorem due_minus {z : Str} {r : List Nat} (e : tl z = 45 :: r) : dueW z = if figsOk r = true ∧ r ≠ [48] then some (("num", -(dval r)) : Wo) else none := by
  unfold dueW
  rw [e]
  dsimp only
  rw [marked_digit (by decide)]
  rfl
theorem due_plain {z : Str} {c : Nat} {r : List Nat} (e : tl z = c :: r) (m : marked.find? (fun p => decide (p.1 = (⟨#[c]⟩ : Str))) = none) (n : c ≠ 45) : dueW z = if figsOk (c :: r) = true then some (("num", dval (c :: r)) : Wo) else none := by
  unfold dueW
  rw [e]
  dsimp only
  rw [m]
  dsimp only
  rw [if_neg n]
theorem marked_ok {c : Nat} {p : Str × Str} (m : marked.find? (fun p => decide (p.1 = (⟨#[c]⟩ : Str))) = some p) : PyData.strOk p.2 = true ∧ p.2 ≠ "num" ∧ (c = 64 ∨ c = 98 ∨ c = 103) := by
  have mm := List.mem_of_find?_eq_some m
  refine ⟨?_, ?_, ?_⟩
  · unfold marked at mm
    simp only [List.mem_cons, List.not_mem_nil, or_false] at mm
    rcases mm with rfl | rfl | rfl <;> decide +kernel
  · unfold marked at mm
    simp only [List.mem_cons, List.not_mem_nil, or_false] at mm
    rcases mm with rfl | rfl | rfl <;> decide +kernel
  · by_cases q : c ≠ 64 ∧ c ≠ 98 ∧ c ≠ 103
    · rw [marked_digit q] at m
      cases m
    · omega
/-- what is no text -/
def NotStr (K : PySem.W.Frag) (H : Hp) (v : V) : Prop := ∃ T : String, kitB T "str" = some false ∧ TyX K H v (.type T)
theorem NotStr.same {K : PySem.W.Frag} {H H' : Hp} {v : V} (s : Same H H') (h : NotStr K H v) : NotStr K H' v := by
  obtain ⟨T, e, t⟩ := h
  exact ⟨T, e, TyX.same s t⟩
theorem r_notS {K : PySem.W.Frag} {H : Hp} {v : V} {Q : VK} (h : NotStr K H v) (q : Q (.bl false) H) : rIsi K [v, .ty "str"] H Q := by
  obtain ⟨T, e, t⟩ := h
  exact r_isi t e q
/-! ### any text read as a pile -/
def optAll {α : Type} : List (Option α) → Option (List α)
  | [] => some []
  | none :: _ => none
  | some w :: r => (optAll r).map (w :: ·)
theorem optAll_none {α : Type} : ∀ {l : List (Option α)}, optAll l = none ↔ none ∈ l
  | [] => by simp [optAll]
  | none :: r => by simp [optAll]
  | some w :: r => by
    rw [optAll, Option.map_eq_none_iff, optAll_none]
    simp
theorem optAll_some {α : Type} : ∀ {l : List (Option α)} {ws : List α}, optAll l = some ws ↔ l = ws.map some
  | [], ws => by
    cases ws <;> simp [optAll]
  | none :: r, ws => by
    cases ws <;> simp [optAll]
  | some w :: r, ws => by
    rw [optAll, Option.map_eq_some_iff]
    constructor
    · rintro ⟨us, e, rfl⟩
      rw [optAll_some.mp e]
      rfl
    · intro e
      cases ws with
      | nil => cases e
      | cons v us =>
        rw [List.map_cons, List.cons.injEq] at e
        obtain ⟨e1, e2⟩ := e
        cases e1
        exact ⟨us, optAll_some.mpr e2, rfl⟩
def words (z : Str) : List Str := Txt.split z " "
def duePile (z : Str) : Option (List Wo) := if z = "none" then some [] else optAll ((words z).map dueW)
theorem joinL_le {S : List Nat} : ∀ {ps : List (List Nat)} {p : List Nat}, p ∈ ps → p.length ≤ (joinL S ps).length
  | [q], p, m => by
    rw [List.mem_singleton.mp m]
    exact Nat.le_refl _
  | a :: b :: r, p, m => by
    show _ ≤ (a ++ (S ++ joinL S (b :: r))).length
    rw [List.length_append, List.length_append]
    rcases List.mem_cons.mp m with rfl | m
    · omega
    · have := joinL_le (S := S) m
      omega
theorem word_len {z p : Str} (m : p ∈ words z) : p.length ≤ z.length := by
  have e := StrLaws.join_split z " "
  have e2 : (tl (Str.join " " (Txt.split z " "))).length = (tl z).length := by rw [e]
  rw [tl_join] at e2
  rw [len_tl, len_tl, ← e2]
  exact joinL_le (List.mem_map.mpr ⟨p, m, rfl⟩)
theorem words_len {z : Str} : (words z).length ≤ z.length + 2 := PyProof.Rows.split_le z " "
/-- words put together sign by sign -/
theorem words_of {z : Str} {ps : List Str} (hne : ps ≠ []) (hp : ∀ p ∈ ps, 32 ∉ tl p) (e : joinL [32] (ps.map tl) = tl z) : words z = ps := by
  have : z = Txt.join " " ps := by
    rw [join_eq]
    refine ext_tl ?_
    rw [tl_join, tl_blank, e]
  rw [this]
  exact split_join (y := Str.ofString " ") (s := 32) (S := []) tl_blank (by decide +kernel) hne hp
theorem joinL_new {S : List Nat} : ∀ {ps : List (List Nat)}, ps ≠ [] → joinL S (ps ++ [[]]) = joinL S ps ++ S
  | [p], _ => by simp [joinL]
  | a :: b :: r, _ => by
    show a ++ (S ++ joinL S ((b :: r) ++ [[]])) = a ++ (S ++ joinL S (b :: r)) ++ S
    rw [joinL_new (by simp)]
    simp
theorem joinL_more {S : List Nat} {c : Nat} {p : List Nat} : ∀ {ps : List (List Nat)}, joinL S (ps ++ [p ++ [c]]) = joinL S (ps ++ [p]) ++ [c]
  | [] => rfl
  | [a] => by simp [joinL]
  | a :: b :: r => by
    show a ++ (S ++ joinL S ((b :: r) ++ [p ++ [c]])) = a ++ (S ++ joinL S ((b :: r) ++ [p])) ++ [c]
    rw [joinL_more]
    simp
end G
namespace G
open PySem L2 TL
theorem tl_head1 {z : Str} : tl (cutS z none (some 1)) = (tl z).take 1 := by
  show (((tl z).drop (HT.sIx z.length 0 none)).take (HT.sIx z.length z.length (some ((1 : Nat) : Int)) - HT.sIx z.length 0 none)) = _
  rw [HT.sIx_nat, HT.sIx_none, List.drop_zero, Nat.sub_zero]
  by_cases h : 1 ≤ z.length
  · rw [Nat.min_eq_left h]
  · have h0 : z.length = 0 := by omega
    have : tl z = [] := List.length_eq_zero_iff.mp (by rw [← len_tl]; exact h0)
    rw [this]
    simp
theorem head_sign {z : Str} {c : Nat} {r : List Nat} (e : tl z = c :: r) : cutS z none (some 1) = (⟨#[c]⟩ : Str) := ext_tl (by rw [tl_head1, e]; rfl)
theorem head_none {z : Str} (e : tl z = []) : cutS z none (some 1) = Str.ofString "" := ext_tl (by rw [tl_head1, e]; rfl)
def dueK : List (Key × V) := [(.inr "@", .str "at"), (.inr "b", .str "box"), (.inr "g", .str "go")]
theorem dueK_new : mergeK [] dueK = dueK := by decide +kernel
theorem dueK_get {s : Str} : valV dueK (.inr s) = (marked.find? fun p => decide (p.1 = s)).map fun p => V.str p.2 := by
  have k : ∀ {a b : Str}, ((Sum.inr a : Key) = .inr b) ↔ a = b := ⟨fun h => Sum.inr.inj h, fun h => by rw [h]⟩
  unfold valV dueK marked
  simp only [List.find?_cons, List.find?_nil, k]
  by_cases h1 : Str.ofString "@" = s
  · simp [h1]
  · by_cases h2 : Str.ofString "b" = s
    · simp [h1, h2]
    · by_cases h3 : Str.ofString "g" = s
      · simp [h1, h2, h3]
      · simp [h1, h2, h3]
/-- what the law's walk has behind its first steps -/
structure DueF (z F wd : Str) (c : Nat) : Prop where
  len : F.length ≤ z.length
  hd : ∃ r, tl z = c :: r
  no : figsOk (tl F) = false → dueW z = none
  m0 : c = 45 → tl F = [48] → dueW z = none
  m1 : c = 45 → figsOk (tl F) = true → tl F ≠ [48] → dueW z = some (("num", -(dval (tl F))) : Wo)
  p1 : c ≠ 45 → figsOk (tl F) = true → dueW z = some ((wd, dval (tl F)) : Wo)
  n0 : c ≠ 45 → tl F = [48] → z ∈ ([Str.ofString "0", "@0", "b0", "g0"] : List Str)
  n1 : z ∈ ([Str.ofString "0", "@0", "b0", "g0"] : List Str) → tl F = [48] ∧ c ≠ 45
  ok : PyData.strOk wd = true
theorem zeros4 : tl (Str.ofString "0") = [48] ∧ tl (Str.ofString "@0") = [64, 48] ∧ tl (Str.ofString "b0") = [98, 48] ∧ tl (Str.ofString "g0") = [103, 48] := by decide +kernel
theorem zero_mem {z : Str} : z ∈ ([Str.ofString "0", "@0", "b0", "g0"] : List Str) ↔ tl z = [48] ∨ tl z = [64, 48] ∨ tl z = [98, 48] ∨ tl z = [103, 48] := by
  obtain ⟨a, b, c, d⟩ := zeros4
  have key : ∀ {s : Str} {l : List Nat}, tl s = l → (z = s ↔ tl z = l) := fun {s l} e => ⟨fun h => by rw [h, e], fun h => ext_tl (h.trans e.symm)⟩
  simp only [List.mem_cons, List.not_mem_nil, or_false]
  exact or_congr (key a) (or_congr (key b) (or_congr (key c) (key d)))
theorem DueF.mark {z : Str} {c : Nat} {r : List Nat} {p : Str × Str} (e : tl z = c :: r) (m : marked.find? (fun p => decide (p.1 = (⟨#[c]⟩ : Str))) = some p) : DueF z (cutS z (some 1) none) p.2 c := by
  obtain ⟨ok, nn, cc⟩ := marked_ok m
  have l1 : 1 ≤ z.length := by rw [len_tl, e]; simp
  have cut : tl (cutS z (some 1) none) = r := by rw [tl_cut1 l1, e]; rfl
  have dw := due_mark e m
  refine ⟨cutS_length _ _ _, ⟨r, e⟩, fun h => ?_, fun h => by omega, fun h => by omega, fun _ h => ?_, fun _ h => ?_, fun h => ?_, ok⟩
  · rw [cut] at h
    rw [dw, h]
    rfl
  · rw [cut] at h ⊢
    rw [dw, if_pos h]
  · rw [cut] at h
    rw [zero_mem, e, h]
    rcases cc with rfl | rfl | rfl
    · exact .inr (.inl rfl)
    · exact .inr (.inr (.inl rfl))
    · exact .inr (.inr (.inr rfl))
  · rw [zero_mem, e] at h
    rw [cut]
    rcases h with h | h | h | h
    · injection h with h1 h2
      omega
    · injection h with h1 h2
      exact ⟨h2, by omega⟩
    · injection h with h1 h2
      exact ⟨h2, by omega⟩
    · injection h with h1 h2
      exact ⟨h2, by omega⟩
theorem DueF.minus {z : Str} {r : List Nat} (e : tl z = 45 :: r) : DueF z (cutS z (some 1) none) "num" 45 := by
  have l1 : 1 ≤ z.length := by rw [len_tl, e]; simp
  have cut : tl (cutS z (some 1) none) = r := by rw [tl_cut1 l1, e]; rfl
  have dw := due_minus e
  refine ⟨cutS_length _ _ _, ⟨r, e⟩, fun h => ?_, fun _ h => ?_, fun _ h n => ?_, fun h => absurd rfl h, fun h => absurd rfl h, fun h => ?_, ok_num⟩
  · rw [cut] at h
    rw [dw, if_neg fun k => by rw [h] at k; exact absurd k.1 (by decide)]
  · rw [cut] at h
    rw [dw, if_neg fun k => k.2 h]
  · rw [cut] at h n ⊢
    rw [dw, if_pos ⟨h, n⟩]
  · rw [zero_mem, e] at h
    rcases h with h | h | h | h <;> (injection h with h1 h2; omega)
theorem DueF.plain {z : Str} {c : Nat} {r : List Nat} (e : tl z = c :: r) (m : marked.find? (fun p => decide (p.1 = (⟨#[c]⟩ : Str))) = none) (n : c ≠ 45) : DueF z z "num" c := by
  have dw := due_plain e m n
  refine ⟨Nat.le_refl _, ⟨r, e⟩, fun h => ?_, fun h => absurd h n, fun h => absurd h n, fun _ h => ?_, fun _ h => ?_, fun h => ?_, ok_num⟩
  · rw [e] at h
    rw [dw, h]
    rfl
  · rw [e] at h ⊢
    rw [dw, if_pos h]
  · rw [zero_mem]
    exact .inl h
  · refine ⟨?_, n⟩
    rw [zero_mem, e] at h
    have nm : ∀ q, marked.find? (fun p => decide (p.1 = (⟨#[c]⟩ : Str))) ≠ some q := fun q k => by rw [m] at k; cases k
    rcases h with h | h | h | h
    · rw [e]
      exact h
    · injection h with h1 h2
      subst h1
      exact absurd (show marked.find? (fun p => decide (p.1 = (⟨#[64]⟩ : Str))) = some ((Str.ofString "@", Str.ofString "at") : Str × Str) by decide +kernel) (nm _)
    · injection h with h1 h2
      subst h1
      exact absurd (show marked.find? (fun p => decide (p.1 = (⟨#[98]⟩ : Str))) = some ((Str.ofString "b", Str.ofString "box") : Str × Str) by decide +kernel) (nm _)
    · injection h with h1 h2
      subst h1
      exact absurd (show marked.find? (fun p => decide (p.1 = (⟨#[103]⟩ : Str))) = some ((Str.ofString "g", Str.ofString "go") : Str × Str) by decide +kernel) (nm _)
end G
namespace G
open PySem L2 TL
/-! ### texts of signs that there are -/
abbrev OkS (z : Str) : Prop := PyData.strOk z = true
theorem r_ixSm {H : Hp} {Q : VK} {z : Str} {i : Int} (hz : z.length ≤ sizeLine) (h0 : 0 ≤ i) (h1 : i < z.length) (h : ∀ c ∈ tl z, Q (.str ⟨#[c]⟩) H) : rIxS (.str z) (.int i) H Q := by
  obtain ⟨c, e⟩ : ∃ c, (tl z)[i.toNat]? = some c := ⟨_, List.getElem?_eq_getElem (by rw [← len_tl]; omega)⟩
  exact ⟨z, i, c, rfl, rfl, hz, by rw [show i = ((i.toNat : Nat) : Int) by omega]; exact L2.atI_nat e, h c (List.mem_of_getElem? e)⟩
theorem oks_iff {z : Str} : OkS z ↔ ∀ c ∈ tl z, c < 1114112 := by
  unfold OkS PyData.strOk
  rw [← Array.all_toList, List.all_eq_true]
  simp only [decide_eq_true_eq]
theorem oks_app {a b : Str} (h : OkS a) (k : OkS b) : OkS (a ++ b) := oks_iff.mpr fun c m => by
  rw [tl_append] at m
  exact (List.mem_append.mp m).elim (oks_iff.mp h c) (oks_iff.mp k c)
theorem oks_cut {z : Str} {a b : Option Int} (h : OkS z) : OkS (cutS z a b) := oks_iff.mpr fun c m => by
  have m : c ∈ ((tl z).drop (HT.sIx z.length 0 a)).take (HT.sIx z.length z.length b - HT.sIx z.length 0 a) := m
  exact oks_iff.mp h c (List.mem_of_mem_drop (List.mem_of_mem_take m))
theorem oks_sign {c : Nat} (h : c < 1114112) : OkS ⟨#[c]⟩ := oks_iff.mpr fun d m => by
  rw [show d = c by simpa using m]
  exact h
theorem oks_num (n : Int) : OkS (Str.ofString (toString n)) := oks_iff.mpr fun c m => by
  rw [tl_int] at m
  unfold numT at m
  have dg : ∀ d ∈ numL n.natAbs, d < 1114112 := fun d m => by
    have := numL_digits _ d m
    omega
  split at m
  · rcases List.mem_cons.mp m with rfl | m
    · decide
    · exact dg c m
  · exact dg c m
theorem oks_mark {s : Str} : OkS (markOf s) := by
  unfold markOf
  split
  · decide +kernel
  split
  · decide +kernel
  split
  · decide +kernel
  · decide +kernel
theorem oks_wt {w : Wo} : OkS (wt w) := oks_app oks_mark (oks_num _)
theorem joinL_in {S : List Nat} {c : Nat} : ∀ {ps : List (List Nat)} {p : List Nat}, p ∈ ps → c ∈ p → c ∈ joinL S ps
  | [q], p, m, k => by
    rw [List.mem_singleton.mp m] at k
    exact k
  | a :: b :: r, p, m, k => by
    show c ∈ a ++ (S ++ joinL S (b :: r))
    rw [List.mem_append, List.mem_append]
    rcases List.mem_cons.mp m with rfl | m
    · exact .inl k
    · exact .inr (.inr (joinL_in m k))
theorem joinL_of {S : List Nat} {c : Nat} : ∀ {ps : List (List Nat)}, c ∈ joinL S ps → c ∈ S ∨ ∃ p ∈ ps, c ∈ p
  | [], h => by cases h
  | [q], h => .inr ⟨q, List.mem_singleton.mpr rfl, h⟩
  | a :: b :: r, h => by
    have h : c ∈ a ++ (S ++ joinL S (b :: r)) := h
    rw [List.mem_append, List.mem_append] at h
    rcases h with h | h | h
    · exact .inr ⟨a, List.mem_cons_self, h⟩
    · exact .inl h
    · rcases joinL_of h with h | ⟨p, m, k⟩
      · exact .inl h
      · exact .inr ⟨p, List.mem_cons_of_mem _ m, k⟩
theorem oks_word {z p : Str} (h : OkS z) (m : p ∈ words z) : OkS p := oks_iff.mpr fun c k => by
  have e2 : tl (Str.join " " (Txt.split z " ")) = tl z := by rw [StrLaws.join_split z " "]
  rw [tl_join] at e2
  refine oks_iff.mp h c ?_
  rw [← e2]
  exact joinL_in (List.mem_map.mpr ⟨p, m, rfl⟩) k
theorem oks_repl1 {x y : Str} (h : OkS x) : OkS (repl1 x y "") := by
  unfold repl1
  split
  · exact h
  · refine oks_iff.mpr fun c k => oks_iff.mp h c ?_
    have e := StrLaws.glued_between_self x y 1
    rw [← e, PySem.StrLaws.glued_eq_join, tl_join]
    rw [PySem.StrLaws.glued_eq_join, tl_join] at k
    rcases joinL_of k with k | ⟨p, m, k⟩
    · cases k
    · exact joinL_in m k
end G
namespace G
open PySem L2 TL
theorem dp_strs {K : PySem.W.Frag} {H : Hp} : ∀ {zs : List Str}, DpAll K H (zs.map V.str) (zs.map PyData.str)
  | [] => .nil
  | y :: _ => .cons (.str y) dp_strs
end G
namespace G
open PySem L2 TL
theorem inV_s {z : Str} : ∀ {l : List Str}, inV (.str z) (l.map V.str) = decide (z ∈ l)
  | [] => by simp [inV]
  | a :: r => by
    have ih := inV_s (z := z) (l := r)
    unfold inV at ih ⊢
    rw [List.map_cons, List.any_cons, ih]
    show ((a == z) || decide (z ∈ r)) = _
    by_cases h : a = z
    · simp [h]
    · have h2 : ¬ z = a := fun e => h e.symm
      simp [h, h2]
theorem figs_single {c : Nat} : figsOk [c] = true → figB c = true := fun h => (figs_parts h).2.2.1 c (by simp)
end G
namespace G
open PySem L2 TL
open Dat (At)
theorem ats_some {H : Hp} : ∀ {xs : List V} {ws : List Wo}, Ats H xs (ws.map some) → Wos H xs ws
  | _, [], h => by
    cases h
    exact .nil
  | _, w :: r, h => by
    cases h with
    | cons a t => exact .cons (at_wo.mp a) (ats_some t)
end G
namespace G
open PySem L2 TL
theorem due_len {z : Str} {ws : List Wo} (h : duePile z = some ws) : ws.length ≤ z.length + 2 := by
  unfold duePile at h
  split at h
  · cases h
    exact Nat.zero_le _
  · have e := congrArg List.length (optAll_some.mp h)
    rw [List.length_map, List.length_map] at e
    have := words_len (z := z)
    omega
end G
namespace G
open PySem L2 TL
theorem r_repl1 {to : TE} {y : Str} {σ : L2.St} {H : Hp} {Q : VK} (h : to σ H fun v H1 => ∃ x, v = .str x ∧ x.length ≤ 1000000 ∧ Q (.str (repl1 x y "")) H1) : tRepl1 to y σ H Q := h
theorem sum_le {α : Type} {f : α → Nat} {k : Nat} : ∀ {l : List α}, (∀ y ∈ l, f y ≤ k) → (l.map f).sum ≤ k * l.length
  | [], _ => by simp
  | a :: r, h => by
    have h1 := h a List.mem_cons_self
    have h2 := sum_le (l := r) fun y m => h y (List.mem_cons_of_mem _ m)
    rw [List.map_cons, List.sum_cons, List.length_cons, Nat.mul_add, Nat.mul_one]
    omega
theorem join_okS {ys : List Str} (h : ∀ y ∈ ys, OkS y) : OkS (Txt.join " " ys) := oks_iff.mpr fun c m => by
  rw [join_eq, tl_join, tl_blank] at m
  rcases joinL_of m with m | ⟨p, mp, k⟩
  · rw [show c = 32 by simpa using m]
    decide
  · obtain ⟨y, my, rfl⟩ := List.mem_map.mp mp
    exact oks_iff.mp (h y my) c k
theorem join_len {ys : List Str} : (Txt.join " " ys).length ≤ (ys.map (·.length)).sum + ys.length := by
  have e : (Txt.join (Str.ofString " ") ys).length = (ys.map (·.length)).sum + (ys.length - 1) * (Str.ofString " ").length := size_glued (Str.ofString " ") ys
  have e1 : (Str.ofString " ").length = 1 := by decide +kernel
  rw [e1] at e
  omega
end G

namespace G
open PySem L2
open Dat (At enc)
/-! ### a dict of a few names -/
section
variable {H : Hp} {m : Addr} {kvs : List (Key × V)} {s : Str} {v : V} {Q : VK}
theorem r_rawget (e : H m = some (.dK kvs)) (ev : valV kvs (.inr s) = some v) (q : Q v H) : DGetG (.ref m) (.str s) H Q := ⟨m, some v |>.get rfl, rfl, by
  have := DGet.k (k := .inr s) e
  rw [ev] at this
  exact this, q⟩
theorem r_rawput {nx : Hp → Prop} (e : H m = some (.dK kvs)) (hl : kvs.length < 100000) (q : nx (upd H m (.dK (putK kvs (.inr s) v)))) : ∃ b H4, V.ref m = .ref b ∧ DPut H b (.str s) v H4 ∧ nx H4 := ⟨m, _, rfl, DPut.k (k := .inr s) e (szl hl), q⟩
end
def mK (P L X : Addr) : List (Key × V) := [(.inr "pile", .ref P), (.inr "places", .ref L), (.inr "wholes", .ref X)]
section
variable {P P' L X : Addr}
theorem k_pp : (.inr "pile" : Key) ≠ .inr "places" := by decide +kernel
theorem k_pw : (.inr "pile" : Key) ≠ .inr "wholes" := by decide +kernel
theorem k_lw : (.inr "places" : Key) ≠ .inr "wholes" := by decide +kernel
theorem mK_pile : valV (mK P L X) (.inr "pile") = some (.ref P) := valV_pos rfl
theorem mK_places : valV (mK P L X) (.inr "places") = some (.ref L) := (valV_neg k_pp).trans (valV_pos rfl)
theorem mK_wholes : valV (mK P L X) (.inr "wholes") = some (.ref X) := (valV_neg k_pw).trans ((valV_neg k_lw).trans (valV_pos rfl))
theorem mK_new : mergeK [] (mK P L X) = mK P L X := by
  simp only [mergeK, mK, List.foldl_cons, List.foldl_nil, putK, List.any_cons, List.any_nil, decide_eq_false k_pp, decide_eq_false k_pw, decide_eq_false k_lw, Bool.or_false, Bool.false_or, if_neg Bool.false_ne_true, List.nil_append, List.cons_append]
theorem mK_put : putK (mK P L X) (.inr "pile") (.ref P') = mK P' L X := by
  unfold putK mK
  rw [if_pos (by rw [List.any_cons, decide_eq_true rfl]; rfl)]
  simp only [List.map_cons, List.map_nil, if_neg k_pp.symm, if_neg k_pw.symm, if_true]
end
/-! slices and sums of lists that may change -/
section
variable {α : Type} [Dat α] {K : PySem.W.Frag} {H : Hp} {ns : List Addr} {p : Addr} {x y : V} {Q : VK}
theorem r_slO {as : List α} {lo hi : Option Int} (l : Live ns H) (h : Own ns H p as) (q : ∀ p H', H p = none → Same H H' → At (del ns H') (.ref p) (cutL as lo hi) → Q (.ref p) H') : rSlL K (.ref p) lo hi H Q := by
  obtain ⟨xs, h, r⟩ := h
  exact ⟨p, xs, rfl, .inl (.inl h), fun p hp => q p _ hp (same_new hp) (newL l hp (cut_ats r)).2⟩
end
end G

namespace G
open PySem L2 TL
theorem rows_ints_dp {K : PySem.W.Frag} {H : Hp} : ∀ ns : List Int, DpAll K H (ns.map V.int) (ns.map PyData.int)
  | [] => .nil
  | _ :: r => .cons (.int _) (rows_ints_dp r)
/-! ### rows of programs -/
def strsS (l : List Value) : List (Option Str) := l.map keyS
theorem vals_strs : ∀ {l : List Value} {xs : List Str}, strsS l = xs.map some → Vals (xs.map V.str) l
  | [], [], _ => .nil
  | [], _ :: _, h => by cases h
  | _ :: _, [], h => by cases h
  | v :: r, x :: xs, h => by
    have h1 : keyS v :: strsS r = some x :: xs.map some := h
    injection h1 with h2 h3
    obtain ⟨t, rfl⟩ := keyS_of h2
    exact .cons ⟨t, rfl⟩ (vals_strs h3)
/-- a tuple of texts at the module's top -/
def TopT (K : PySem.W.Frag) (a : Addr) (xs : List Str) : Prop := ∃ (o : Obj) (its : Array Value) (n : Nat), K.lookup a = some o ∧ o.cls = .type "tuple" ∧ o.data = .seq its n ∧ its.size ≤ sizeLine ∧ Vals (xs.map V.str) its.toList
theorem TopT.at {K : PySem.W.Frag} {H : Hp} {a : Addr} {xs : List Str} (h : TopT K a xs) : SqT K H a (xs.map V.str) := .inr h
theorem TopT.of {K : PySem.W.Frag} {a : Addr} {d : Option Addr} {its : Array Value} {n : Nat} {sl : Array (Option Value)} {xs : List Str} (l : K.lookup a = some ⟨.type "tuple", d, .seq its n, sl⟩) (h : strsS its.toList = xs.map some) (hz : xs.length ≤ 100) : TopT K a xs := by
  refine ⟨_, its, n, l, rfl, rfl, ?_, vals_strs h⟩
  have := congrArg List.length h
  unfold strsS at this
  rw [List.length_map, List.length_map, Array.length_toList] at this
  exact sz (by omega)
theorem inV_strs (s : Str) (xs : List Str) : inV (.str s) (xs.map V.str) = decide (s ∈ xs) := by
  unfold inV
  rw [List.any_map, Bool.eq_iff_iff, List.any_eq_true, decide_eq_true_eq]
  constructor
  · rintro ⟨y, my, e⟩
    have : y = s := by simpa [eqV] using e
    exact this ▸ my
  · intro m
    exact ⟨s, m, by simp [eqV]⟩
def reaching : List Str := ["pick", "drop", "lift", "go", "back"]
def leading : List Str := ["keep", "call", "jump", "if"]
def bare : List Str := ["add", "less", "box", "get", "set", "tell", "sweep"]
abbrev Row := Str × Option Int
def rowV (r : Row) : List V := .str r.1 :: (match r.2 with | none => [] | some n => [.int n])
def RowAt (H : Hp) (v : V) (r : Row) : Prop := ∃ a, v = .ref a ∧ H a = some (.tup (rowV r))
theorem RowAt.same {H H' : Hp} {v : V} {r : Row} (s : Same H H') (h : RowAt H v r) : RowAt H' v r := by
  obtain ⟨a, e, h⟩ := h
  exact ⟨a, e, s _ _ h⟩
inductive GoodRow (many : Int) : Row → Prop
  | bare {s : Str} (h : s ∈ bare) : GoodRow many (s, none)
  | put {n : Int} (l : -(10 ^ 60) < n) (h : n < 10 ^ 60) : GoodRow many ("put", some n)
  | reach {s : Str} {n : Int} (h : s ∈ reaching) (l : 0 ≤ n) (u : n < 10 ^ 60) : GoodRow many (s, some n)
  | lead {s : Str} {n : Int} (h : s ∈ leading) (l : 0 ≤ n) (u : n ≤ many) (m : many ≤ 1000) : GoodRow many (s, some n)
/-! rows as texts -/
def parts (r : Row) : List Str := r.1 :: (match r.2 with | none => [] | some n => [Str.ofString (toString n)])
def rowText (r : Row) : Str := Txt.join " " (parts r)
def progText (rs : List Row) : Str := Txt.join "; " (rs.map rowText)
theorem tl_part : tl (Str.ofString "; ") = [59, 32] := by decide +kernel
/-- small letters -/
def Small (s : Str) : Prop := 1 ≤ s.length ∧ s.length ≤ 10 ∧ ∀ c ∈ tl s, 97 ≤ c ∧ c ≤ 122
def allWords : List Str := "put" :: (reaching ++ leading ++ bare)
theorem small_all : ∀ s ∈ allWords, (decide (1 ≤ s.length) && decide (s.length ≤ 10) && (tl s).all fun c => decide (97 ≤ c) && decide (c ≤ 122)) = true := by decide +kernel
theorem small_of {s : Str} (h : s ∈ allWords) : Small s := by
  have := small_all s h
  simp only [Bool.and_eq_true, decide_eq_true_eq, List.all_eq_true] at this
  exact ⟨this.1.1, this.1.2, this.2⟩
theorem GoodRow.small {m : Int} {r : Row} (g : GoodRow m r) : Small r.1 := by
  cases g with
  | bare h => exact small_of (List.mem_cons_of_mem _ (List.mem_append_right _ h))
  | put l h => exact small_of List.mem_cons_self
  | reach h l u => exact small_of (List.mem_cons_of_mem _ (List.mem_append_left _ (List.mem_append_left _ h)))
  | lead h l u m => exact small_of (List.mem_cons_of_mem _ (List.mem_append_left _ (List.mem_append_right _ h)))
theorem GoodRow.num {m : Int} {r : Row} (g : GoodRow m r) {n : Int} (e : r.2 = some n) : -(10 ^ 60) < n ∧ n < 10 ^ 60 := by
  have p60 : (1000 : Int) < 10 ^ 60 := by decide +kernel
  cases g with
  | bare h => cases e
  | put l h =>
    cases e
    exact ⟨l, h⟩
  | reach h l u =>
    cases e
    exact ⟨by omega, u⟩
  | lead h l u m =>
    cases e
    exact ⟨by omega, by omega⟩
theorem numT_signs {n : Int} {c : Nat} (h : c ∈ numT n) : c = 45 ∨ (48 ≤ c ∧ c ≤ 57) := by
  unfold numT at h
  split at h
  · rcases List.mem_cons.mp h with e | m
    · exact .inl e
    · exact .inr (numL_digits _ c m)
  · exact .inr (numL_digits _ c h)
/-- the signs of a row's parts: no blank, no ; -/
theorem part_signs {m : Int} {r : Row} (g : GoodRow m r) : ∀ p ∈ parts r, 1 ≤ p.length ∧ p.length ≤ 61 ∧ ∀ c ∈ tl p, c ≠ 32 ∧ c ≠ 59 := by
  intro p mp
  have s := g.small
  rcases List.mem_cons.mp mp with e | mp
  · rw [e]
    exact ⟨s.1, by have := s.2.1; omega, fun c mc => by have := s.2.2 c mc; omega⟩
  · obtain ⟨w, o⟩ := r
    cases o with
    | none => cases mp
    | some n =>
      have b := g.num rfl
      rw [List.mem_singleton.mp mp]
      refine ⟨?_, num_len b.1 b.2, fun c mc => ?_⟩
      · rw [len_tl, tl_int]
        unfold numT
        have := numL_ne n.natAbs
        split
        · simp
        · exact List.length_pos_iff.mpr this
      · rw [tl_int] at mc
        have := numT_signs mc
        omega
theorem parts_ne (r : Row) : parts r ≠ [] := by
  unfold parts
  simp
theorem row_split {m : Int} {r : Row} (g : GoodRow m r) : Txt.split (rowText r) " " = parts r :=
  split_join (y := Str.ofString " ") (s := 32) (S := []) tl_blank (by decide +kernel) (parts_ne r) fun p mp hc => ((part_signs g p mp).2.2 32 hc).1 rfl
theorem joinL_mem {S : List Nat} {c : Nat} : ∀ {ps : List (List Nat)}, c ∈ joinL S ps → c ∈ S ∨ ∃ p ∈ ps, c ∈ p
  | [], h => by cases h
  | [p], h => .inr ⟨p, List.mem_cons_self, h⟩
  | p :: q :: r, h => by
    have h : c ∈ p ++ (S ++ joinL S (q :: r)) := h
    rcases List.mem_append.mp h with h | h
    · exact .inr ⟨p, List.mem_cons_self, h⟩
    rcases List.mem_append.mp h with h | h
    · exact .inl h
    · rcases joinL_mem h with h | ⟨x, mx, h⟩
      · exact .inl h
      · exact .inr ⟨x, List.mem_cons_of_mem _ mx, h⟩
theorem tl_row (r : Row) : tl (rowText r) = joinL [32] ((parts r).map tl) := by
  unfold rowText
  rw [join_eq, tl_join, tl_blank]
theorem row_signs {m : Int} {r : Row} (g : GoodRow m r) : 59 ∉ tl (rowText r) := by
  intro h
  rw [tl_row] at h
  rcases joinL_mem h with h | ⟨p, mp, h⟩
  · cases List.mem_singleton.mp h
  · obtain ⟨q, mq, rfl⟩ := List.mem_map.mp mp
    exact ((part_signs g q mq).2.2 59 h).2 rfl
theorem prog_split {m : Int} {rs : List Row} (g : ∀ r ∈ rs, GoodRow m r) (h : rs ≠ []) : Txt.split (progText rs) "; " = rs.map rowText :=
  split_join (y := Str.ofString "; ") (s := 59) (S := [32]) tl_part (by decide +kernel) (by simpa using h) fun p mp => by
    obtain ⟨r, mr, rfl⟩ := List.mem_map.mp mp
    exact row_signs (g r mr)
theorem joinS_len {S : List Nat} {k : Nat} : ∀ {ps : List (List Nat)}, (∀ p ∈ ps, p.length ≤ k) → (joinL S ps).length ≤ (k + S.length) * ps.length
  | [], _ => Nat.zero_le _
  | [p], h => by
    have := h p List.mem_cons_self
    show p.length ≤ _
    simp
    omega
  | p :: q :: r, h => by
    have h1 := h p List.mem_cons_self
    have h2 := joinS_len (S := S) (ps := q :: r) fun x m => h x (List.mem_cons_of_mem _ m)
    show (p ++ (S ++ joinL S (q :: r))).length ≤ (k + S.length) * (q :: r).length.succ
    rw [List.length_append, List.length_append, Nat.mul_succ]
    omega
theorem row_len {m : Int} {r : Row} (g : GoodRow m r) : (rowText r).length ≤ 124 := by
  rw [len_tl, tl_row]
  have := joinS_len (S := [32]) (k := 61) (ps := (parts r).map tl) fun p mp => by
    obtain ⟨q, mq, rfl⟩ := List.mem_map.mp mp
    have := (part_signs g q mq).2.1
    rw [len_tl] at this
    exact this
  have l : (parts r).length ≤ 2 := by
    unfold parts
    obtain ⟨w, o⟩ := r
    cases o <;> simp
  rw [List.length_map] at this
  simp only [List.length_singleton] at this
  omega
theorem tl_prog (rs : List Row) : tl (progText rs) = joinL [59, 32] (rs.map fun r => tl (rowText r)) := by
  unfold progText
  rw [join_eq, tl_join, tl_part, List.map_map]
  rfl
theorem prog_len {m : Int} {rs : List Row} (g : ∀ r ∈ rs, GoodRow m r) (l : rs.length ≤ 100) : (progText rs).length ≤ 12600 := by
  rw [len_tl, tl_prog]
  have := joinS_len (S := [59, 32]) (k := 124) (ps := rs.map fun r => tl (rowText r)) fun p mp => by
    obtain ⟨r, mr, rfl⟩ := List.mem_map.mp mp
    have := row_len (g r mr)
    rw [len_tl] at this
    exact this
  rw [List.length_map] at this
  simp only [List.length_cons, List.length_nil] at this
  omega
theorem prog_nil {rs : List Row} {m : Int} (g : ∀ r ∈ rs, GoodRow m r) : progText rs = "" ↔ rs = [] := by
  constructor
  · intro h
    cases rs with
    | nil => rfl
    | cons r q =>
      exfalso
      have s := (g r List.mem_cons_self).small.1
      have e := tl_nil.mpr h
      rw [tl_prog] at e
      have l : 1 ≤ (tl (rowText r)).length := by
        rw [tl_row]
        have e1 : (parts r).map tl = tl r.1 :: (match r.2 with | none => [] | some n => [Str.ofString (toString n)]).map tl := rfl
        rw [e1]
        rw [len_tl] at s
        cases (match r.2 with | none => [] | some n => [Str.ofString (toString n)]).map tl with
        | nil => exact s
        | cons a b =>
          show 1 ≤ (tl r.1 ++ ([32] ++ joinL [32] (a :: b))).length
          rw [List.length_append]
          omega
      cases q with
      | nil =>
        have e : tl (rowText r) = [] := e
        rw [e] at l
        exact absurd l (by decide)
      | cons r2 q =>
        have e : tl (rowText r) ++ ([59, 32] ++ joinL [59, 32] ((r2 :: q).map fun r => tl (rowText r))) = [] := e
        rw [List.append_eq_nil_iff] at e
        rw [e.1] at l
        exact absurd l (by decide)
  · intro h
    subst h
    rfl
theorem row_item {r : Row} {k : Nat} {x : V} (h : (rowV r)[k]? = some x) : ∃ p, (parts r)[k]? = some p ∧ (x = .str p ∨ ∃ n, x = .int n ∧ p = Str.ofString (toString n) ∧ r.2 = some n) := by
  obtain ⟨w, o⟩ := r
  cases o with
  | none =>
    cases k with
    | zero =>
      cases h
      exact ⟨w, rfl, .inl rfl⟩
    | succ k => cases h
  | some n =>
    cases k with
    | zero =>
      cases h
      exact ⟨w, rfl, .inl rfl⟩
    | succ k =>
      cases k with
      | zero =>
        cases h
        exact ⟨_, rfl, .inr ⟨n, rfl, rfl, rfl⟩⟩
      | succ k => cases h
theorem rowV_len (r : Row) : (rowV r).length = (parts r).length := by
  obtain ⟨w, o⟩ := r
  cases o <;> rfl
theorem parts_le (r : Row) : (parts r).length ≤ 2 := by
  obtain ⟨w, o⟩ := r
  cases o <;> simp [parts]
theorem wt_num (n : Int) : wt ("num", n) = Str.ofString (toString n) := by
  refine ext_tl ?_
  rw [tl_wt, tl_int]
  have : tl (markOf (Str.ofString "num")) = [] := by decide +kernel
  show tl (markOf (Str.ofString "num")) ++ _ = _
  rw [this]
  rfl
theorem row_text1 (s : Str) : rowText (s, none) = s := by
  refine ext_tl ?_
  rw [tl_row]
  rfl
theorem row_text2 (s : Str) (n : Int) : rowText (s, some n) = s ++ " " ++ Str.ofString (toString n) := by
  refine ext_tl ?_
  rw [tl_row, tl_append, tl_append, tl_blank, List.append_assoc]
  rfl
def nums (r : Row) : List Int := match r.2 with | none => [] | some n => [n]
theorem cut1 (xs : List V) : cutV xs (some 1) none = xs.drop 1 := by
  unfold cutV
  rw [HT.sIx_none, show (1 : Int) = ((1 : Nat) : Int) from rfl, HT.sIx_nat]
  by_cases h : 1 ≤ xs.length
  · rw [Nat.min_eq_left h]
    exact List.take_of_length_le (by rw [List.length_drop]; exact Nat.le_refl _)
  · have : xs = [] := List.eq_nil_of_length_eq_zero (by omega)
    subst this
    rfl
theorem parts_tail (r : Row) : ((parts r).map V.str).drop 1 = ((nums r).map fun n => wt ("num", n)).map V.str := by
  obtain ⟨w, o⟩ := r
  cases o with
  | none => rfl
  | some n =>
    show [V.str (Str.ofString (toString n))] = [V.str (wt ("num", n))]
    rw [wt_num]
theorem rowV_nums (r : Row) : rowV r = .str r.1 :: (nums r).map V.int := by
  obtain ⟨w, o⟩ := r
  cases o <;> rfl
theorem good_num {n : Int} (l : -(10 ^ 60) < n) (u : n < 10 ^ 60) : Good ("num", n) := ⟨.inl rfl, .inl rfl, l, u⟩
/-! rows as data -/
def rowd (r : Row) : PyData := .tuple (.str r.1 :: (nums r).map PyData.int)
theorem RowAt.dp {K : PySem.W.Frag} {H : Hp} {v : V} {r : Row} (h : RowAt H v r) : Dp K H v (rowd r) := by
  obtain ⟨a, rfl, e⟩ := h
  rw [rowV_nums] at e
  exact .tup (.inl (.inl e)) (.cons (.str _) (rows_ints_dp _))
theorem rows_dp {K : PySem.W.Frag} {H : Hp} : ∀ {xs : List V} {rs : List Row}, Paired (RowAt H) xs rs → DpAll K H xs (rs.map rowd)
  | _, _, .nil => .nil
  | _, _, .cons a b => .cons a.dp (rows_dp b)
theorem small_ok {s : Str} (h : Small s) : PyData.strOk s = true := by
  unfold PyData.strOk
  rw [← Array.all_toList, List.all_eq_true]
  intro c mc
  have := h.2.2 c mc
  exact decide_eq_true (by omega)
theorem row_ok {m : Int} {r : Row} (g : GoodRow m r) : Ok 2 (rowd r) := .tuple (.cons (.str (small_ok g.small)) (.map fun n _ => .int n))
end G

namespace G
open PySem L2 TL
/-! ### any text read as a program -/
abbrev Rw := Str × List Int
def rwV (r : Rw) : List V := .str r.1 :: r.2.map V.int
def RwAt (H : Hp) (v : V) (r : Rw) : Prop := ∃ a, v = .ref a ∧ H a = some (.tup (rwV r))
theorem RwAt.same {H H' : Hp} {v : V} {r : Rw} (s : Same H H') (h : RwAt H v r) : RwAt H' v r := by
  obtain ⟨a, e, ea⟩ := h
  exact ⟨a, e, s _ _ ea⟩
def rwOk (many : Int) (r : Rw) : Bool := match r.2 with
  | [] => decide (r.1 ∈ bare)
  | [n] => if r.1 = "put" then true else if r.1 ∈ reaching then decide (0 ≤ n) else decide (r.1 ∈ leading) && (decide (0 ≤ n) && decide (n ≤ many))
  | _ => false
def numOf (z : Str) : Option Int := match dueW z with
  | some w => if w.1 = "num" then some w.2 else none
  | none => none
def rowOf (p : Str) : Option Rw := match words p with
  | [] => none
  | w :: ws => (optAll (ws.map numOf)).map fun ns => (w, ns)
def pieces (z : Str) : List Str := Txt.split z "; "
def progOf (z : Str) : Option (List Rw) := if z = "" then some [] else optAll ((pieces z).map rowOf)
def dueProg (z : Str) : Option (List Rw) := match progOf z with
  | some rs => if rs.all (rwOk (rs.length : Int)) = true then some rs else none
  | none => none
theorem words_ne {z : Str} : ∃ w ws, words z = w :: ws := by
  have : 1 ≤ (words z).length := PyProof.Rows.split_pos z " "
  cases e : words z with
  | nil => rw [e] at this; simp at this
  | cons w ws => exact ⟨w, ws, rfl⟩
theorem row_cons {p w : Str} {ws : List Str} (e : words p = w :: ws) : rowOf p = (optAll (ws.map numOf)).map fun ns => (w, ns) := by
  unfold rowOf
  rw [e]
theorem piece_len {z p : Str} (m : p ∈ pieces z) : p.length ≤ z.length := by
  have e := StrLaws.join_split z "; "
  have e2 : (tl (Str.join "; " (Txt.split z "; "))).length = (tl z).length := by rw [e]
  rw [tl_join] at e2
  rw [len_tl, len_tl, ← e2]
  exact joinL_le (List.mem_map.mpr ⟨p, m, rfl⟩)
theorem pieces_len {z : Str} : (pieces z).length ≤ z.length + 2 := PyProof.Rows.split_le z "; "
end G
namespace G
open PySem L2 TL
structure NumF (z F : Str) (c : Nat) : Prop where
  len : F.length ≤ z.length
  hd : ∃ r, tl z = c :: r
  no : figsOk (tl F) = false → numOf z = none
  n0 : z ≠ Str.ofString "0" → (∃ r, tl F = 48 :: r) → numOf z = none
  y0 : z = Str.ofString "0" → tl F = [48] ∧ c ≠ 45
  m1 : c = 45 → figsOk (tl F) = true → (∀ r, tl F ≠ 48 :: r) → numOf z = some (-(dval (tl F)))
  p1 : c ≠ 45 → figsOk (tl F) = true → numOf z = some (dval (tl F))
theorem num_nil : numOf "" = none := rfl
theorem NumF.minus {z : Str} {r : List Nat} (e : tl z = 45 :: r) : NumF z (cutS z (some 1) none) 45 := by
  have l1 : 1 ≤ z.length := by rw [len_tl, e]; simp
  have cut : tl (cutS z (some 1) none) = r := by rw [tl_cut1 l1, e]; rfl
  have dw := due_minus e
  have nn : ∀ h : (figsOk r = true ∧ r ≠ [48]), numOf z = some (-(dval r)) := fun h => by
    unfold numOf
    rw [dw, if_pos h]
    rfl
  have nb : ¬ (figsOk r = true ∧ r ≠ [48]) → numOf z = none := fun h => by
    unfold numOf
    rw [dw, if_neg h]
  refine ⟨cutS_length _ _ _, ⟨r, e⟩, fun h => ?_, fun _ ⟨r', h⟩ => ?_, fun h => ?_, fun _ h n => ?_, fun h => absurd rfl h⟩
  · rw [cut] at h
    exact nb fun k => by rw [h] at k; exact absurd k.1 (by decide)
  · rw [cut] at h
    refine nb fun k => ?_
    by_cases r0 : r' = []
    · exact k.2 (by rw [h, r0])
    · rw [h, figs_nought r0] at k
      exact absurd k.1 (by decide)
  · rw [h, zeros4.1] at e
    injection e with e1
    omega
  · rw [cut] at h n ⊢
    exact nn ⟨h, n []⟩
theorem NumF.plain {z : Str} {c : Nat} {r : List Nat} (e : tl z = c :: r) (n : c ≠ 45) : NumF z z c := by
  have key : numOf z = if figsOk (tl z) = true then some (dval (tl z)) else none := by
    cases m : marked.find? (fun p => decide (p.1 = (⟨#[c]⟩ : Str))) with
    | some p =>
      obtain ⟨_, nn, cc⟩ := marked_ok m
      have f : figsOk (tl z) = false := by
        rw [e]
        refine figs_bad (c := c) List.mem_cons_self ?_
        unfold figB
        rcases cc with rfl | rfl | rfl <;> decide
      rw [f]
      unfold numOf
      rw [due_mark e m]
      by_cases h : figsOk r = true
      · rw [if_pos h]
        exact if_neg nn
      · rw [if_neg h]
        rfl
    | none =>
      unfold numOf
      rw [due_plain e m n, ← e]
      by_cases h : figsOk (tl z) = true
      · rw [if_pos h, if_pos h]
        rfl
      · rw [if_neg h, if_neg h]
  refine ⟨Nat.le_refl _, ⟨r, e⟩, fun h => by rw [key, h]; rfl, fun hz ⟨r', h⟩ => ?_, fun h => ⟨by rw [h]; exact zeros4.1, n⟩, fun h => absurd h n, fun _ h => by rw [key, if_pos h]⟩
  by_cases r0 : r' = []
  · exact absurd (ext_tl (by rw [h, r0, zeros4.1])) hz
  · rw [key, h, figs_nought r0]
    rfl
def rwd (r : Rw) : PyData := .tuple (.str r.1 :: r.2.map PyData.int)
theorem RwAt.dp {K : PySem.W.Frag} {H : Hp} {v : V} {r : Rw} (h : RwAt H v r) : Dp K H v (rwd r) := by
  obtain ⟨a, rfl, ea⟩ := h
  exact .tup (.inl (.inl ea)) (.cons (.str _) (rows_ints_dp _))
theorem rws_dp {K : PySem.W.Frag} {H : Hp} : ∀ {xs : List V} {rs : List Rw}, Paired (RwAt H) xs rs → DpAll K H xs (rs.map rwd)
  | _, _, .nil => .nil
  | _, _, .cons h t => .cons h.dp (rws_dp t)
theorem rw_ok {r : Rw} (h : OkS r.1) : Ok 2 (rwd r) := Ok.tuple (.cons (.str h) (.map fun n _ => .int n))
end G
namespace G
open PySem L2 TL
open Dat (At)
theorem ats_of_bl {H : Hp} : ∀ {bs : List Bool}, Ats H (bs.map V.bl) bs
  | [] => .nil
  | _ :: _ => .cons rfl ats_of_bl
def oV : Option Int → V
  | none => .non
  | some n => .int n
def oD : Option Int → PyData
  | none => .none
  | some n => .int n
theorem oV_dp {K : PySem.W.Frag} {H : Hp} : ∀ {os : List (Option Int)}, DpAll K H (os.map oV) (os.map oD)
  | [] => .nil
  | none :: _ => .cons .non oV_dp
  | some n :: _ => .cons (.int n) oV_dp
theorem oD_ok : ∀ o : Option Int, Ok 0 (oD o)
  | none => ⟨rfl, by simp [oD, PyData.depth]⟩
  | some n => .int n
theorem oD_none : ∀ {os : List (Option Int)}, ((os.map oD).any fun z => PyData.eqv z .none) = decide (none ∈ os)
  | [] => by simp
  | none :: r => by
    rw [List.map_cons, List.any_cons]
    have : PyData.eqv (oD none) .none = true := rfl
    rw [this]
    simp
  | some n :: r => by
    rw [List.map_cons, List.any_cons, oD_none]
    have : PyData.eqv (oD (some n)) .none = false := rfl
    rw [this]
    simp
theorem oV_some {ns : List Int} : (ns.map some).map oV = ns.map V.int := by
  rw [List.map_map]
  rfl
theorem due_long {z p w : Str} {ws : List Str} (m : p ∈ pieces z) (hz : z ≠ "") (e : words p = w :: ws) (l : 1 < ws.length) : dueProg z = none := by
  have pe : progOf z = optAll ((pieces z).map rowOf) := if_neg hz
  unfold dueProg
  cases h : progOf z with
  | none => rfl
  | some rs =>
    rw [pe] at h
    have h2 := optAll_some.mp h
    have mr : rowOf p ∈ rs.map some := by
      rw [← h2]
      exact List.mem_map.mpr ⟨p, m, rfl⟩
    obtain ⟨r, mr, er⟩ := List.mem_map.mp mr
    have ro := row_cons e
    rw [← er] at ro
    obtain ⟨ns, en, rfl⟩ := Option.map_eq_some_iff.mp ro.symm
    have ln := congrArg List.length (optAll_some.mp en)
    rw [List.length_map, List.length_map] at ln
    have bad : rwOk (rs.length : Int) (w, ns) = false := by
      match ns, ln with
      | [], ln => exact absurd l (by rw [ln]; decide)
      | [_], ln => exact absurd l (by rw [ln]; simp)
      | _ :: _ :: _, _ => rfl
    have : rs.all (rwOk (rs.length : Int)) = false := List.all_eq_false.mpr ⟨_, mr, by rw [bad]; decide⟩
    show (if rs.all (rwOk (rs.length : Int)) = true then some rs else none) = none
    rw [this]
    rfl
end G
namespace G
open PySem L2 TL
theorem join_ok2 {y : Str} {ys : List Str} (hy : OkS y) (h : ∀ x ∈ ys, OkS x) : OkS (Txt.join y ys) := oks_iff.mpr fun c m => by
  rw [join_eq, tl_join] at m
  rcases joinL_of m with m | ⟨p, mp, k⟩
  · exact oks_iff.mp hy c m
  · obtain ⟨x, mx, rfl⟩ := List.mem_map.mp mp
    exact oks_iff.mp (h x mx) c k
theorem join_len2 {y : Str} {ys : List Str} : (Txt.join y ys).length ≤ (ys.map (·.length)).sum + ys.length * y.length := by
  have e : (Txt.join y ys).length = (ys.map (·.length)).sum + (ys.length - 1) * y.length := size_glued y ys
  have := Nat.mul_le_mul_right y.length (Nat.sub_le ys.length 1)
  omega
/-- the parts of a text, put together, are no longer than it -/
theorem parts_sum {y z : Str} : ((Txt.split z y).map (·.length)).sum ≤ z.length := by
  have e := StrLaws.join_split z y
  have e2 : (Txt.join y (Txt.split z y)).length = z.length := by rw [join_eq, e]
  have e3 : (Txt.join y (Txt.split z y)).length = ((Txt.split z y).map (·.length)).sum + ((Txt.split z y).length - 1) * y.length := size_glued y _
  omega
theorem part_oks {y z p : Str} (h : OkS z) (m : p ∈ Txt.split z y) : OkS p := oks_iff.mpr fun c k => by
  have e2 : tl (Str.join y (Txt.split z y)) = tl z := by rw [StrLaws.join_split z y]
  rw [tl_join] at e2
  refine oks_iff.mp h c ?_
  rw [← e2]
  exact joinL_in (List.mem_map.mpr ⟨p, m, rfl⟩) k
theorem sum_take {l : List Str} {n : Nat} : ((l.take n).map (·.length)).sum ≤ (l.map (·.length)).sum := by
  have e := congrArg (fun l => (l.map (·.length)).sum) (List.take_append_drop n l)
  simp only [List.map_append, List.sum_append] at e
  omega
theorem sum_drop {l : List Str} {n : Nat} : ((l.drop n).map (·.length)).sum ≤ (l.map (·.length)).sum := by
  have e := congrArg (fun l => (l.map (·.length)).sum) (List.take_append_drop n l)
  simp only [List.map_append, List.sum_append] at e
  omega
end G
namespace G
open PySem L2 TL
def FairRow (r : Row) : Prop := OkS r.1 ∧ r.1.length ≤ 10 ∧ ∀ n, r.2 = some n → -(10 ^ 60) < n ∧ n < 10 ^ 60
theorem fair_of {m : Int} {r : Row} (g : GoodRow m r) : FairRow r := ⟨small_ok g.small, g.small.2.1, fun _ e => g.num e⟩
end G
namespace G
open PySem L2 TL
theorem cutV_strs (l : List Str) (lo hi : Option Int) : ∃ l' : List Str, cutV (l.map V.str) lo hi = l'.map V.str ∧ (∀ y ∈ l', y ∈ l) ∧ (l'.map (·.length)).sum ≤ (l.map (·.length)).sum ∧ l'.length ≤ l.length := by
  refine ⟨(l.drop (HT.sIx (l.map V.str).length 0 lo)).take (HT.sIx (l.map V.str).length (l.map V.str).length hi - HT.sIx (l.map V.str).length 0 lo), ?_, fun y m => List.mem_of_mem_drop (List.mem_of_mem_take m), Nat.le_trans sum_take sum_drop, ?_⟩
  · rw [List.map_take, List.map_drop]
    rfl
  · rw [List.length_take, List.length_drop]
    omega
end G
namespace G
open PySem L2 TL
theorem due_oks {z : Str} {rs : List Rw} (h : dueProg z = some rs) (oz : OkS z) : ∀ r ∈ rs, OkS r.1 := by
  intro r m
  unfold dueProg at h
  cases hp : progOf z with
  | none => rw [hp] at h; cases h
  | some qs =>
    rw [hp] at h
    have h : (if qs.all (rwOk (qs.length : Int)) = true then some qs else none) = some rs := h
    split at h
    · cases h
      unfold progOf at hp
      split at hp
      · cases hp
        cases m
      · have e := optAll_some.mp hp
        have mr : some r ∈ (pieces z).map rowOf := by
          rw [e]
          exact List.mem_map.mpr ⟨r, m, rfl⟩
        obtain ⟨pa, mpa, ro⟩ := List.mem_map.mp mr
        obtain ⟨w, ws, ew⟩ := words_ne (z := pa)
        rw [row_cons ew] at ro
        obtain ⟨ns, _, rfl⟩ := Option.map_eq_some_iff.mp ro
        exact oks_word (part_oks oz mpa) (by rw [ew]; exact List.mem_cons_self)
    · cases h
end G

namespace Q

open PySem L2 G TL
open G.Dat (At)
def top (i : Nat) : Stmt := PySem.Challenge.pw_manygoings_k57_texts_of_no_program.main.body.getD i (.Pass ⟨0, 0, 0, 0⟩)
section
variable {P : Program} {w : World} {K : PySem.W.Frag} {mg : Str → Option Value} {base : Heap}

/-! ### is_whole -/
abbrev s_is_whole : Stmt := top 11
theorem sc_is_whole : FnScope ["thing"] ["thing"] (defScope s_is_whole) := ⟨rfl, rfl, rfl, by decide +kernel, rfl, by decide +kernel, by decide +kernel⟩
def sp_is_whole (K : PySem.W.Frag) : Sp := fun vs H Q _ => ∃ (v : V) (T : String), vs = [v] ∧ TyX K H v (.type T) ∧ T ∈ kinds7 ∧ Q (.bl (T == "int")) H
theorem ok_is_whole {fa : Addr} {fd : FuncData} (F : Fun K "is_whole" "is_whole" s_is_whole fa fd) (TX : Tx mg) :
    FnOk P w K mg base CX0 1 fa fd ["thing"] (sp_is_whole K) := by
  refine F.ok sc_is_whole (fun vs H Q E h => ?_) (fun cdv A outer s H vs Q E hr h => ?_)
  · obtain ⟨v, T, rfl, hT, hm, q⟩ := h
    rfl
  · obtain ⟨v, T, rfl, hT, hm, q⟩ := h
    have hu := hu_of hr
    have hu64 := hr.units
    have hu65 := hu65_of hr
    rw [← whole_of T hm] at q
    refine ⟨_, (pss_one (ps_ret (pe_and (pe_callB call_isi (by rfl) TX.n_isinstance (by decide +kernel) (pa_cons (pv 0) (pa_cons (pe_bltn (v := .ty "int") (by rfl) TX.n_int (by decide +kernel) rfl) pa_nil))) (pe_one (pe_not (pe_callB call_isi (by rfl) TX.n_isinstance (by decide +kernel) (pa_cons (pv 0) (pa_cons (pe_bltn (v := .ty "bool") (by rfl) TX.n_bool (by decide +kernel) rfl) pa_nil)))))))), ?_⟩
    refine r_begin (show L2.start _ _ = [some _] from rfl) ?_
    try dsimp only [cxOf]
    walk_at "rr"
    refine r_isi hT (kit_int T hm) ?_
    walk_at "rr"
    refine r_ite (fun hc => ?_) (fun hc => ?_)
    · walk_at "rr"
      refine r_isi hT (kit_bool T hm) ?_
      walk_at "rr"
      rw [hc, Bool.true_and] at q
      exact q
    · rw [hc, Bool.false_and] at q
      exact q
/-! ### read_figures -/
abbrev s_read_figures : Stmt := top 12
theorem sc_read_figures : FnScope ["text", "sign"] ["text"] (defScope s_read_figures) := ⟨rfl, rfl, rfl, by decide +kernel, rfl, by decide +kernel, by decide +kernel⟩
def sp_read_figures (_ : PySem.W.Frag) (cN : Addr) : Sp := fun vs H Q E => ∃ (z : Str), vs = [.str z] ∧ z.length ≤ 100000 ∧ (figsOk (tl z) = false → E (.ref cN) none H) ∧ (figsOk (tl z) = true → Q (.int (dval (tl z))) H)
theorem ok_read_figures {fa : Addr} {fd : FuncData} (F : Fun K "read_figures" "read_figures" s_read_figures fa fd) (TX : Tx mg)
    {cNoText : Addr}
    (X_NoText : XOk K mg "NoText" cNoText)
    {tFi tMo : Tok}
    (g_FIGURES : mg "FIGURES" = some (.str "0123456789" tFi))
    (g_MOST : mg "MOST" = some (.int 60 tMo)) :
    FnOk P w K mg base (L2.CX P w) 1 fa fd ["text"] (sp_read_figures K cNoText) := by
  refine F.okX sc_read_figures (fun vs H Q E h => ?_) (fun cdv A outer s H vs Q E hr h => ?_)
  · obtain ⟨z, rfl, hz, qx, q⟩ := h
    rfl
  · obtain ⟨z, rfl, hz, qx, q⟩ := h
    have hu := hu_of hr
    have hu64 := hr.units
    have hu65 := hu65_of hr
    refine ⟨_, (pss_cons (ps_if (PW.pt (pw_or (pt_not (pt_val (pe_callB call_isi (by rfl) TX.n_isinstance (by decide +kernel) (pa_cons (pv 0) (pa_cons (pe_bltn (v := .ty "str") (by rfl) TX.n_str (by decide +kernel) rfl) pa_nil))))) (pw_or (pt_cmpR op_eq (pv 0) pe_str (nomark _)) (pw_or1 (pt_cmpR op_gt (pe_callB call_len (by rfl) TX.n_len (by decide +kernel) (pa_cons (pv 0) pa_nil)) (pe_glob (v := .int _) (by rfl) g_MOST ⟨_, rfl⟩) (nomark _)))))) (pss_one (ps_raiseO rfl (takes_of rfl rfl rfl rfl) X_NoText (by rfl))) pss_nil)
  (pss_cons (ps_for (passes_of rfl) rfl (pi_str (pv 0)) (pg_name (i := 1) sc_read_figures.nd rfl (Or.inl rfl))
  (pss_one (ps_if (pt_cmpR op_notIn_sign (pv 1) (pe_glob (v := .str _) (by rfl) g_FIGURES ⟨_, rfl⟩) rfl) (pss_one (ps_raiseO rfl (takes_of rfl rfl rfl rfl) X_NoText (by rfl))) pss_nil)))
  (pss_cons (ps_if (PW.pt (pw_and (pt_cmpR op_eq (pe_ix ix_str (pv 0) pe_int (fun _ _ => rfl)) pe_str (nomark _)) (pw_and1 (pt_cmpR op_gt (pe_callB call_len (by rfl) TX.n_len (by decide +kernel) (pa_cons (pv 0) pa_nil)) pe_int (nomark _))))) (pss_one (ps_raiseO rfl (takes_of rfl rfl rfl rfl) X_NoText (by rfl))) pss_nil)
  (pss_one (ps_ret (pe_callTy call_int_str (by rfl) TX.n_int (by decide +kernel) (pa_cons (pv 0) pa_nil))))))), ?_⟩
    refine r_begin (show L2.start _ _ = [some _, none] from rfl) ?_
    try dsimp only [cxOf]
    walk_at "rr"
    (try refine r_isi ty_str (kit_str _ (by decide)) ?_)
    walk_at "rr"
    (try refine r_itF rfl ?_)
    walk_at "rr"
    (try rw [dstr])
    refine r_d (fun hc => ?_) (fun hc => ?_)
    · walk_at "rr"
      exact qx (by rw [tl_nil.mpr hc]; rfl)
    walk_at "rr"
    refine r_lenS (sz (by omega)) ?_
    walk_at "rr"
    refine r_d (fun h60 => ?_) (fun h60 => ?_)
    · walk_at "rr"
      exact qx (figs_long (by rw [← len_tl]; omega))
    walk_at "rr"
    have lz := len_tl z
    refine ⟨z, rfl, ?_⟩
    refine L_it walk_str (fun i σ H1 => (∃ u, σ = [some (.str z), u]) ∧ H1 = H ∧ ∀ d ∈ (tl z).take i, figB d = true) ⟨⟨_, rfl⟩, rfl, fun d m => by simp at m⟩ (fun _ _ _ _ _ => trivial) ?_ ?_
    · rintro i x σ H1 H2 hi ⟨⟨u, rfl⟩, e1, hall⟩ ⟨e2, d, ed, rfl⟩
      have e3 : (tl z)[i]? = some d := by rw [← ed]; simp
      walk_at "rr"
      refine ⟨d, _, rfl, rfl, ?_⟩
      refine r_bl ?_
      refine r_nd (fun hd => ?_) (fun hd => ?_)
      · walk_at "rr"
        rw [e2, e1]
        exact qx (figs_bad (List.mem_of_getElem? e3) (by
          cases hf : figB d with
          | true => exact absurd (fig_mem.mpr hf) hd
          | false => rfl))
      · walk_at "rr"
        refine ⟨⟨_, rfl⟩, e2.trans e1, fun c m => ?_⟩
        rw [List.take_add_one, e3] at m
        rcases List.mem_append.mp m with m | m
        · exact hall c m
        · rw [show c = d by simpa using m]
          exact fig_mem.mp hd
    · rintro σ H1 ⟨⟨u, rfl⟩, rfl, hall⟩
      have hall : ∀ d ∈ tl z, figB d = true := fun d m => hall d (by rw [List.take_of_length_le (by rw [← lz]; exact Nat.le_refl _)]; exact m)
      have ne : tl z ≠ [] := fun e => hc (tl_nil.mp e)
      have fin := fin_of hall ne (by omega)
      obtain ⟨c, r, ez⟩ : ∃ c r, tl z = c :: r := by
        cases e : tl z with
        | nil => exact absurd e ne
        | cons c r => exact ⟨c, r, rfl⟩
      have at0 : atI z.cps.toList 0 = some c := by
        rw [show z.cps.toList = tl z from rfl, ez]
        exact atI0 c r
      have l1 : z.length = r.length + 1 := by rw [lz, ez]; rfl
      walk_at "rr"
      refine r_ixS (sz (by omega)) at0 ?_
      walk_at "rr"
      try rw [dstr]
      refine r_d (fun hc => ?_) (fun hc => ?_)
      · have c48 := (sign_eq (s := "0") (d := 48) (by decide +kernel)).mp hc
        walk_at "rr"
        refine r_lenS (sz (by omega)) ?_
        walk_at "rr"
        refine r_d (fun h1 => ?_) (fun h1 => ?_)
        · walk_at "rr"
          refine qx ?_
          rw [ez, c48]
          exact figs_nought fun e => by
            rw [e] at l1
            simp at l1
            omega
        · walk_at "rr"
          have r0 : r = [] := List.length_eq_zero_iff.mp (by omega)
          exact ⟨z, _, rfl, fin, by omega, q (by rw [ez]; exact figs_ok (by rw [← ez]; omega) (fun d m => hall d (by rw [ez]; exact m)) (.inr r0))⟩
      · refine r_itF rfl ?_
        walk_at "rr"
        refine ⟨z, _, rfl, fin, by omega, q (by rw [ez]; exact figs_ok (by rw [← ez]; omega) (fun d m => hall d (by rw [ez]; exact m)) (.inl fun e => hc ((sign_eq (s := "0") (d := 48) (by decide +kernel)).mpr e)))⟩
/-! ### read_worth -/
abbrev s_read_worth : Stmt := top 13
theorem sc_read_worth : FnScope ["text"] ["text"] (defScope s_read_worth) := ⟨rfl, rfl, rfl, by decide +kernel, rfl, by decide +kernel, by decide +kernel⟩
def sp_read_worth (K : PySem.W.Frag) (cN : Addr) : Sp := fun vs H Q E => ∃ (v : V), vs = [v] ∧ ((NotStr K H v ∧ E (.ref cN) none H) ∨ ∃ z : Str, v = .str z ∧ z.length ≤ 100000 ∧ (dueW z = none → E (.ref cN) none H) ∧
  ∀ w, dueW z = some w → ∀ (t : Addr) (H' : Hp), H t = none → Same H H' → WoAt H' (.ref t) w → Q (.ref t) H')
theorem ok_read_worth {fa : Addr} {fd : FuncData} (F : Fun K "read_worth" "read_worth" s_read_worth fa fd) (TX : Tx mg)
    {cNoText : Addr}
    (X_NoText : XOk K mg "NoText" cNoText)
    (C_read_figures : Cal P w K mg base (L2.CX P w) 1 "read_figures" ["text"] (sp_read_figures K cNoText))
    {dD : Addr} {esD : Array DictEntry} {nD : Nat}
    (d_MARKED : KDict K w dD esD nD)
    (g_MARKED : mg "MARKED" = some (.ref dD))
    (m_MARKED : ∀ z : Str, ∃ r, PySem.W.nsIn K dD z = some r ∧ match marked.find? (fun p => decide (p.1 = z)) with | some p => ∃ t, r = some (.str p.2 t) | none => r = none) :
    FnOk P w K mg base (L2.CX P w) 2 fa fd ["text"] (sp_read_worth K cNoText) := by
  refine F.okX sc_read_worth (fun vs H Q E h => ?_) (fun cdv A outer s H vs Q E hr h => ?_)
  · obtain ⟨v, rfl, hq⟩ := h
    rfl
  · obtain ⟨v, rfl, hq⟩ := h
    have hu := hu_of hr
    have hu64 := hr.units
    have hu65 := hu65_of hr
    refine ⟨_, (pss_cons (ps_if (PW.pt (pw_or (pt_not (pt_val (pe_callB call_isi (by rfl) TX.n_isinstance (by decide +kernel) (pa_cons (pv 0) (pa_cons (pe_bltn (v := .ty "str") (by rfl) TX.n_str (by decide +kernel) rfl) pa_nil))))) (pw_or (pt_cmpR op_eq (pv 0) pe_str (nomark _)) (pw_or1 (pt_cmpR op_eq (pv 0) pe_str (nomark _)))))) (pss_one (ps_raiseO rfl (takes_of rfl rfl rfl rfl) X_NoText (by rfl))) pss_nil)
  (pss_cons (ps_if (pt_cmpR (op_in_kd d_MARKED) (pe_ix ix_str (pv 0) pe_int (fun _ _ => rfl)) (pe_glob (v := .ref _) (by rfl) g_MARKED rfl) (by with_unfolding_all rfl)) (pss_one (ps_ret (pe_tup (pa_cons (pe_ix ix_kdict (pe_glob (v := .ref _) (by rfl) g_MARKED rfl) (pe_ix ix_str (pv 0) pe_int (fun _ _ => rfl)) (fun _ _ => rfl)) (pa_cons (pe_calS C_read_figures (hr.mono (by decide)) (by rfl) (fun σ => passAt (takes_of rfl rfl rfl rfl) σ) (pa_cons (pe_slice sl_str (pv 0) (po_some pe_int) po_none) pa_nil)) pa_nil))))) pss_nil)
  (pss_cons (ps_if (pt_cmpR op_eq (pe_ix ix_str (pv 0) pe_int (fun _ _ => rfl)) pe_str (nomark _)) (pss_one (ps_ret (pe_tup (pa_cons pe_str (pa_cons (pe_un un_neg (pe_calS C_read_figures (hr.mono (by decide)) (by rfl) (fun σ => passAt (takes_of rfl rfl rfl rfl) σ) (pa_cons (pe_slice sl_str (pv 0) (po_some pe_int) po_none) pa_nil))) pa_nil))))) pss_nil)
  (pss_one (ps_ret (pe_tup (pa_cons pe_str (pa_cons (pe_calS C_read_figures (hr.mono (by decide)) (by rfl) (fun σ => passAt (takes_of rfl rfl rfl rfl) σ) (pa_cons (pv 0) pa_nil)) pa_nil)))))))), ?_⟩
    refine r_begin (show L2.start _ _ = [some _] from rfl) ?_
    try dsimp only [cxOf]
    walk_at "rr"
    rcases hq with ⟨ns, qx⟩ | ⟨z, rfl, hz, qx, q⟩
    · refine r_notS ns ?_
      walk_at "rr"
      (try refine r_itT rfl ?_)
      walk_at "rr"
      exact qx
    refine r_isi ty_str (kit_str _ (by decide)) ?_
    walk_at "rr"
    refine r_itF rfl ?_
    walk_at "rr"
    try rw [dstr]
    refine r_d (fun hc => ?_) (fun hc => ?_)
    · walk_at "rr"
      exact qx (by rw [hc]; exact due_nil)
    walk_at "rr"
    try rw [dstr]
    have e0 : tl (Str.ofString "-0") = [45, 48] := by decide +kernel
    refine r_d (fun hc2 => ?_) (fun hc2 => ?_)
    · walk_at "rr"
      refine qx ?_
      rw [due_minus (r := [48]) (by rw [hc2]; exact e0), if_neg fun h => h.2 rfl]
    have zl : z.length ≤ sizeLine := sz (by omega)
    have lz := len_tl z
    obtain ⟨c, r, ez⟩ : ∃ c r, tl z = c :: r := by
      cases e : tl z with
      | nil => exact absurd (tl_nil.mp e) hc
      | cons c r => exact ⟨c, r, rfl⟩
    have at0 : atI z.cps.toList 0 = some c := by
      rw [show z.cps.toList = tl z from rfl, ez]
      exact atI0 c r
    have l1 : 1 ≤ z.length := by rw [lz, ez]; simp
    have cut : tl (cutS z (some 1) none) = r := by rw [tl_cut1 l1, ez]; rfl
    have cutl : (cutS z (some 1) none).length ≤ 100000 := by
      rw [len_tl, cut]
      rw [lz, ez, List.length_cons] at hz
      omega
    walk_at "rr"
    refine r_ixS zl at0 ?_
    walk_at "rr"
    obtain ⟨ro, er, is⟩ := m_MARKED ⟨#[c]⟩
    cases m : marked.find? (fun p => decide (p.1 = (⟨#[c]⟩ : Str))) with
    | some p =>
      rw [m] at is
      obtain ⟨tk, is⟩ := is
      obtain ⟨pok, _⟩ := marked_ok m
      have dw := due_mark ez m
      refine ⟨_, ro, rfl, rfl, er, ?_⟩
      rw [is]
      refine r_bl ?_
      refine r_itT rfl ?_
      walk_at "rr"
      refine r_ixS zl at0 ?_
      walk_at "rr"
      refine ⟨dD, _, .str p.2, rfl, rfl, ⟨esD, nD, _, d_MARKED.at_, d_MARKED.lit, by rw [er, is], ⟨tk, rfl⟩⟩, ?_⟩
      walk_at "rr"
      refine r_slS zl ?_
      walk_at "rr"
      refine ⟨_, rfl, cutl, fun hf => ?_, fun hf => ?_⟩
      · rw [cut] at hf
        exact qx (by rw [dw, hf]; rfl)
      · rw [cut] at hf ⊢
        walk_at "rr"
        refine ⟨by show 2 ≤ sizeLine; decide, fun t ht => ?_⟩
        walk_at "rr"
        exact q _ (by rw [dw, if_pos hf]) t _ ht (same_new ht) ⟨t, rfl, upd_same, pok⟩
    | none =>
      rw [m] at is
      have is : ro = none := is
      refine ⟨_, ro, rfl, rfl, er, ?_⟩
      rw [is]
      refine r_bl ?_
      refine r_itF rfl ?_
      walk_at "rr"
      refine r_ixS zl at0 ?_
      walk_at "rr"
      try rw [dstr]
      refine r_d (fun hm => ?_) (fun hm => ?_)
      · have c45 := (sign_eq (s := "-") (d := 45) (by decide +kernel)).mp hm
        subst c45
        have dw := due_minus ez
        have r48 : r ≠ [48] := fun e => hc2 (ext_tl (by rw [ez, e, e0]))
        walk_at "rr"
        refine r_slS zl ?_
        walk_at "rr"
        refine ⟨_, rfl, cutl, fun hf => ?_, fun hf => ?_⟩
        · rw [cut] at hf
          exact qx (by rw [dw, if_neg fun h => by rw [hf] at h; exact absurd h.1 (by decide)])
        · rw [cut] at hf ⊢
          walk_at "rr"
          refine ⟨by show 2 ≤ sizeLine; decide, fun t ht => ?_⟩
          walk_at "rr"
          exact q _ (by rw [dw, if_pos ⟨hf, r48⟩]) t _ ht (same_new ht) ⟨t, rfl, upd_same, ok_num⟩
      · have dw := due_plain ez m fun e => hm ((sign_eq (s := "-") (d := 45) (by decide +kernel)).mpr e)
        walk_at "rr"
        refine ⟨z, rfl, hz, fun hf => ?_, fun hf => ?_⟩
        · rw [ez] at hf
          exact qx (by rw [dw, hf]; rfl)
        · rw [ez] at hf ⊢
          walk_at "rr"
          refine ⟨by show 2 ≤ sizeLine; decide, fun t ht => ?_⟩
          walk_at "rr"
          exact q _ (by rw [dw, if_pos hf]) t _ ht (same_new ht) ⟨t, rfl, upd_same, ok_num⟩
/-! ### is_row -/
abbrev s_is_row : Stmt := top 18
theorem sc_is_row : FnScope ["thing", "many"] ["thing", "many"] (defScope s_is_row) := ⟨rfl, rfl, rfl, by decide +kernel, rfl, by decide +kernel, by decide +kernel⟩
def sp_is_row (_ : PySem.W.Frag) : Sp := fun vs H Q _ => ∃ (v : V) (r : Rw) (many : Int), vs = [v, .int many] ∧ RwAt H v r ∧ Q (.bl (rwOk many r)) H
theorem ok_is_row {fa : Addr} {fd : FuncData} (F : Fun K "is_row" "is_row" s_is_row fa fd) (TX : Tx mg)
    (C_is_whole : Cal P w K mg base CX0 1 "is_whole" ["thing"] (sp_is_whole K))
    {aRe aLe2 aBa : Addr}
    (g_REACHING : mg "REACHING" = some (.ref aRe))
    (g_LEADING : mg "LEADING" = some (.ref aLe2))
    (g_BARE : mg "BARE" = some (.ref aBa))
    (t_REACHING : TopT K aRe reaching)
    (t_LEADING : TopT K aLe2 leading)
    (t_BARE : TopT K aBa bare) :
    FnOk P w K mg base CX0 2 fa fd ["thing", "many"] (sp_is_row K) := by
  refine F.ok sc_is_row (fun vs H Q E h => ?_) (fun cdv A outer s H vs Q E hr h => ?_)
  · obtain ⟨v, r, many, rfl, ⟨a, rfl, ea⟩, q⟩ := h
    rfl
  · obtain ⟨v, r, many, rfl, ⟨a, rfl, ea⟩, q⟩ := h
    have hu := hu_of hr
    have hu64 := hr.units
    have hu65 := hu65_of hr
    obtain ⟨s, ns⟩ := r
    refine ⟨_, (pss_cons (ps_if (PW.pt (pw_or (pt_not (pt_val (pe_callB call_isi (by rfl) TX.n_isinstance (by decide +kernel) (pa_cons (pv 0) (pa_cons (pe_bltn (v := .ty "tuple") (by rfl) TX.n_tuple (by decide +kernel) rfl) pa_nil))))) (pw_or (pt_cmpR op_lt (pe_callB call_len (by rfl) TX.n_len (by decide +kernel) (pa_cons (pv 0) pa_nil)) pe_int (nomark _)) (pw_or1 (pt_cmpR op_gt (pe_callB call_len (by rfl) TX.n_len (by decide +kernel) (pa_cons (pv 0) pa_nil)) pe_int (nomark _)))))) (pss_one (ps_ret pe_bl)) pss_nil)
  (pss_cons (ps_if (pt_not (pt_val (pe_callB call_isi (by rfl) TX.n_isinstance (by decide +kernel) (pa_cons (pe_ix ix_tup (pv 0) pe_int (fun _ _ => rfl)) (pa_cons (pe_bltn (v := .ty "str") (by rfl) TX.n_str (by decide +kernel) rfl) pa_nil))))) (pss_one (ps_ret pe_bl)) pss_nil)
  (pss_cons (ps_if (pt_cmpR op_eq (pe_callB call_len (by rfl) TX.n_len (by decide +kernel) (pa_cons (pv 0) pa_nil)) pe_int (nomark _)) (pss_one (ps_ret (pe_cmpR op_in_seq (pe_ix ix_tup (pv 0) pe_int (fun _ _ => rfl)) (pe_glob (v := .ref _) (by rfl) g_BARE rfl) (by rfl)))) pss_nil)
  (pss_cons (ps_if (pt_not (pt_val (pe_cal C_is_whole (hr.mono (by decide)) (by rfl) pass0 (pa_cons (pe_ix ix_tup (pv 0) pe_int (fun _ _ => rfl)) pa_nil)))) (pss_one (ps_ret pe_bl)) pss_nil)
  (pss_cons (ps_if (pt_cmpR op_eq (pe_ix ix_tup (pv 0) pe_int (fun _ _ => rfl)) pe_str (nomark _)) (pss_one (ps_ret pe_bl)) pss_nil)
  (pss_cons (ps_if (pt_cmpR op_in_seq (pe_ix ix_tup (pv 0) pe_int (fun _ _ => rfl)) (pe_glob (v := .ref _) (by rfl) g_REACHING rfl) (by rfl)) (pss_one (ps_ret (pe_cmpR op_ge (pe_ix ix_tup (pv 0) pe_int (fun _ _ => rfl)) pe_int (nomark _)))) pss_nil)
  (pss_one (ps_ret (pe_and (pe_cmpR op_in_seq (pe_ix ix_tup (pv 0) pe_int (fun _ _ => rfl)) (pe_glob (v := .ref _) (by rfl) g_LEADING rfl) (by rfl)) (pe_one (pe_chain op_le op_le pe_int (pe_ix ix_tup (pv 0) pe_int (fun _ _ => rfl)) (pv 1)))))))))))), ?_⟩
    refine r_begin (show L2.start _ _ = [some _, some _] from rfl) ?_
    try dsimp only [cxOf]
    walk_at "rr"
    refine r_isi (ty_tup ea) (kit_tuple _ (by decide)) ?_
    walk_at "rr"
    refine r_itF rfl ?_
    walk_at "rr"
    refine r_lent ea ?_
    walk_at "rr"
    refine r_itF (decide_eq_false (by show ¬ (((s, ns).2.map V.int).length + 1 : Nat) < (1 : Int); omega)) ?_
    walk_at "rr"
    refine r_lent ea ?_
    walk_at "rr"
    match ns, ea, q with
    | [], ea, q =>
      have ea' : H a = some (.tup [.str s]) := ea
      refine r_itF (by rfl) ?_
      walk_at "rr"
      (try refine r_ixt ea' rfl ?_)
      walk_at "rr"
      (try refine r_isi ty_str (kit_str _ (by decide)) ?_)
      walk_at "rr"
      (try refine r_itF rfl ?_)
      walk_at "rr"
      refine r_lent ea' ?_
      walk_at "rr"
      refine r_itT (by rfl) ?_
      walk_at "rr"
      (try refine r_ixt ea' rfl ?_)
      walk_at "rr"
      refine ⟨aBa, _, rfl, .inr t_BARE.at, rfl, by decide, ?_⟩
      rw [inV_strs]
      exact q
    | [n], ea, q =>
      have ea' : H a = some (.tup [.str s, .int n]) := ea
      refine r_itF (by rfl) ?_
      walk_at "rr"
      (try refine r_ixt ea' rfl ?_)
      walk_at "rr"
      (try refine r_isi ty_str (kit_str _ (by decide)) ?_)
      walk_at "rr"
      (try refine r_itF rfl ?_)
      walk_at "rr"
      refine r_lent ea' ?_
      walk_at "rr"
      refine r_itF (by rfl) ?_
      walk_at "rr"
      (try refine r_ixt ea' rfl ?_)
      walk_at "rr"
      refine ⟨_, _, rfl, ty_int, by decide, ?_⟩
      walk_at "rr"
      (try refine r_itF rfl ?_)
      walk_at "rr"
      (try refine r_ixt ea' rfl ?_)
      walk_at "rr"
      (try rw [dstr])
      have q : Q (.bl (if s = "put" then true else if s ∈ reaching then decide (0 ≤ n) else decide (s ∈ leading) && (decide (0 ≤ n) && decide (n ≤ many)))) H := q
      by_cases hp : s = "put"
      · rw [if_pos hp] at q
        refine r_itT (decide_eq_true hp) ?_
        walk_at "rr"
        exact q
      rw [if_neg hp] at q
      refine r_itF (decide_eq_false hp) ?_
      walk_at "rr"
      (try refine r_ixt ea' rfl ?_)
      walk_at "rr"
      refine ⟨aRe, _, rfl, .inr t_REACHING.at, rfl, by decide, ?_⟩
      rw [inV_strs]
      refine r_bl ?_
      by_cases hr1 : s ∈ reaching
      · rw [if_pos hr1] at q
        rw [decide_eq_true hr1]
        refine r_itT rfl ?_
        walk_at "rr"
        (try refine r_ixt ea' rfl ?_)
        walk_at "rr"
        exact q
      rw [if_neg hr1] at q
      rw [decide_eq_false hr1]
      refine r_itF rfl ?_
      walk_at "rr"
      (try refine r_ixt ea' rfl ?_)
      walk_at "rr"
      refine ⟨aLe2, _, rfl, .inr t_LEADING.at, rfl, by decide, ?_⟩
      rw [inV_strs]
      (try refine r_bl ?_)
      by_cases hl : s ∈ leading
      · rw [decide_eq_true hl, Bool.true_and] at q
        rw [decide_eq_true hl]
        (try refine r_itT rfl ?_)
        walk_at "rr"
        by_cases h0 : 0 ≤ n
        · rw [decide_eq_true h0, Bool.true_and] at q
          refine r_itT (decide_eq_true h0) ?_
          walk_at "rr"
          exact q
        · rw [decide_eq_false h0, Bool.false_and] at q
          refine r_itF (decide_eq_false h0) ?_
          walk_at "rr"
          exact q
      · rw [decide_eq_false hl, Bool.false_and] at q
        rw [decide_eq_false hl]
        (try refine r_itF rfl ?_)
        walk_at "rr"
        exact q
    | n :: m :: ns, ea, q =>
      refine r_itT (decide_eq_true (by show ((((n :: m :: ns).map V.int).length + 1 : Nat) : Int) > 2; rw [List.length_map, List.length_cons, List.length_cons]; omega)) ?_
      walk_at "rr"
      exact q
/-! ### is_program -/
abbrev s_is_program : Stmt := top 19
theorem sc_is_program : FnScope ["thing", "row"] ["thing"] (defScope s_is_program) := ⟨rfl, rfl, rfl, by decide +kernel, rfl, by decide +kernel, by decide +kernel⟩
def sp_is_program (_ : PySem.W.Frag) : Sp := fun vs H Q _ => ∃ (a : Addr) (xs : List V) (rs : List Rw), vs = [.ref a] ∧ H a = some (.lst xs) ∧ Paired (RwAt H) xs rs ∧ Q (.bl (rs.all (rwOk (rs.length : Int)))) H
theorem ok_is_program {fa : Addr} {fd : FuncData} (F : Fun K "is_program" "is_program" s_is_program fa fd) (TX : Tx mg)
    (C_is_row : Cal P w K mg base CX0 2 "is_row" ["thing", "many"] (sp_is_row K)) :
    FnOk P w K mg base CX0 3 fa fd ["thing"] (sp_is_program K) := by
  refine F.ok sc_is_program (fun vs H Q E h => ?_) (fun cdv A outer s H vs Q E hr h => ?_)
  · obtain ⟨a, xs, rs, rfl, ea, wr, q⟩ := h
    rfl
  · obtain ⟨a, xs, rs, rfl, ea, wr, q⟩ := h
    have hu := hu_of hr
    have hu64 := hr.units
    have hu65 := hu65_of hr
    have lx := paired_len wr
    refine ⟨_, (pss_cons (ps_if (pt_not (pt_val (pe_callB call_isi (by rfl) TX.n_isinstance (by decide +kernel) (pa_cons (pv 0) (pa_cons (pe_bltn (v := .ty "list") (by rfl) TX.n_list (by decide +kernel) rfl) pa_nil))))) (pss_one (ps_ret pe_bl)) pss_nil)
  (pss_cons (ps_for PassesOwn.never rfl (pi_list (pv 0)) (pg_name (i := 1) sc_is_program.nd rfl (Or.inl rfl))
  (pss_one (ps_if (pt_not (pt_val (pe_cal C_is_row (hr.mono (by decide)) (by rfl) pass0 (pa_cons (pv 1) (pa_cons (pe_callB call_len (by rfl) TX.n_len (by decide +kernel) (pa_cons (pv 0) pa_nil)) pa_nil))))) (pss_one (ps_ret pe_bl)) pss_nil)))
  (pss_one (ps_ret pe_bl)))), ?_⟩
    refine r_begin (show L2.start _ _ = [some _, none] from rfl) ?_
    try dsimp only [cxOf]
    walk_at "rr"
    refine r_isi (ty_lst ea) (kit_list _ (by decide)) ?_
    walk_at "rr"
    refine r_itF rfl ?_
    walk_at "rr"
    refine r_ilw ea ?_
    refine L_list (xs := xs) (fun i σ H1 => (∃ (u : Option V), σ = [some (.ref a), u]) ∧ H1 = H ∧ (rs.take i).all (rwOk (rs.length : Int)) = true) ⟨⟨_, rfl⟩, rfl, rfl⟩ ?_ ?_ ?_
    · rintro i σ H1 hi ⟨⟨u, rfl⟩, rfl, hall⟩
      exact .inl (.inl ea)
    · rintro i x σ H1 hx ⟨⟨u, rfl⟩, rfl, hall⟩
      obtain ⟨r, er, hr⟩ := L2.paired_get wr hx
      walk_at "rr"
      refine r_lenl ea ?_
      walk_at "rr"
      refine ⟨x, r, _, rfl, hr, ?_⟩
      rw [lx]
      cases ho : rwOk (rs.length : Int) r with
      | true =>
        walk_at "rr"
        (try refine r_itF rfl ?_)
        walk_at "rr"
        refine ⟨⟨_, rfl⟩, rfl, ?_⟩
        rw [List.take_add_one, er, List.all_append, hall]
        simpa using ho
      | false =>
        walk_at "rr"
        (try refine r_itT rfl ?_)
        walk_at "rr"
        have : rs.all (rwOk (rs.length : Int)) = false := List.all_eq_false.mpr ⟨r, List.mem_of_getElem? er, by rw [ho]; decide⟩
        rw [← this]
        exact q
    · rintro σ H1 ⟨⟨u, rfl⟩, rfl, hall⟩
      rw [lx, List.take_length] at hall
      walk_at "rr"
      rw [← hall]
      exact q
/-! ### read_number -/
abbrev s_read_number : Stmt := top 21
theorem sc_read_number : FnScope ["text", "worth"] ["text"] (defScope s_read_number) := ⟨rfl, rfl, rfl, by decide +kernel, rfl, by decide +kernel, by decide +kernel⟩
def sp_read_number (_ : PySem.W.Frag) (cN : Addr) : Sp := fun vs H Q E => ∃ (z : Str), vs = [.str z] ∧ z.length ≤ 100000 ∧ (numOf z = none → ∀ H', Same H H' → E (.ref cN) none H') ∧ ∀ n, numOf z = some n → ∀ H', Same H H' → Q (.int n) H'
theorem ok_read_number {fa : Addr} {fd : FuncData} (F : Fun K "read_number" "read_number" s_read_number fa fd) (TX : Tx mg)
    {cNoText : Addr}
    (X_NoText : XOk K mg "NoText" cNoText)
    (C_read_worth : Cal P w K mg base (L2.CX P w) 2 "read_worth" ["text"] (sp_read_worth K cNoText)) :
    FnOk P w K mg base (L2.CX P w) 3 fa fd ["text"] (sp_read_number K cNoText) := by
  refine F.okX sc_read_number (fun vs H Q E h => ?_) (fun cdv A outer s H vs Q E hr h => ?_)
  · obtain ⟨z, rfl, hz, qx, q⟩ := h
    rfl
  · obtain ⟨z, rfl, hz, qx, q⟩ := h
    have hu := hu_of hr
    have hu64 := hr.units
    have hu65 := hu65_of hr
    refine ⟨_, (pss_cons (ps_set (i := 1) sc_read_number.nd rfl (Or.inl rfl) (pe_calS C_read_worth (hr.mono (by decide)) (by rfl) (fun σ => passAt (takes_of rfl rfl rfl rfl) σ) (pa_cons (pv 0) pa_nil)))
  (pss_cons (ps_if (pt_cmpR op_ne (pe_ix ix_tup (pv 1) pe_int (fun _ _ => rfl)) pe_str (nomark _)) (pss_one (ps_raiseO rfl (takes_of rfl rfl rfl rfl) X_NoText (by rfl))) pss_nil)
  (pss_one (ps_ret (pe_ix ix_tup (pv 1) pe_int (fun _ _ => rfl)))))), ?_⟩
    refine r_begin (show L2.start _ _ = [some _, none] from rfl) ?_
    try dsimp only [cxOf]
    walk_at "rr"
    refine ⟨.str z, rfl, .inr ⟨z, rfl, hz, fun hn => ?_, fun w hw t H1 nt s1 at1 => ?_⟩⟩
    · exact qx (by unfold numOf; rw [hn]) H (Same.refl H)
    · obtain ⟨a, e, ea, -⟩ := at1
      cases e
      have ea' : H1 t = some (.tup [.str w.1, .int w.2]) := ea
      have nf : numOf z = if w.1 = "num" then some w.2 else none := by unfold numOf; rw [hw]
      walk_at "rr"
      (try refine r_ixt ea' rfl ?_)
      walk_at "rr"
      (try rw [dstr])
      by_cases hc : w.1 = "num"
      · refine r_itF (by rw [decide_eq_true hc]; rfl) ?_
        walk_at "rr"
        (try refine r_ixt ea' rfl ?_)
        exact q _ (by rw [nf, if_pos hc]) H1 s1
      · refine r_itT (by rw [decide_eq_false hc]; rfl) ?_
        walk_at "rr"
        exact qx (by rw [nf, if_neg hc]) H1 s1
/-! ### read_program -/
abbrev s_read_program : Stmt := top 22
theorem sc_read_program : FnScope ["text", "rows", "part", "words", "word"] ["text"] (defScope s_read_program) := ⟨rfl, rfl, rfl, by decide +kernel, rfl, by decide +kernel, by decide +kernel⟩
def sp_read_program (K : PySem.W.Frag) (cN : Addr) : Sp := fun vs H Q E => ∃ (v : V), vs = [v] ∧ ((NotStr K H v ∧ E (.ref cN) none H) ∨ ∃ z : Str, v = .str z ∧ z.length ≤ 80000 ∧ (dueProg z = none → ∀ H', Same H H' → E (.ref cN) none H') ∧
  ∀ rs, dueProg z = some rs → ∀ (l : Addr) (xs : List V) (H' : Hp), H l = none → Same H H' → H' l = some (.lst xs) → Paired (RwAt H') xs rs → Q (.ref l) H')
theorem ok_read_program {fa : Addr} {fd : FuncData} (F : Fun K "read_program" "read_program" s_read_program fa fd) (TX : Tx mg)
    {cNoText : Addr}
    (X_NoText : XOk K mg "NoText" cNoText)
    (C_is_program : Cal P w K mg base CX0 3 "is_program" ["thing"] (sp_is_program K))
    (C_read_number : Cal P w K mg base (L2.CX P w) 3 "read_number" ["text"] (sp_read_number K cNoText)) :
    FnOk P w K mg base (L2.CX P w) 4 fa fd ["text"] (sp_read_program K cNoText) := by
  refine F.okX sc_read_program (fun vs H Q E h => ?_) (fun cdv A outer s H vs Q E hr h => ?_)
  · obtain ⟨v, rfl, hq⟩ := h
    rfl
  · obtain ⟨v, rfl, hq⟩ := h
    have hu := hu_of hr
    have hu64 := hr.units
    have hu65 := hu65_of hr
    refine ⟨_, (pss_cons (ps_if (pt_not (pt_val (pe_callB call_isi (by rfl) TX.n_isinstance (by decide +kernel) (pa_cons (pv 0) (pa_cons (pe_bltn (v := .ty "str") (by rfl) TX.n_str (by decide +kernel) rfl) pa_nil))))) (pss_one (ps_raiseO rfl (takes_of rfl rfl rfl rfl) X_NoText (by rfl))) pss_nil)
  (pss_cons (ps_set (i := 1) sc_read_program.nd rfl (Or.inl rfl) (pe_lst pa_nil))
  (pss_cons (ps_if (pt_cmpR op_ne (pv 0) pe_str (nomark _)) (pss_one (ps_for (passes_of rfl) rfl (pi_list (pe_split (pv 0) pe_str)) (pg_name (i := 2) sc_read_program.nd rfl (Or.inl rfl))
  (pss_cons (ps_set (i := 3) sc_read_program.nd rfl (Or.inl rfl) (pe_split (pv 2) pe_str))
  (pss_one (ps_expr (pe_bm PySem.F.plainAttrs_list PySem.F.slot_list_append PySem.F.type_list_append mt_append (pv 1) (pa_cons (pe_op op_catT (pe_tup (pa_cons (pe_ix ix_list (pv 3) pe_int (fun _ _ => rfl)) pa_nil)) (pe_callTy call_tuple_of (by rfl) TX.n_tuple (by decide +kernel) (pa_cons (LcX.pe_lcX (own := [("word", 4)]) (g := gName 4) (tt := tYes) rfl sc_read_program.nd (takes_of rfl rfl rfl rfl) rfl rfl (pi_list (pe_slice sl_list (pv 3) (po_some pe_int) po_none)) (blkOk_by (own := [("word", 4)]) (N := ["text", "rows", "part", "words", "word"]) (sc := defScope s_read_program) (by decide +kernel)) (fun _ _ _ _ _ _ => (pg_name (i := 4) sc_read_program.nd rfl (Or.inl rfl))) (fun _ _ _ _ _ _ => pts_nil) (fun _ _ _ _ _ _ _ hx_ => (pe_calS C_read_number (hr.mono (by decide)) (by rfl) hx_ (pa_cons (pv 4) pa_nil)))) pa_nil))) pa_nil))))))) pss_nil)
  (pss_cons (ps_if (pt_not (pt_val (pe_cal C_is_program (hr.mono (by decide)) (by rfl) pass0 (pa_cons (pv 1) pa_nil)))) (pss_one (ps_raiseO rfl (takes_of rfl rfl rfl rfl) X_NoText (by rfl))) pss_nil)
  (pss_one (ps_ret (pv 1))))))), ?_⟩
    refine r_begin (show L2.start _ _ = [some _, none, none, none, none] from rfl) ?_
    try dsimp only [cxOf]
    walk_at "rr"
    rcases hq with ⟨ns, qx⟩ | ⟨z0, rfl, hz0, qx, q⟩
    · refine r_notS ns ?_
      walk_at "rr"
      (try refine r_itT rfl ?_)
      walk_at "rr"
      exact qx
    refine r_isi ty_str (kit_str _ (by decide)) ?_
    walk_at "rr"
    refine r_itF rfl ?_
    walk_at "rr"
    refine ⟨Nat.zero_le _, fun z hz => ?_⟩
    have s1 := same_new (o := .lst []) hz
    have ez : (upd H z (.lst [])) z = some (.lst []) := upd_same
    generalize upd H z (.lst []) = H1 at s1 ez ⊢
    walk_at "rr"
    try rw [dstr]
    by_cases hc : z0 = ""
    · have pe : progOf z0 = some [] := if_pos hc
      have de : dueProg z0 = some [] := by
        unfold dueProg
        rw [pe]
        rfl
      refine r_itF (by rw [decide_eq_true hc]; rfl) ?_
      walk_at "rr"
      refine ⟨z, [], [], rfl, ez, .nil, ?_⟩
      walk_at "rr"
      (try refine r_itF rfl ?_)
      walk_at "rr"
      exact q [] de z [] H1 hz s1 ez .nil
    have pe : progOf z0 = optAll ((pieces z0).map rowOf) := if_neg hc
    have pl := pieces_len (z := z0)
    refine r_itT (by rw [decide_eq_false hc]; rfl) ?_
    walk_at "rr"
    refine ⟨_, _, rfl, rfl, by decide +kernel, by show _ + 2 ≤ sizeLine; exact sz (by omega), fun p hp => ?_⟩
    have s2 := s1.trans (same_new (o := .lst ((Txt.split z0 (Str.ofString "; ")).map V.str)) hp)
    have ep : (upd H1 p (.lst ((Txt.split z0 (Str.ofString "; ")).map V.str))) p = some (.lst ((pieces z0).map V.str)) := upd_same
    have ez2 := same_new (o := .lst ((Txt.split z0 (Str.ofString "; ")).map V.str)) hp _ _ ez
    have npz : p ≠ z := fun e => by rw [e, ez] at hp; cases hp
    generalize upd H1 p (.lst ((Txt.split z0 (Str.ofString "; ")).map V.str)) = H2 at s2 ep ez2 ⊢
    refine r_ilw ep ?_
    refine L_list (xs := (pieces z0).map V.str) (fun i σ H3 => (∃ (u2 u3 u4 : Option V), σ = [some (.str z0), some (.ref z), u2, u3, u4]) ∧ Same H H3 ∧ H3 p = some (.lst ((pieces z0).map V.str)) ∧ ∃ (xs : List V) (rs : List Rw), H3 z = some (.lst xs) ∧ Paired (RwAt H3) xs rs ∧ ((pieces z0).take i).map rowOf = rs.map some)
      ⟨⟨_, _, _, rfl⟩, s2, ep, [], [], ez2, .nil, rfl⟩ ?_ ?_ ?_
    · rintro i σ H3 hi ⟨⟨u2, u3, u4, rfl⟩, s3, ep3, xs, rs, ez3, w3, er3⟩
      exact .inl (.inl ep3)
    · rintro i x σ H3 hx ⟨⟨u2, u3, u4, rfl⟩, s3, ep3, xs, rs, ez3, w3, er3⟩
      rw [List.getElem?_map] at hx
      obtain ⟨pa, epa, rfl⟩ := Option.map_eq_some_iff.mp hx
      have mpa := List.mem_of_getElem? epa
      have hi : i < (pieces z0).length := (List.getElem?_eq_some_iff.mp epa).1
      have lpa := piece_len mpa
      have l3 : xs.length ≤ i := by
        have e := congrArg List.length er3
        rw [List.length_map, List.length_map, List.length_take] at e
        have := paired_len w3
        omega
      obtain ⟨w, ws, ew⟩ := words_ne (z := pa)
      have wl := words_len (z := pa)
      have ro := row_cons ew
      walk_at "rr"
      refine ⟨_, _, rfl, rfl, by decide +kernel, by show pa.length + 2 ≤ sizeLine; exact sz (by omega), fun wd hwd => ?_⟩
      have s4 := s3.trans (same_new (o := .lst ((Txt.split pa (Str.ofString " ")).map V.str)) hwd)
      have ewd : (upd H3 wd (.lst ((Txt.split pa (Str.ofString " ")).map V.str))) wd = some (.lst ((w :: ws).map V.str)) := by rw [← ew]; exact upd_same
      have s34 := same_new (o := .lst ((Txt.split pa (Str.ofString " ")).map V.str)) hwd
      generalize upd H3 wd (.lst ((Txt.split pa (Str.ofString " ")).map V.str)) = H4 at s4 ewd s34 ⊢
      have ez4 := s34 _ _ ez3
      walk_at "rr"
      refine r_tyL ez4 ?_
      walk_at "rr"
      refine r_ixl ewd (at_of (show (0 : Int) = ((0 : Nat) : Int) from rfl) (show ((w :: ws).map V.str)[0]? = some (V.str w) from rfl)) ?_
      walk_at "rr"
      refine ⟨by show 1 ≤ sizeLine; decide, fun t1 ht1 => ?_⟩
      have s45 := same_new (o := .tup [.str w]) ht1
      have et1 : (upd H4 t1 (.tup [.str w])) t1 = some (.tup [.str w]) := upd_same
      have ew5 := s45 _ _ ewd
      generalize upd H4 t1 (.tup [.str w]) = H5 at s45 et1 ew5 ⊢
      walk_at "rr"
      refine LcX.r_lcX ?_
      walk_at "rr"
      refine r_slL (.inl (.inl ew5)) fun c hc => ?_
      rw [cut1, show ((w :: ws).map V.str).drop 1 = ws.map V.str from rfl]
      have s56 := same_new (o := .lst (ws.map V.str)) hc
      have ec6 : (upd H5 c (.lst (ws.map V.str))) c = some (.lst (ws.map V.str)) := upd_same
      have et6 := s56 _ _ et1
      generalize upd H5 c (.lst (ws.map V.str)) = H6 at s56 ec6 et6 ⊢
      have s36 := (s34.trans s45).trans s56
      have lws : ws.length ≤ 90000 := by
        have := wl
        rw [ew, List.length_cons] at this
        omega
      refine r_ilw ec6 ?_
      refine C_list (xs := ws.map V.str) (fun D k H7 => H6 D = none ∧ Same H6 H7 ∧ ∃ ns : List Int, H7 D = some (.lst (ns.map V.int)) ∧ (ws.take k).map numOf = ns.map some) (fun D hD => ⟨hD, same_new hD, [], upd_same, rfl⟩) ?_ ?_ ?_
      · rintro D k H7 hk ⟨hD, s7, ns, eD, en⟩
        exact .inl (.inl (s7 _ _ ec6))
      · rintro D k x H7 hx ⟨hD, s7, ns, eD, en⟩
        rw [List.getElem?_map] at hx
        obtain ⟨y, ey, rfl⟩ := Option.map_eq_some_iff.mp hx
        have my := List.mem_of_getElem? ey
        have hk : k < ws.length := (List.getElem?_eq_some_iff.mp ey).1
        have ly := word_len (z := pa) (p := y) (by rw [ew]; exact List.mem_cons_of_mem _ my)
        have lns : ns.length ≤ k := by
          have e := congrArg List.length en
          rw [List.length_map, List.length_map, List.length_take] at e
          omega
        walk_at "rr"
        refine ⟨y, rfl, by omega, fun hn H8 s8 => ?_, fun n hn H8 s8 => ?_⟩
        · refine qx ?_ H8 ((s3.trans s36).trans (s7.trans s8))
          have : rowOf pa = none := by
            rw [ro, optAll_none.mpr (by rw [← hn]; exact List.mem_map.mpr ⟨y, my, rfl⟩)]
            rfl
          unfold dueProg
          rw [pe, optAll_none.mpr (by rw [← this]; exact List.mem_map.mpr ⟨pa, mpa, rfl⟩)]
        · refine ⟨_, s8 _ _ eD, szl (by rw [List.length_map]; omega), hD, Same.own (s7.trans s8) hD, ns ++ [n], by rw [upd_same, List.map_append]; rfl, ?_⟩
          rw [List.take_add_one, ey, List.map_append, List.map_append, en]
          simp [hn]
      · rintro D H7 hD ⟨_, s7, ns, eD, en⟩
        rw [List.length_map, List.take_length] at en
        have rsome : rowOf pa = some (w, ns) := by
          rw [ro, optAll_some.mpr en]
          rfl
        have lns : ns.length ≤ 90000 := by
          have e := congrArg List.length en
          rw [List.length_map, List.length_map] at e
          omega
        walk_at "rr"
        refine ⟨D, _, rfl, .inl ⟨.inl (.inl eD), fun t2 ht2 => ?_⟩⟩
        have s78 := same_new (o := .tup (ns.map V.int)) ht2
        have et2 : (upd H7 t2 (.tup (ns.map V.int))) t2 = some (.tup (ns.map V.int)) := upd_same
        have et18 := s78 _ _ (s7 _ _ et6)
        generalize upd H7 t2 (.tup (ns.map V.int)) = H8 at s78 et2 et18 ⊢
        have s38 : Same H3 H8 := (s36.trans s7).trans s78
        have hzH := hz
        have fin2 : ∀ (t : Addr) (H9 : Hp), Same H8 H9 → RwAt H9 (.ref t) (w, ns) → Same H (upd H9 z (.lst (xs ++ [V.ref t]))) ∧ (upd H9 z (.lst (xs ++ [V.ref t]))) p = some (.lst ((pieces z0).map V.str)) ∧ ∃ (xs' : List V) (rs' : List Rw), (upd H9 z (.lst (xs ++ [V.ref t]))) z = some (.lst xs') ∧ Paired (RwAt (upd H9 z (.lst (xs ++ [V.ref t])))) xs' rs' ∧ ((pieces z0).take (i + 1)).map rowOf = rs'.map some := by
          intro t H9 s9 hr9
          have s39 := s38.trans s9
          have up : ∀ {v : V} {r : Rw}, RwAt H9 v r → RwAt (upd H9 z (.lst (xs ++ [V.ref t]))) v r := by
            rintro v r ⟨a, e, h⟩
            exact ⟨a, e, by rw [upd_ne (fun e => by rw [e, s39 _ _ ez3] at h; cases h)]; exact h⟩
          refine ⟨Same.own (s3.trans s39) hzH, by rw [upd_ne npz]; exact s39 _ _ ep3, xs ++ [V.ref t], rs ++ [(w, ns)], upd_same, ?_, ?_⟩
          · exact paired_app (Paired.mapP w3 fun _ _ h => up (h.same s39)) (.cons (up hr9) .nil)
          · rw [List.take_add_one, epa, List.map_append, List.map_append, er3]
            simp [rsome]
        refine ⟨t1, t2, _, _, rfl, rfl, .inl (.inl et18), .inl (.inl et2), by simp, sz (by simp; omega), fun en2 => ?_, fun en2 t3 ht3 => ?_⟩
        · walk_at "rr"
          refine r_app (s38 _ _ ez3) (szl (by omega)) ?_
          walk_at "rr"
          refine ⟨⟨_, _, _, rfl⟩, fin2 t1 H8 (Same.refl H8) ⟨t1, rfl, ?_⟩⟩
          show H8 t1 = some (.tup (.str w :: ns.map V.int))
          rw [en2]
          exact et18
        · have s89 := same_new (o := .tup ([V.str w] ++ ns.map V.int)) ht3
          walk_at "rr"
          refine r_app (s89 _ _ (s38 _ _ ez3)) (szl (by omega)) ?_
          walk_at "rr"
          exact ⟨⟨_, _, _, rfl⟩, fin2 t3 _ s89 ⟨t3, rfl, upd_same⟩⟩
    · rintro σ H3 ⟨⟨u2, u3, u4, rfl⟩, s3, ep3, xs, rs, ez3, w3, er3⟩
      rw [List.length_map, List.take_length] at er3
      have ps : progOf z0 = some rs := by rw [pe, optAll_some.mpr er3]
      have dp : dueProg z0 = if rs.all (rwOk (rs.length : Int)) = true then some rs else none := by
        unfold dueProg
        rw [ps]
      walk_at "rr"
      refine ⟨z, xs, rs, rfl, ez3, w3, ?_⟩
      cases ho : rs.all (rwOk (rs.length : Int)) with
      | true =>
        rw [ho] at dp
        walk_at "rr"
        (try refine r_itF rfl ?_)
        walk_at "rr"
        exact q rs dp z xs H3 hz s3 ez3 w3
      | false =>
        rw [ho] at dp
        walk_at "rr"
        (try refine r_itT rfl ?_)
        walk_at "rr"
        exact qx dp H3 s3
/-! ### _law_cell_at -/
abbrev s__law_cell_at : Stmt := top 24
theorem sc__law_cell_at : FnScope ["script", "k"] ["script", "k"] (defScope s__law_cell_at) := ⟨rfl, rfl, rfl, by decide +kernel, rfl, by decide +kernel, by decide +kernel⟩
def sp__law_cell_at (K : PySem.W.Frag) : Sp := fun vs H Q _ => ∃ (a : Addr) (ns : List Int) (k : Int), vs = [.ref a, .int k] ∧ SqL K H a (ns.map V.int) ∧ 0 ≤ k ∧ ns.length ≤ 63 ∧ ∀ c : Int, Q (.int c) H
theorem ok__law_cell_at {fa : Addr} {fd : FuncData} (F : Fun K "_law_cell_at" "_law_cell_at" s__law_cell_at fa fd) (TX : Tx mg) :
    FnOk P w K mg base CX0 1 fa fd ["script", "k"] (sp__law_cell_at K) := by
  refine F.ok sc__law_cell_at (fun vs H Q E h => ?_) (fun cdv A outer s H vs Q E hr h => ?_)
  · obtain ⟨a, ns, k, rfl, hS, hk, hn, q⟩ := h
    rfl
  · obtain ⟨a, ns, k, rfl, hS, hk, hn, q⟩ := h
    have hu := hu_of hr
    have hu64 := hr.units
    have hu65 := hu65_of hr
    refine ⟨_, (pss_cons (ps_if (pt_cmpR op_lt (pv 1) (pe_callB call_len (by rfl) TX.n_len (by decide +kernel) (pa_cons (pv 0) pa_nil)) (nomark _)) (pss_one (ps_ret (pe_ix ix_list (pv 0) (pv 1) (fun _ _ => rfl)))) pss_nil)
  (pss_one (ps_ret pe_int))), ?_⟩
    refine r_begin (show L2.start _ _ = [some _, some _] from rfl) ?_
    try dsimp only [cxOf]
    walk_at "rr"
    refine ⟨_, _, rfl, .inl ⟨_, hS, rfl⟩, ?_⟩
    walk_at "rr"
    refine r_d (fun hc => ?_) (fun hc => ?_)
    · walk_at "rr"
      rw [List.length_map] at hc
      obtain ⟨j, rfl⟩ : ∃ j : Nat, k = (j : Int) := ⟨k.toNat, by omega⟩
      have hj : j < ns.length := by omega
      have e : (ns.map V.int)[j]? = some (.int ns[j]) := by
        rw [List.getElem?_map, List.getElem?_eq_getElem hj]
        rfl
      refine r_ixL hS (atI_nat e) ?_
      exact q _
    · walk_at "rr"
      exact q _
/-! ### _law_stir -/
abbrev s__law_stir : Stmt := top 25
theorem sc__law_stir : FnScope ["seed", "turn", "number"] ["seed", "turn"] (defScope s__law_stir) := ⟨rfl, rfl, rfl, by decide +kernel, rfl, by decide +kernel, by decide +kernel⟩
def sp__law_stir (_ : PySem.W.Frag) : Sp := fun vs H Q _ => ∃ (s t : Int), vs = [.int s, .int t] ∧ 0 ≤ s ∧ s < 1000000000000000000000000000000000000000000 ∧ 0 ≤ t ∧ t ≤ 1000000000 ∧ ∀ i : Int, 0 ≤ i → Q (.int i) H
theorem ok__law_stir {fa : Addr} {fd : FuncData} (F : Fun K "_law_stir" "_law_stir" s__law_stir fa fd) (TX : Tx mg) :
    FnOk P w K mg base CX0 1 fa fd ["seed", "turn"] (sp__law_stir K) := by
  refine F.ok sc__law_stir (fun vs H Q E h => ?_) (fun cdv A outer s H vs Q E hr h => ?_)
  · obtain ⟨s, t, rfl, s0, s1, t0, t1, k⟩ := h
    rfl
  · obtain ⟨s, t, rfl, s0, s1, t0, t1, k⟩ := h
    have hu := hu_of hr
    have hu64 := hr.units
    have hu65 := hu65_of hr
    refine ⟨_, (pss_cons (ps_set (i := 2) sc__law_stir.nd rfl (Or.inl rfl) (pe_op op_add (pe_op op_mulW (pe_op op_add (pv 0) pe_int) pe_int) (pe_op op_mulW (pe_op op_add (pv 1) pe_int) pe_int)))
  (pss_one (ps_ret (pe_op op_mod (pe_op op_powW (pv 2) pe_int) pe_int)))), ?_⟩
    refine r_begin (show L2.start _ _ = [some _, some _, none] from rfl) ?_
    try dsimp only [cxOf]
    walk_at "rr"
    exact k _ (Int.emod_nonneg _ (by decide))
/-! ### _law_well -/
abbrev s__law_well : Stmt := top 26
theorem sc__law_well : FnScope ["cell", "k", "seed"] ["cell", "k"] (defScope s__law_well) := ⟨rfl, rfl, rfl, by decide +kernel, rfl, by decide +kernel, by decide +kernel⟩
def sp__law_well (_ : PySem.W.Frag) : Sp := fun vs H Q _ => ∃ (c k : Int), vs = [.int c, .int k] ∧ 0 ≤ k ∧ k ≤ 1000 ∧ ∀ (p : Addr) (H' : Hp), H p = none → Same H H' → WellAt H' p 0 → Q (.ref p) H'
theorem ok__law_well {fa : Addr} {fd : FuncData} (F : Fun K "_law_well" "_law_well" s__law_well fa fd) (TX : Tx mg)
    (C__law_stir : Cal P w K mg base CX0 1 "_law_stir" ["seed", "turn"] (sp__law_stir K)) :
    FnOk P w K mg base CX0 2 fa fd ["cell", "k"] (sp__law_well K) := by
  refine F.ok sc__law_well (fun vs H Q E h => ?_) (fun cdv A outer s H vs Q E hr h => ?_)
  · obtain ⟨c, k, rfl, k0, k1, q⟩ := h
    rfl
  · obtain ⟨c, k, rfl, k0, k1, q⟩ := h
    have hu := hu_of hr
    have hu64 := hr.units
    have hu65 := hu65_of hr
    have e40 : (10 : Int) ^ Int.toNat 40 = 10000000000000000000000000000000000000000 := by decide +kernel
    have e18 : (10 : Int) ^ Int.toNat 18 = 1000000000000000000 := by decide +kernel
    have g1 := Int.emod_nonneg c (show (10000000000000000000000000000000000000000 : Int) ≠ 0 by decide)
    have g2 := Int.emod_lt_of_pos c (show (0 : Int) < 10000000000000000000000000000000000000000 by decide)
    refine ⟨_, (pss_cons (ps_set (i := 2) sc__law_well.nd rfl (Or.inl rfl) (pe_op op_add (pe_op op_mul (pe_op op_mod (pv 0) (pe_op op_pow pe_int pe_int)) pe_int) (pv 1)))
  (pss_cons (ps_if (pt_cmpR op_ge (pv 0) (pe_op op_pow pe_int pe_int) (nomark _)) (pss_one (ps_ret (pe_lst (pa_cons (pe_op op_sub (pv 0) (pe_op op_pow pe_int pe_int)) (pa_cons (pv 2) (pa_cons pe_int pa_nil)))))) pss_nil)
  (pss_one (ps_ret (pe_lst (pa_cons (pe_cal C__law_stir (hr.mono (by decide)) (by rfl) pass0 (pa_cons (pv 2) (pa_cons pe_int pa_nil))) (pa_cons (pv 2) (pa_cons pe_int pa_nil)))))))), ?_⟩
    refine r_begin (show L2.start _ _ = [some _, some _, none] from rfl) ?_
    try dsimp only [cxOf]
    walk_at "rr"
    rw [e40, e18]
    refine r_d (fun hc => ?_) (fun hc => ?_)
    · walk_at "rr"
      rw [e18]
      refine ⟨by show 3 ≤ sizeLine; decide, fun p hp => ?_⟩
      walk_at "rr"
      exact q p _ hp (same_new hp) ⟨_, _, _, upd_same, by omega, by omega, by omega, by decide, by decide⟩
    · walk_at "rr"
      refine ⟨_, 0, rfl, by omega, by omega, by decide, by decide, fun i i0 => ?_⟩
      walk_at "rr"
      refine ⟨by show 3 ≤ sizeLine; decide, fun p hp => ?_⟩
      exact q p _ hp (same_new hp) ⟨_, _, _, upd_same, i0, by omega, by omega, by decide, by decide⟩
/-! ### _law_draw -/
abbrev s__law_draw : Stmt := top 27
theorem sc__law_draw : FnScope ["well", "many", "taken"] ["well", "many"] (defScope s__law_draw) := ⟨rfl, rfl, rfl, by decide +kernel, rfl, by decide +kernel, by decide +kernel⟩
def sp__law_draw (_ : PySem.W.Frag) : Sp := fun vs H Q _ => ∃ (p : Addr) (m : Int) (n : Nat), vs = [.ref p, .int m] ∧ WellAt H p n ∧ 0 < m ∧ m.natAbs < 2 ^ 220 ∧ n < 1000000000 ∧
  ∀ (i : Int) (H' : Hp), 0 ≤ i → i < m → But p H H' → WellAt H' p (n + 1) → Q (.int i) H'
theorem ok__law_draw {fa : Addr} {fd : FuncData} (F : Fun K "_law_draw" "_law_draw" s__law_draw fa fd) (TX : Tx mg)
    (C__law_stir : Cal P w K mg base CX0 1 "_law_stir" ["seed", "turn"] (sp__law_stir K)) :
    FnOk P w K mg base CX0 2 fa fd ["well", "many"] (sp__law_draw K) := by
  refine F.ok sc__law_draw (fun vs H Q E h => ?_) (fun cdv A outer s H vs Q E hr h => ?_)
  · obtain ⟨p, m, n, rfl, ⟨a, b, c, eb, h0, h1, h2, h3, h4⟩, hm, hm2, hn, k⟩ := h
    rfl
  · obtain ⟨p, m, n, rfl, ⟨a, b, c, eb, h0, h1, h2, h3, h4⟩, hm, hm2, hn, k⟩ := h
    have hu := hu_of hr
    have hu64 := hr.units
    have hu65 := hu65_of hr
    refine ⟨_, (pss_cons (ps_if (pt_cmpR op_eq (pe_ix ix_list (pv 0) pe_int (fun _ _ => rfl)) pe_int (nomark _)) (pss_cons (ps_asg (pe_op op_add (pe_ix ix_list (pv 0) pe_int (fun _ _ => rfl)) pe_int) (pg_sub (pv 0) pe_int set_list))
  (pss_one (ps_asg (pe_cal C__law_stir (hr.mono (by decide)) (by rfl) pass0 (pa_cons (pe_ix ix_list (pv 0) pe_int (fun _ _ => rfl)) (pa_cons (pe_ix ix_list (pv 0) pe_int (fun _ _ => rfl)) pa_nil))) (pg_sub (pv 0) pe_int set_list)))) pss_nil)
  (pss_cons (ps_set (i := 2) sc__law_draw.nd rfl (Or.inl rfl) (pe_op op_mod (pe_ix ix_list (pv 0) pe_int (fun _ _ => rfl)) (pv 1)))
  (pss_cons (ps_asg (pe_op op_fdivW (pe_ix ix_list (pv 0) pe_int (fun _ _ => rfl)) (pv 1)) (pg_sub (pv 0) pe_int set_list))
  (pss_one (ps_ret (pv 2)))))), ?_⟩
    refine r_begin (show L2.start _ _ = [some _, some _, none] from rfl) ?_
    try dsimp only [cxOf]
    walk_at "rr"
    try rw [dint']
    refine r_d (fun hc => ?_) (fun hc => ?_)
    · walk_at "rr"
      refine r_setL (j := 2) (ys := [.int a, .int b, .int (c + 1)]) eb rfl rfl ?_
      have e2 : (upd H p (.lst [.int a, .int b, .int (c + 1)])) p = some (.lst [.int a, .int b, .int (c + 1)]) := upd_same
      walk_at "rr"
      refine ⟨b, c + 1, rfl, h1, h2, by omega, by omega, fun i i0 => ?_⟩
      walk_at "rr"
      refine r_setL (j := 0) (ys := [.int i, .int b, .int (c + 1)]) e2 rfl rfl ?_
      have e3 : (upd (upd H p (.lst [.int a, .int b, .int (c + 1)])) p (.lst [.int i, .int b, .int (c + 1)])) p = some (.lst [.int i, .int b, .int (c + 1)]) := upd_same
      walk_at "rr"
      refine r_setL (j := 0) (ys := [.int (i / m), .int b, .int (c + 1)]) e3 rfl rfl ?_
      walk_at "rr"
      exact k _ _ (Int.emod_nonneg _ (by omega)) (Int.emod_lt_of_pos _ hm) ((But.upd.trans But.upd).trans But.upd) ⟨_, _, _, upd_same, Int.ediv_nonneg i0 (by omega), h1, h2, by omega, by omega⟩
    · walk_at "rr"
      refine r_setL (j := 0) (ys := [.int (a / m), .int b, .int c]) eb rfl rfl ?_
      walk_at "rr"
      exact k _ _ (Int.emod_nonneg _ (by omega)) (Int.emod_lt_of_pos _ hm) But.upd ⟨_, _, _, upd_same, Int.ediv_nonneg h0 (by omega), h1, h2, h3, by omega⟩
/-! ### _law_wide -/
abbrev s__law_wide : Stmt := top 28
theorem sc__law_wide : FnScope ["well", "number"] ["well"] (defScope s__law_wide) := ⟨rfl, rfl, rfl, by decide +kernel, rfl, by decide +kernel, by decide +kernel⟩
def sp__law_wide (_ : PySem.W.Frag) : Sp := fun vs H Q _ => ∃ (p : Addr) (n : Nat), vs = [.ref p] ∧ WellAt H p n ∧ n + 10 < 1000000000 ∧
  ∀ (i : Int) (H' : Hp), 0 ≤ i → i < 10 ^ 60 → But p H H' → WellAt H' p (n + 3) → Q (.int i) H'
theorem ok__law_wide {fa : Addr} {fd : FuncData} (F : Fun K "_law_wide" "_law_wide" s__law_wide fa fd) (TX : Tx mg)
    (C__law_draw : Cal P w K mg base CX0 2 "_law_draw" ["well", "many"] (sp__law_draw K)) :
    FnOk P w K mg base CX0 3 fa fd ["well"] (sp__law_wide K) := by
  refine F.ok sc__law_wide (fun vs H Q E h => ?_) (fun cdv A outer s H vs Q E hr h => ?_)
  · obtain ⟨p, n, rfl, hw, hn, k⟩ := h
    rfl
  · obtain ⟨p, n, rfl, hw, hn, k⟩ := h
    have hu := hu_of hr
    have hu64 := hr.units
    have hu65 := hu65_of hr
    have e30 : (10 : Int) ^ Int.toNat 30 = 1000000000000000000000000000000 := by decide +kernel
    have e60 : (10 : Int) ^ 60 = 1000000000000000000000000000000000000000000000000000000000000 := by decide +kernel
    rw [e60] at k
    refine ⟨_, (pss_cons (ps_set (i := 1) sc__law_wide.nd rfl (Or.inl rfl) (pe_cal C__law_draw (hr.mono (by decide)) (by rfl) pass0 (pa_cons (pv 0) (pa_cons (pe_op op_powW pe_int pe_int) pa_nil))))
  (pss_cons (ps_if (pt_cmpR op_eq (pe_cal C__law_draw (hr.mono (by decide)) (by rfl) pass0 (pa_cons (pv 0) (pa_cons pe_int pa_nil))) pe_int (nomark _)) (pss_one (ps_set (i := 1) sc__law_wide.nd rfl (Or.inl rfl) (pe_op op_add (pe_op op_mulW (pv 1) (pe_op op_powW pe_int pe_int)) (pe_cal C__law_draw (hr.mono (by decide)) (by rfl) pass0 (pa_cons (pv 0) (pa_cons (pe_op op_powW pe_int pe_int) pa_nil)))))) pss_nil)
  (pss_one (ps_ret (pv 1))))), ?_⟩
    refine r_begin (show L2.start _ _ = [some _, none] from rfl) ?_
    try dsimp only [cxOf]
    walk_at "rr"
    rw [e30]
    refine ⟨p, _, _, rfl, hw, by decide, by decide, by omega, fun i H1 i0 i1 b1 W1 => ?_⟩
    walk_at "rr"
    refine ⟨p, 2, _, rfl, W1, by decide, by decide, by omega, fun j H2 _ _ b2 W2 => ?_⟩
    walk_at "rr"
    try rw [dint']
    refine r_d (fun hc => ?_) (fun hc => ?_)
    · walk_at "rr"
      rw [e30]
      refine ⟨p, _, _, rfl, W2, by decide, by decide, by omega, fun i2 H3 j0 j1 b3 W3 => ?_⟩
      walk_at "rr"
      exact k _ _ (by omega) (by omega) ((b1.trans b2).trans b3) (W3.mono (by omega))
    · walk_at "rr"
      exact k i _ i0 (by omega) (b1.trans b2) (W2.mono (by omega))
/-! ### _law_row -/
abbrev s__law_row : Stmt := top 29
theorem sc__law_row : FnScope ["well", "many", "words", "at", "number"] ["well", "many"] (defScope s__law_row) := ⟨rfl, rfl, rfl, by decide +kernel, rfl, by decide +kernel, by decide +kernel⟩
def sp__law_row (_ : PySem.W.Frag) : Sp := fun vs H Q _ => ∃ (p : Addr) (many : Int) (n : Nat), vs = [.ref p, .int many] ∧ WellAt H p n ∧ 0 ≤ many ∧ many ≤ 1000 ∧ n + 20 < 1000000000 ∧
  ∀ (t : Addr) (r : Row) (H' : Hp), H t = none → RowAt H' (.ref t) r → GoodRow many r → But p H H' → Q (.ref t) H'
def words17 : List Str := ["put", "pick", "drop", "lift", "go", "back", "keep", "call", "jump", "if", "add", "less", "box", "get", "set", "tell", "sweep"]
theorem word_at {i : Int} (h0 : 0 ≤ i) (h1 : i < 17) : ∃ s : Str, atI (words17.map V.str) i = some (.str s) ∧ (9 < i → s ∈ bare) ∧ (5 < i → i ≤ 9 → s ∈ leading) ∧ (0 < i → i ≤ 5 → s ∈ reaching) ∧ (i = 0 → s = "put") := by
  have c : i = 0 ∨ i = 1 ∨ i = 2 ∨ i = 3 ∨ i = 4 ∨ i = 5 ∨ i = 6 ∨ i = 7 ∨ i = 8 ∨ i = 9 ∨ i = 10 ∨ i = 11 ∨ i = 12 ∨ i = 13 ∨ i = 14 ∨ i = 15 ∨ i = 16 := by omega
  rcases c with rfl | rfl | rfl | rfl | rfl | rfl | rfl | rfl | rfl | rfl | rfl | rfl | rfl | rfl | rfl | rfl | rfl <;> exact ⟨_, rfl, by decide +kernel, by decide +kernel, by decide +kernel, by decide +kernel⟩
theorem ok__law_row {fa : Addr} {fd : FuncData} (F : Fun K "_law_row" "_law_row" s__law_row fa fd) (TX : Tx mg)
    (C__law_draw : Cal P w K mg base CX0 2 "_law_draw" ["well", "many"] (sp__law_draw K))
    (C__law_wide : Cal P w K mg base CX0 3 "_law_wide" ["well"] (sp__law_wide K)) :
    FnOk P w K mg base CX0 4 fa fd ["well", "many"] (sp__law_row K) := by
  refine F.ok sc__law_row (fun vs H Q E h => ?_) (fun cdv A outer s H vs Q E hr h => ?_)
  · obtain ⟨p, many, n, rfl, hw, m0, m1, hn, k⟩ := h
    rfl
  · obtain ⟨p, many, n, rfl, hw, m0, m1, hn, k⟩ := h
    have hu := hu_of hr
    have hu64 := hr.units
    have hu65 := hu65_of hr
    have p60 : (6 : Int) < 10 ^ 60 := by decide +kernel
    refine ⟨_, (pss_cons (ps_set (i := 2) sc__law_row.nd rfl (Or.inl rfl) (pe_lst (pa_cons pe_str (pa_cons pe_str (pa_cons pe_str (pa_cons pe_str (pa_cons pe_str (pa_cons pe_str (pa_cons pe_str (pa_cons pe_str (pa_cons pe_str (pa_cons pe_str (pa_cons pe_str (pa_cons pe_str (pa_cons pe_str (pa_cons pe_str pa_nil))))))))))))))))
  (pss_cons (ps_set (i := 2) sc__law_row.nd rfl (Or.inl rfl) (pe_op op_cat (pv 2) (pe_lst (pa_cons pe_str (pa_cons pe_str (pa_cons pe_str pa_nil))))))
  (pss_cons (ps_set (i := 3) sc__law_row.nd rfl (Or.inl rfl) (pe_cal C__law_draw (hr.mono (by decide)) (by rfl) pass0 (pa_cons (pv 0) (pa_cons pe_int pa_nil))))
  (pss_cons (ps_if (pt_cmpR op_gt (pv 3) pe_int (nomark _)) (pss_one (ps_ret (pe_tup (pa_cons (pe_ix ix_list (pv 2) (pv 3) (fun _ _ => rfl)) pa_nil)))) pss_nil)
  (pss_cons (ps_if (pt_cmpR op_gt (pv 3) pe_int (nomark _)) (pss_one (ps_ret (pe_tup (pa_cons (pe_ix ix_list (pv 2) (pv 3) (fun _ _ => rfl)) (pa_cons (pe_cal C__law_draw (hr.mono (by decide)) (by rfl) pass0 (pa_cons (pv 0) (pa_cons (pe_op op_add (pv 1) pe_int) pa_nil))) pa_nil))))) pss_nil)
  (pss_cons (ps_set (i := 4) sc__law_row.nd rfl (Or.inl rfl) (pe_cal C__law_draw (hr.mono (by decide)) (by rfl) pass0 (pa_cons (pv 0) (pa_cons pe_int pa_nil))))
  (pss_cons (ps_if (pt_cmpR op_eq (pe_cal C__law_draw (hr.mono (by decide)) (by rfl) pass0 (pa_cons (pv 0) (pa_cons pe_int pa_nil))) pe_int (nomark _)) (pss_one (ps_set (i := 4) sc__law_row.nd rfl (Or.inl rfl) (pe_cal C__law_wide (hr.mono (by decide)) (by rfl) pass0 (pa_cons (pv 0) pa_nil)))) pss_nil)
  (pss_cons (ps_if (pt_cmpR op_gt (pv 3) pe_int (nomark _)) (pss_one (ps_ret (pe_tup (pa_cons (pe_ix ix_list (pv 2) (pv 3) (fun _ _ => rfl)) (pa_cons (pv 4) pa_nil))))) pss_nil)
  (pss_one (ps_ret (pe_tup (pa_cons pe_str (pa_cons (pe_op op_mul (pv 4) (pe_op op_sub pe_int (pe_op op_mul pe_int (pe_cal C__law_draw (hr.mono (by decide)) (by rfl) pass0 (pa_cons (pv 0) (pa_cons pe_int pa_nil)))))) pa_nil))))))))))))), ?_⟩
    refine r_begin (show L2.start _ _ = [some _, some _, none, none, none] from rfl) ?_
    try dsimp only [cxOf]
    walk_at "rr"
    refine ⟨by show 14 ≤ sizeLine; decide, fun l1 hl1 => ?_⟩
    walk_at "rr"
    refine ⟨by show 3 ≤ sizeLine; decide, fun l2 hl2 => ?_⟩
    have nl : l1 ≠ l2 := fun e => by rw [← e, upd_same] at hl2; cases hl2
    walk_at "rr"
    refine r_cat (by rw [upd_ne nl]; exact upd_same) upd_same (sz (by simp)) fun c hc => ?_
    have ec : (upd (upd (upd H l1 (.lst [.str "put", .str "pick", .str "drop", .str "lift", .str "go", .str "back", .str "keep", .str "call", .str "jump", .str "if", .str "add", .str "less", .str "box", .str "get"])) l2 (.lst [.str "set", .str "tell", .str "sweep"])) c (.lst (words17.map V.str))) c = some (.lst (words17.map V.str)) := upd_same
    have s1 : Same H (upd (upd (upd H l1 (.lst [.str "put", .str "pick", .str "drop", .str "lift", .str "go", .str "back", .str "keep", .str "call", .str "jump", .str "if", .str "add", .str "less", .str "box", .str "get"])) l2 (.lst [.str "set", .str "tell", .str "sweep"])) c (.lst (words17.map V.str))) := ((same_new hl1).trans (same_new hl2)).trans (same_new hc)
    have hcH : H c = none := ((same_new hl1).trans (same_new hl2)).free hc
    show gName 2 _ _ (upd _ c (.lst (words17.map V.str))) _
    generalize upd (upd (upd H l1 (.lst [.str "put", .str "pick", .str "drop", .str "lift", .str "go", .str "back", .str "keep", .str "call", .str "jump", .str "if", .str "add", .str "less", .str "box", .str "get"])) l2 (.lst [.str "set", .str "tell", .str "sweep"])) c (.lst (words17.map V.str)) = H1 at ec s1 ⊢
    have W1 := hw.same s1
    have ncp : c ≠ p := fun e => hw.there (by rw [← e]; exact hcH)
    walk_at "rr"
    refine ⟨p, 17, _, rfl, W1, by decide, by decide, by omega, fun at_ H2 a0 a1 b2 W2 => ?_⟩
    have ec2 := b2 _ _ ec ncp
    obtain ⟨s, es, h9, h5, h1, h0⟩ := word_at a0 a1
    have b02 : But p H H2 := (But.of s1).trans b2
    have fin : ∀ (t : Addr) (r : Row) (H' : Hp), H' t = none → But p H2 H' → WellAt H' p 0 ∨ H' p ≠ none → GoodRow many r → Q (.ref t) (upd H' t (.tup (rowV r))) := fun t r H' ht b' hp' g =>
      k t r _ ((b02.trans b').free ht (hp'.elim WellAt.there id)) ⟨t, rfl, upd_same⟩ g ((b02.trans b').trans (But.of (same_new ht)))
    walk_at "rr"
    refine r_d (fun c9 => ?_) (fun c9 => ?_)
    · walk_at "rr"
      refine r_ixl ec2 es ?_
      walk_at "rr"
      refine ⟨by show 1 ≤ sizeLine; decide, fun t ht => ?_⟩
      exact fin t (s, none) H2 ht But.refl (.inr W2.there) (.bare (h9 (by omega)))
    walk_at "rr"
    refine r_d (fun c5 => ?_) (fun c5 => ?_)
    · walk_at "rr"
      refine r_ixl ec2 es ?_
      walk_at "rr"
      refine ⟨p, _, _, rfl, W2, by omega, by omega, by omega, fun d H3 d0 d1 b3 W3 => ?_⟩
      walk_at "rr"
      refine ⟨by show 2 ≤ sizeLine; decide, fun t ht => ?_⟩
      exact fin t (s, some d) H3 ht b3 (.inr W3.there) (.lead (h5 (by omega) (by omega)) d0 (by omega) m1)
    walk_at "rr"
    refine ⟨p, 6, _, rfl, W2, by decide, by decide, by omega, fun num H3 d0 d1 b3 W3 => ?_⟩
    walk_at "rr"
    refine ⟨p, 2, _, rfl, W3, by decide, by decide, by omega, fun two H4 _ _ b4 W4 => ?_⟩
    have b24 := b3.trans b4
    walk_at "rr"
    try rw [dint']
    refine r_d (fun c2 => ?_) (fun c2 => ?_)
    · walk_at "rr"
      refine ⟨p, _, rfl, W4, by omega, fun num H5 d0 d2 b5 W5 => ?_⟩
      have b25 := b24.trans b5
      have W5 := W5.mono (show n + 1 + 1 + 1 + 3 ≤ n + 10 by omega)
      walk_at "rr"
      refine r_d (fun c0 => ?_) (fun c0 => ?_)
      · walk_at "rr"
        refine r_ixl (b25 _ _ ec2 ncp) es ?_
        walk_at "rr"
        refine ⟨by show 2 ≤ sizeLine; decide, fun t ht => ?_⟩
        exact fin t (s, some num) H5 ht b25 (.inr W5.there) (.reach (h1 (by omega) (by omega)) d0 d2)
      · walk_at "rr"
        refine ⟨p, 2, _, rfl, W5, by decide, by decide, by omega, fun two H6 t0 t1 b6 W6 => ?_⟩
        walk_at "rr"
        refine ⟨by show 2 ≤ sizeLine; decide, fun t ht => ?_⟩
        have e2 : two = 0 ∨ two = 1 := by omega
        have g : GoodRow many ("put", some (num * (1 - 2 * two))) := by
          rcases e2 with e | e <;> rw [e]
          · rw [show (1 : Int) - 2 * 0 = 1 from rfl, Int.mul_one]
            exact .put (by omega) d2
          · rw [show (1 : Int) - 2 * 1 = -1 from rfl, Int.mul_neg, Int.mul_one]
            exact .put (by omega) (by omega)
        exact fin t _ H6 ht (b25.trans b6) (.inr W6.there) g
    · have b25 := b24
      have W5 := W4.mono (show n + 1 + 1 + 1 ≤ n + 10 by omega)
      have d2 : num < 10 ^ 60 := by omega
      obtain ⟨H5, rfl⟩ : ∃ z, z = H4 := ⟨_, rfl⟩
      walk_at "rr"
      refine r_d (fun c0 => ?_) (fun c0 => ?_)
      · walk_at "rr"
        refine r_ixl (b25 _ _ ec2 ncp) es ?_
        walk_at "rr"
        refine ⟨by show 2 ≤ sizeLine; decide, fun t ht => ?_⟩
        exact fin t (s, some num) H5 ht b25 (.inr W5.there) (.reach (h1 (by omega) (by omega)) d0 d2)
      · walk_at "rr"
        refine ⟨p, 2, _, rfl, W5, by decide, by decide, by omega, fun two H6 t0 t1 b6 W6 => ?_⟩
        walk_at "rr"
        refine ⟨by show 2 ≤ sizeLine; decide, fun t ht => ?_⟩
        have e2 : two = 0 ∨ two = 1 := by omega
        have g : GoodRow many ("put", some (num * (1 - 2 * two))) := by
          rcases e2 with e | e <;> rw [e]
          · rw [show (1 : Int) - 2 * 0 = 1 from rfl, Int.mul_one]
            exact .put (by omega) d2
          · rw [show (1 : Int) - 2 * 1 = -1 from rfl, Int.mul_neg, Int.mul_one]
            exact .put (by omega) (by omega)
        exact fin t _ H6 ht (b25.trans b6) (.inr W6.there) g
/-! ### _law_program -/
abbrev s__law_program : Stmt := top 30
theorem sc__law_program : FnScope ["cells", "most", "head", "many", "k"] ["cells", "most"] (defScope s__law_program) := ⟨rfl, rfl, rfl, by decide +kernel, rfl, by decide +kernel, by decide +kernel⟩
def sp__law_program (K : PySem.W.Frag) : Sp := fun vs H Q _ => ∃ (a : Addr) (ns : List Int) (most : Int), vs = [.ref a, .int most] ∧ SqL K H a (ns.map V.int) ∧ ns.length ≤ 63 ∧ 0 ≤ most ∧ most ≤ 100 ∧
  ∀ (l : Addr) (xs : List V) (rs : List Row) (H' : Hp), H l = none → Same H H' → H' l = some (.lst xs) → Paired (RowAt H') xs rs → (∀ r ∈ rs, GoodRow (rs.length : Int) r) → rs.length ≤ 100 → Q (.ref l) H'
theorem ok__law_program {fa : Addr} {fd : FuncData} (F : Fun K "_law_program" "_law_program" s__law_program fa fd) (TX : Tx mg)
    (C__law_cell_at : Cal P w K mg base CX0 1 "_law_cell_at" ["script", "k"] (sp__law_cell_at K))
    (C__law_draw : Cal P w K mg base CX0 2 "_law_draw" ["well", "many"] (sp__law_draw K))
    (C__law_row : Cal P w K mg base CX0 4 "_law_row" ["well", "many"] (sp__law_row K))
    (C__law_well : Cal P w K mg base CX0 2 "_law_well" ["cell", "k"] (sp__law_well K)) :
    FnOk P w K mg base CX0 5 fa fd ["cells", "most"] (sp__law_program K) := by
  refine F.ok sc__law_program (fun vs H Q E h => ?_) (fun cdv A outer s H vs Q E hr h => ?_)
  · obtain ⟨a, ns, most, rfl, hS, hn, m0, m1, k⟩ := h
    rfl
  · obtain ⟨a, ns, most, rfl, hS, hn, m0, m1, k⟩ := h
    have hu := hu_of hr
    have hu64 := hr.units
    have hu65 := hu65_of hr
    refine ⟨_, (pss_cons (ps_set (i := 2) sc__law_program.nd rfl (Or.inl rfl) (pe_cal C__law_well (hr.mono (by decide)) (by rfl) pass0 (pa_cons (pe_cal C__law_cell_at (hr.mono (by decide)) (by rfl) pass0 (pa_cons (pv 0) (pa_cons pe_int pa_nil))) (pa_cons pe_int pa_nil))))
  (pss_cons (ps_set (i := 3) sc__law_program.nd rfl (Or.inr rfl) (pe_callB (call_min2 rfl) (by rfl) TX.n_min (by decide +kernel) (pa_cons (pv 1) (pa_cons (pe_op op_add (pe_cal C__law_draw (hr.mono (by decide)) (by rfl) pass0 (pa_cons (pv 2) (pa_cons pe_int pa_nil))) (pe_callB (call_max2 rfl) (by rfl) TX.n_max (by decide +kernel) (pa_cons pe_int (pa_cons (pe_op op_sub (pe_callB call_len (by rfl) TX.n_len (by decide +kernel) (pa_cons (pv 0) pa_nil)) pe_int) pa_nil)))) pa_nil))))
  (pss_one (ps_ret (pe_lc (own := [("k", 4)]) (g := gName 4) (tt := tYes) rfl sc__law_program.nd (pi_range1 (by rfl) TX.range (pa_cons (pv 3) pa_nil)) (blkOk_by (own := [("k", 4)]) (N := ["cells", "most", "head", "many", "k"]) (sc := defScope s__law_program) (by decide +kernel)) (fun _ _ _ _ _ => (pg_name (i := 4) sc__law_program.nd rfl (Or.inl rfl))) (fun _ _ _ _ _ => pts_nil) (fun _ _ _ _ _ => (pe_cal C__law_row (hr.mono (by decide)) (by rfl) pass0 (pa_cons (pe_cal C__law_well (hr.mono (by decide)) (by rfl) pass0 (pa_cons (pe_cal C__law_cell_at (hr.mono (by decide)) (by rfl) pass0 (pa_cons (pv 0) (pa_cons (pe_op op_add pe_int (pv 4)) pa_nil))) (pa_cons (pv 4) pa_nil))) (pa_cons (pv 3) pa_nil))))))))), ?_⟩
    refine r_begin (show L2.start _ _ = [some _, some _, none, none, none] from rfl) ?_
    try dsimp only [cxOf]
    walk_at "rr"
    refine ⟨a, ns, 0, rfl, hS, by decide, hn, fun c => ?_⟩
    walk_at "rr"
    refine ⟨c, 63, rfl, by decide, by decide, fun p H1 hp s1 W1 => ?_⟩
    walk_at "rr"
    refine ⟨p, 5, _, rfl, W1, by decide, by decide, by decide, fun d H2 d0 d1 b2 W2 => ?_⟩
    have s2 : Same H H2 := But.back s1 hp b2
    walk_at "rr"
    refine ⟨_, _, rfl, .inl ⟨_, s2.seq hS, rfl⟩, ?_⟩
    rw [List.length_map]
    walk_at "rr"
    refine ⟨_, _, rfl, ?_⟩
    walk_at "rr"
    refine ⟨_, _, rfl, ?_⟩
    obtain ⟨m, em, hm⟩ : ∃ m : Nat, (if d + (if (ns.length : Int) - 1 > 0 then (ns.length : Int) - 1 else 0) < most then d + (if (ns.length : Int) - 1 > 0 then (ns.length : Int) - 1 else 0) else most) = (m : Int) ∧ m ≤ 100 := by
      refine ⟨(if d + (if (ns.length : Int) - 1 > 0 then (ns.length : Int) - 1 else 0) < most then d + (if (ns.length : Int) - 1 > 0 then (ns.length : Int) - 1 else 0) else most).toNat, ?_, ?_⟩ <;> (repeat' split) <;> omega
    walk_at "rr"
    rw [em]
    rw [Int.toNat_natCast]
    refine C_range (fun D i H3 => H2 D = none ∧ ∃ (xs : List V) (rs : List Row), H3 D = some (.lst xs) ∧ Same H2 H3 ∧ xs.length = i ∧ Paired (RowAt H3) xs rs ∧ ∀ r ∈ rs, GoodRow (m : Int) r)
      (fun D hD => ⟨hD, [], [], upd_same, same_new hD, rfl, .nil, fun r m => (by cases m)⟩) ?_ ?_
    · rintro D i H3 hi ⟨hD, xs, rs, eD, s3, lx, wr, g⟩
      walk_at "rr"
      refine ⟨a, ns, _, rfl, (s2.trans s3).seq hS, by omega, hn, fun c => ?_⟩
      walk_at "rr"
      refine ⟨c, _, rfl, by omega, by omega, fun p H4 hp s4 W4 => ?_⟩
      walk_at "rr"
      refine ⟨p, _, _, rfl, W4, by omega, by omega, by decide, fun t r H5 ht hr5 gr b5 => ?_⟩
      have s5 : Same H3 H5 := But.back s4 hp b5
      have eD5 := s5 _ _ eD
      have up : ∀ {v : V} {r : Row}, RowAt H5 v r → RowAt (upd H5 D (.lst (xs ++ [V.ref t]))) v r := by
        rintro v r ⟨a, e, h⟩
        exact ⟨a, e, by rw [upd_ne (fun e => by rw [e, eD5] at h; cases h)]; exact h⟩
      refine ⟨xs, eD5, szl (by omega), hD, xs ++ [V.ref t], rs ++ [r], upd_same, Same.own (s3.trans s5) hD, by rw [List.length_append, lx]; rfl, paired_app (Paired.mapP wr fun _ _ h => up (h.same s5)) (.cons (up hr5) .nil), fun x mx => ?_⟩
      rcases List.mem_append.mp mx with mx | mx
      · exact g x mx
      · rw [List.mem_singleton.mp mx]
        exact gr
    · rintro D H3 hD ⟨_, xs, rs, eD, s3, lx, wr, g⟩
      have lr := paired_len wr
      exact k D xs rs H3 (s2.free hD) (s2.trans s3) eD wr (by rw [← lr, lx]; exact g) (by omega)
/-! ### _law_shown -/
abbrev s__law_shown : Stmt := top 31
theorem sc__law_shown : FnScope ["rows", "parts", "row"] ["rows"] (defScope s__law_shown) := ⟨rfl, rfl, rfl, by decide +kernel, rfl, by decide +kernel, by decide +kernel⟩
def sp__law_shown (_ : PySem.W.Frag) : Sp := fun vs H Q _ => ∃ (a : Addr) (xs : List V) (rs : List Row), vs = [.ref a] ∧ H a = some (.lst xs) ∧ Paired (RowAt H) xs rs ∧ (∀ r ∈ rs, FairRow r) ∧ rs.length ≤ 100 ∧ ∀ z H', OkS z → z.length ≤ 8000 → Same H H' → Q (.str z) H'
theorem ok__law_shown {fa : Addr} {fd : FuncData} (F : Fun K "_law_shown" "_law_shown" s__law_shown fa fd) (TX : Tx mg) :
    FnOk P w K mg base CX0 1 fa fd ["rows"] (sp__law_shown K) := by
  refine F.ok sc__law_shown (fun vs H Q E h => ?_) (fun cdv A outer s H vs Q E hr h => ?_)
  · obtain ⟨a, xs, rs, rfl, ea, wr, g, l, q⟩ := h
    rfl
  · obtain ⟨a, xs, rs, rfl, ea, wr, g, l, q⟩ := h
    have hu := hu_of hr
    have hu64 := hr.units
    have hu65 := hu65_of hr
    have lx := paired_len wr
    refine ⟨_, (pss_cons (ps_set (i := 1) sc__law_shown.nd rfl (Or.inl rfl) (pe_lst pa_nil))
  (pss_cons (ps_for PassesOwn.never rfl (pi_list (pv 0)) (pg_name (i := 2) sc__law_shown.nd rfl (Or.inl rfl))
  (pss_one (ps_if (pt_cmpR op_eq (pe_callB call_len (by rfl) TX.n_len (by decide +kernel) (pa_cons (pv 2) pa_nil)) pe_int (nomark _)) (pss_one (ps_expr (pe_bm PySem.F.plainAttrs_list PySem.F.slot_list_append PySem.F.type_list_append mt_append (pv 1) (pa_cons (pe_ix ix_tup (pv 2) pe_int (fun _ _ => rfl)) pa_nil)))) (pss_one (ps_expr (pe_bm PySem.F.plainAttrs_list PySem.F.slot_list_append PySem.F.type_list_append mt_append (pv 1) (pa_cons (pe_op op_add_str (pe_op op_add_str (pe_ix ix_tup (pv 2) pe_int (fun _ _ => rfl)) pe_str) (pe_callTy call_str_int (by rfl) TX.n_str (by decide +kernel) (pa_cons (pe_ix ix_tup (pv 2) pe_int (fun _ _ => rfl)) pa_nil))) pa_nil)))))))
  (pss_one (ps_ret (pe_join pe_str (pv 1)))))), ?_⟩
    refine r_begin (show L2.start _ _ = [some _, none, none] from rfl) ?_
    try dsimp only [cxOf]
    walk_at "rr"
    refine ⟨Nat.zero_le _, fun z hz => ?_⟩
    walk_at "rr"
    have s1 := same_new (o := .lst []) hz
    have ez : (upd H z (.lst [])) z = some (.lst []) := upd_same
    have ea1 := s1 _ _ ea
    have nza : a ≠ z := ne_of_none ea hz
    generalize upd H z (.lst []) = H1 at s1 ez ea1 ⊢
    refine r_ilw ea1 ?_
    refine L_list (xs := xs) (fun i σ H2 => (∃ u, σ = [some (.ref a), some (.ref z), u]) ∧ Same H H2 ∧ ∃ ys : List Str, H2 z = some (.lst (ys.map V.str)) ∧ ys.length = i ∧ ∀ y ∈ ys, y.length ≤ 72 ∧ OkS y) ⟨⟨_, rfl⟩, s1, [], ez, rfl, fun y m => (by cases m)⟩ ?_ ?_ ?_
    · rintro i σ H2 hi ⟨⟨u, rfl⟩, s2, ys, e2, ly, oy⟩
      exact .inl (.inl (s2 _ _ ea))
    · rintro i x σ H2 hx ⟨⟨u, rfl⟩, s2, ys, e2, ly, oy⟩
      obtain ⟨r, er, t, rfl, et⟩ := L2.paired_get wr hx
      have hi : i < rs.length := (List.getElem?_eq_some_iff.mp er).1
      obtain ⟨g1, g2, g3⟩ := g r (List.mem_of_getElem? er)
      obtain ⟨s, o⟩ := r
      have g1 : OkS s := g1
      have g2 : s.length ≤ 10 := g2
      have put : ∀ (y : Str) (v : Option V), y.length ≤ 72 → OkS y → (∃ u, [some (V.ref a), some (V.ref z), some (.ref t)] = [some (.ref a), some (.ref z), u]) ∧ Same H (upd H2 z (.lst (ys.map V.str ++ [.str y]))) ∧ ∃ ys' : List Str, (upd H2 z (.lst (ys.map V.str ++ [.str y]))) z = some (.lst (ys'.map V.str)) ∧ ys'.length = i + 1 ∧ ∀ y ∈ ys', y.length ≤ 72 ∧ OkS y := fun y v l1 o1 =>
        ⟨⟨_, rfl⟩, Same.own s2 hz, ys ++ [y], by rw [upd_same, List.map_append]; rfl, by rw [List.length_append, ly]; rfl, fun y' m => (List.mem_append.mp m).elim (oy y') fun m => by rw [List.mem_singleton.mp m]; exact ⟨l1, o1⟩⟩
      cases o with
      | none =>
        have et' : H2 t = some (.tup [.str s]) := s2 _ _ et
        walk_at "rr"
        refine r_lent et' ?_
        walk_at "rr"
        refine r_itT (by rfl) ?_
        walk_at "rr"
        refine r_tyL e2 ?_
        walk_at "rr"
        (try refine r_ixt et' rfl ?_)
        walk_at "rr"
        refine r_app e2 (by rw [List.length_map]; exact szl (by omega)) ?_
        walk_at "rr"
        exact put s none (by omega) g1
      | some n =>
        have et' : H2 t = some (.tup [.str s, .int n]) := s2 _ _ et
        obtain ⟨b1, b2⟩ := g3 n rfl
        have nl := num_len b1 b2
        have e1 : (Str.ofString " ").length = 1 := by decide +kernel
        walk_at "rr"
        refine r_lent et' ?_
        walk_at "rr"
        refine r_itF (by rfl) ?_
        walk_at "rr"
        refine r_tyL e2 ?_
        walk_at "rr"
        (try refine r_ixt et' rfl ?_)
        walk_at "rr"
        refine ⟨_, _, rfl, rfl, sz (by rw [e1]; omega), ?_⟩
        walk_at "rr"
        (try refine r_ixt et' rfl ?_)
        walk_at "rr"
        first | refine ⟨_, rfl, log_60 b1 b2, ?_⟩ | refine .inl ⟨_, rfl, log_60 b1 b2, ?_⟩
        refine ⟨_, _, rfl, rfl, sz (by rw [len_app', e1]; omega), ?_⟩
        walk_at "rr"
        refine r_app e2 (by rw [List.length_map]; exact szl (by omega)) ?_
        walk_at "rr"
        exact put _ none (by rw [len_app', len_app', e1]; omega) (oks_app (oks_app g1 (by decide +kernel)) (oks_num n))
    · rintro σ H2 ⟨⟨u, rfl⟩, s2, ys, e2, ly, oy⟩
      have lS := sum_le (f := (·.length)) (l := ys) (k := 72) fun y m => (oy y m).1
      have e1 : (Str.ofString "; ").length = 2 := by decide +kernel
      have lj := join_len2 (y := Str.ofString "; ") (ys := ys)
      rw [e1] at lj
      walk_at "rr"
      refine ⟨Str.ofString "; ", z, ys, rfl, rfl, .inl (.inl (.inl e2)), by rw [e1]; omega, ?_⟩
      exact q _ H2 (join_ok2 (by decide +kernel) fun y m => (oy y m).2) (by omega) s2
/-! ### _law_number -/
abbrev s__law_number : Stmt := top 32
theorem sc__law_number : FnScope ["word", "figures", "sign"] ["word"] (defScope s__law_number) := ⟨rfl, rfl, rfl, by decide +kernel, rfl, by decide +kernel, by decide +kernel⟩
def sp__law_number (_ : PySem.W.Frag) : Sp := fun vs H Q _ => ∃ (z : Str), vs = [.str z] ∧ z.length ≤ 100000 ∧ (numOf z = none → Q .non H) ∧ ∀ n, numOf z = some n → Q (.int n) H
theorem ok__law_number {fa : Addr} {fd : FuncData} (F : Fun K "_law_number" "_law_number" s__law_number fa fd) (TX : Tx mg) :
    FnOk P w K mg base CX0 1 fa fd ["word"] (sp__law_number K) := by
  refine F.ok sc__law_number (fun vs H Q E h => ?_) (fun cdv A outer s H vs Q E hr h => ?_)
  · obtain ⟨z, rfl, hz, qx, q⟩ := h
    rfl
  · obtain ⟨z, rfl, hz, qx, q⟩ := h
    have hu := hu_of hr
    have hu64 := hr.units
    have hu65 := hu65_of hr
    have zl : z.length ≤ sizeLine := sz (by omega)
    refine ⟨_, (pss_cons (ps_set (i := 1) sc__law_number.nd rfl (Or.inl rfl) (pv 0))
  (pss_cons (ps_if (pt_cmpR op_eq (pe_slice sl_str (pv 0) po_none (po_some pe_int)) pe_str (nomark _)) (pss_one (ps_set (i := 1) sc__law_number.nd rfl (Or.inl rfl) (pe_slice sl_str (pv 0) (po_some pe_int) po_none))) pss_nil)
  (pss_cons (ps_if (PW.pt (pw_or (pt_cmpR op_eq (pv 1) pe_str (nomark _)) (pw_or (pt_cmpR op_gt (pe_callB call_len (by rfl) TX.n_len (by decide +kernel) (pa_cons (pv 1) pa_nil)) pe_int (nomark _)) (pw_or1 (PW.pt (pw_and (pt_cmpR op_eq (pe_ix ix_str (pv 1) pe_int (fun _ _ => rfl)) pe_str (nomark _)) (pw_and1 (pt_cmpR op_ne (pv 0) pe_str (nomark _))))))))) (pss_one (ps_ret pe_non)) pss_nil)
  (pss_cons (ps_for PassesOwn.never rfl (pi_str (pv 1)) (pg_name (i := 2) sc__law_number.nd rfl (Or.inl rfl))
  (pss_one (ps_if (pt_cmpR op_notIn_sign (pv 2) pe_str rfl) (pss_one (ps_ret pe_non)) pss_nil)))
  (pss_cons (ps_if (pt_cmpR op_eq (pe_ix ix_str (pv 0) pe_int (fun _ _ => rfl)) pe_str (nomark _)) (pss_one (ps_ret (pe_un un_neg (pe_callTy call_int_str (by rfl) TX.n_int (by decide +kernel) (pa_cons (pv 1) pa_nil))))) pss_nil)
  (pss_one (ps_ret (pe_callTy call_int_str (by rfl) TX.n_int (by decide +kernel) (pa_cons (pv 1) pa_nil))))))))), ?_⟩
    refine r_begin (show L2.start _ _ = [some _, none, none] from rfl) ?_
    try dsimp only [cxOf]
    walk_at "rr"
    refine r_slS zl ?_
    cases ez : tl z with
    | nil =>
      have z0 := tl_nil.mp ez
      rw [head_none ez]
      walk_at "rr"
      (try rw [dstr])
      refine r_itF (by decide +kernel) ?_
      walk_at "rr"
      (try rw [dstr])
      refine r_itT (decide_eq_true z0) ?_
      walk_at "rr"
      exact qx (by rw [z0]; exact num_nil)
    | cons c r =>
      rw [head_sign ez]
      walk_at "rr"
      (try rw [dstr])
      by_cases c45 : c = 45
      · subst c45
        refine r_itT (decide_eq_true ((sign_eq (s := "-") (d := 45) (by decide +kernel)).mpr rfl)) ?_
        have D := NumF.minus ez
        walk_at "rr"
        refine r_slS zl ?_
        walk_at "rr"
        generalize cutS z (some 1) none = F at D ⊢
        obtain ⟨cc, hcc⟩ : ∃ cc : Nat, cc = 45 := ⟨45, rfl⟩
        rw [← hcc] at D
        obtain ⟨len, ⟨r', hdz⟩, hno, hn0, hy0, hm1, hp1⟩ := D
        have atz : atI z.cps.toList 0 = some cc := by
          rw [show z.cps.toList = tl z from rfl, hdz]
          exact atI0 _ _
        have zl2 : z.length ≤ sizeLine := sz (by omega)
        (try rw [dstr])
        refine r_d (c := F = Str.ofString "") (fun h0 => ?_) (fun h0 => ?_)
        · walk_at "rr"
          exact qx (hno (by rw [tl_nil.mpr h0]; rfl))
        walk_at "rr"
        refine r_lenS (sz (by omega)) ?_
        walk_at "rr"
        refine r_d (fun h60 => ?_) (fun h60 => ?_)
        · walk_at "rr"
          exact qx (hno (figs_long (by rw [← len_tl]; omega)))
        walk_at "rr"
        obtain ⟨c1, r1, eF⟩ : ∃ c1 r1, tl F = c1 :: r1 := by
          cases e : tl F with
          | nil => exact absurd (tl_nil.mp e) h0
          | cons c r => exact ⟨c, r, rfl⟩
        have atF : atI (Str.cps F).toList 0 = some c1 := by
          rw [show (Str.cps F).toList = tl F from rfl, eF]
          exact atI0 _ _
        have l60 : (tl F).length ≤ 60 := by
          rw [← len_tl]
          omega
        refine r_ixS (sz (by omega)) atF ?_
        walk_at "rr"
        (try rw [dstr])
        by_cases h48 : c1 = 48 ∧ z ≠ Str.ofString "0"
        · refine r_itT (decide_eq_true ((sign_eq (s := "0") (d := 48) (by decide +kernel)).mpr h48.1)) ?_
          walk_at "rr"
          (try rw [dstr])
          refine r_itT (by rw [decide_eq_false h48.2]; rfl) ?_
          walk_at "rr"
          exact qx (hn0 h48.2 ⟨r1, by rw [eF, h48.1]⟩)
        · have hns : c1 ≠ 48 ∨ z = Str.ofString "0" := by
            by_cases c : c1 = 48
            · exact .inr (Classical.byContradiction fun n => h48 ⟨c, n⟩)
            · exact .inl c
          by_cases c48 : c1 = 48
          · have z0 := hns.resolve_left fun n => n c48
            refine r_itT (decide_eq_true ((sign_eq (s := "0") (d := 48) (by decide +kernel)).mpr c48)) ?_
            walk_at "rr"
            (try rw [dstr])
            refine r_itF (by rw [decide_eq_true z0]; rfl) ?_
            walk_at "rr"
            refine ⟨F, rfl, ?_⟩
            refine L_it walk_str (fun i σ H1 => (∃ u, σ = [some (.str z), some (.str F), u]) ∧ H1 = H ∧ ∀ d ∈ (tl F).take i, figB d = true) ⟨⟨_, rfl⟩, rfl, fun d m => by simp at m⟩ (fun _ _ _ _ _ => trivial) ?_ ?_
            · rintro i x σ H1 H2 hi ⟨⟨u, rfl⟩, e1, hall⟩ ⟨e2, d, ed, rfl⟩
              have e3 : (tl F)[i]? = some d := by rw [← ed]; simp
              walk_at "rr"
              refine ⟨d, _, rfl, rfl, ?_⟩
              (try refine r_bl ?_)
              refine r_nd (fun hd => ?_) (fun hd => ?_)
              · walk_at "rr"
                rw [e2, e1]
                exact qx (hno (figs_bad (List.mem_of_getElem? e3) (by
                  cases hf : figB d with
                  | true => exact absurd (fig_mem.mpr hf) hd
                  | false => rfl)))
              · walk_at "rr"
                refine ⟨⟨_, rfl⟩, e2.trans e1, fun c m => ?_⟩
                rw [List.take_add_one, e3] at m
                rcases List.mem_append.mp m with m | m
                · exact hall c m
                · rw [show c = d by simpa using m]
                  exact fig_mem.mp hd
            · rintro σ H1 ⟨⟨u, rfl⟩, rfl, hall⟩
              have hall : ∀ d ∈ tl F, figB d = true := fun d m => hall d (by rw [List.take_of_length_le (by rw [← len_tl]; exact Nat.le_refl _)]; exact m)
              have fin := fin_of hall (by rw [eF]; simp) l60
              have lF : (Str.length F) ≤ 60 := by rw [len_tl]; exact l60
              have fok : figsOk (tl F) = true := by
                rw [eF]
                refine figs_ok (by rw [← eF]; exact l60) (fun d m => hall d (by rw [eF]; exact m)) ?_
                rcases hns with h | h
                · exact .inl h
                · obtain ⟨h1, _⟩ := hy0 h
                  rw [eF] at h1
                  injection h1 with _ h2
                  exact .inr h2
              walk_at "rr"
              by_cases m45 : cc = 45
              · refine r_ixS zl2 atz ?_
                walk_at "rr"
                (try rw [dstr])
                refine r_itT (decide_eq_true ((sign_eq (s := "-") (d := 45) (by decide +kernel)).mpr m45)) ?_
                walk_at "rr"
                refine ⟨F, _, rfl, fin, by omega, ?_⟩
                walk_at "rr"
                refine q _ (hm1 m45 fok fun r h => ?_)
                rw [eF] at h
                injection h with h1 _
                exact (hy0 (hns.resolve_left fun n => n h1)).2 m45
              · refine r_ixS zl2 atz ?_
                walk_at "rr"
                (try rw [dstr])
                refine r_itF (decide_eq_false fun e => m45 ((sign_eq (s := "-") (d := 45) (by decide +kernel)).mp e)) ?_
                walk_at "rr"
                exact ⟨F, _, rfl, fin, by omega, q _ (hp1 m45 fok)⟩
          · refine r_itF (decide_eq_false fun e => c48 ((sign_eq (s := "0") (d := 48) (by decide +kernel)).mp e)) ?_
            walk_at "rr"
            refine ⟨F, rfl, ?_⟩
            refine L_it walk_str (fun i σ H1 => (∃ u, σ = [some (.str z), some (.str F), u]) ∧ H1 = H ∧ ∀ d ∈ (tl F).take i, figB d = true) ⟨⟨_, rfl⟩, rfl, fun d m => by simp at m⟩ (fun _ _ _ _ _ => trivial) ?_ ?_
            · rintro i x σ H1 H2 hi ⟨⟨u, rfl⟩, e1, hall⟩ ⟨e2, d, ed, rfl⟩
              have e3 : (tl F)[i]? = some d := by rw [← ed]; simp
              walk_at "rr"
              refine ⟨d, _, rfl, rfl, ?_⟩
              (try refine r_bl ?_)
              refine r_nd (fun hd => ?_) (fun hd => ?_)
              · walk_at "rr"
                rw [e2, e1]
                exact qx (hno (figs_bad (List.mem_of_getElem? e3) (by
                  cases hf : figB d with
                  | true => exact absurd (fig_mem.mpr hf) hd
                  | false => rfl)))
              · walk_at "rr"
                refine ⟨⟨_, rfl⟩, e2.trans e1, fun c m => ?_⟩
                rw [List.take_add_one, e3] at m
                rcases List.mem_append.mp m with m | m
                · exact hall c m
                · rw [show c = d by simpa using m]
                  exact fig_mem.mp hd
            · rintro σ H1 ⟨⟨u, rfl⟩, rfl, hall⟩
              have hall : ∀ d ∈ tl F, figB d = true := fun d m => hall d (by rw [List.take_of_length_le (by rw [← len_tl]; exact Nat.le_refl _)]; exact m)
              have fin := fin_of hall (by rw [eF]; simp) l60
              have lF : (Str.length F) ≤ 60 := by rw [len_tl]; exact l60
              have fok : figsOk (tl F) = true := by
                rw [eF]
                refine figs_ok (by rw [← eF]; exact l60) (fun d m => hall d (by rw [eF]; exact m)) ?_
                rcases hns with h | h
                · exact .inl h
                · obtain ⟨h1, _⟩ := hy0 h
                  rw [eF] at h1
                  injection h1 with _ h2
                  exact .inr h2
              walk_at "rr"
              by_cases m45 : cc = 45
              · refine r_ixS zl2 atz ?_
                walk_at "rr"
                (try rw [dstr])
                refine r_itT (decide_eq_true ((sign_eq (s := "-") (d := 45) (by decide +kernel)).mpr m45)) ?_
                walk_at "rr"
                refine ⟨F, _, rfl, fin, by omega, ?_⟩
                walk_at "rr"
                refine q _ (hm1 m45 fok fun r h => ?_)
                rw [eF] at h
                injection h with h1 _
                exact (hy0 (hns.resolve_left fun n => n h1)).2 m45
              · refine r_ixS zl2 atz ?_
                walk_at "rr"
                (try rw [dstr])
                refine r_itF (decide_eq_false fun e => m45 ((sign_eq (s := "-") (d := 45) (by decide +kernel)).mp e)) ?_
                walk_at "rr"
                exact ⟨F, _, rfl, fin, by omega, q _ (hp1 m45 fok)⟩
      · refine r_itF (decide_eq_false fun e => c45 ((sign_eq (s := "-") (d := 45) (by decide +kernel)).mp e)) ?_
        have D := NumF.plain ez c45
        obtain ⟨cc, hcc⟩ : ∃ cc, cc = c := ⟨c, rfl⟩
        rw [← hcc] at D
        walk_at "rr"
        obtain ⟨len, ⟨r', hdz⟩, hno, hn0, hy0, hm1, hp1⟩ := D
        have atz : atI z.cps.toList 0 = some cc := by
          rw [show z.cps.toList = tl z from rfl, hdz]
          exact atI0 _ _
        have zl2 : z.length ≤ sizeLine := sz (by omega)
        (try rw [dstr])
        refine r_d (c := z = Str.ofString "") (fun h0 => ?_) (fun h0 => ?_)
        · walk_at "rr"
          exact qx (hno (by rw [tl_nil.mpr h0]; rfl))
        walk_at "rr"
        refine r_lenS (sz (by omega)) ?_
        walk_at "rr"
        refine r_d (fun h60 => ?_) (fun h60 => ?_)
        · walk_at "rr"
          exact qx (hno (figs_long (by rw [← len_tl]; omega)))
        walk_at "rr"
        obtain ⟨c1, r1, eF⟩ : ∃ c1 r1, tl z = c1 :: r1 := by
          cases e : tl z with
          | nil => exact absurd (tl_nil.mp e) h0
          | cons c r => exact ⟨c, r, rfl⟩
        have atF : atI (Str.cps z).toList 0 = some c1 := by
          rw [show (Str.cps z).toList = tl z from rfl, eF]
          exact atI0 _ _
        have l60 : (tl z).length ≤ 60 := by
          rw [← len_tl]
          omega
        refine r_ixS (sz (by omega)) atF ?_
        walk_at "rr"
        (try rw [dstr])
        by_cases h48 : c1 = 48 ∧ z ≠ Str.ofString "0"
        · refine r_itT (decide_eq_true ((sign_eq (s := "0") (d := 48) (by decide +kernel)).mpr h48.1)) ?_
          walk_at "rr"
          (try rw [dstr])
          refine r_itT (by rw [decide_eq_false h48.2]; rfl) ?_
          walk_at "rr"
          exact qx (hn0 h48.2 ⟨r1, by rw [eF, h48.1]⟩)
        · have hns : c1 ≠ 48 ∨ z = Str.ofString "0" := by
            by_cases c : c1 = 48
            · exact .inr (Classical.byContradiction fun n => h48 ⟨c, n⟩)
            · exact .inl c
          by_cases c48 : c1 = 48
          · have z0 := hns.resolve_left fun n => n c48
            refine r_itT (decide_eq_true ((sign_eq (s := "0") (d := 48) (by decide +kernel)).mpr c48)) ?_
            walk_at "rr"
            (try rw [dstr])
            refine r_itF (by rw [decide_eq_true z0]; rfl) ?_
            walk_at "rr"
            refine ⟨z, rfl, ?_⟩
            refine L_it walk_str (fun i σ H1 => (∃ u, σ = [some (.str z), some (.str z), u]) ∧ H1 = H ∧ ∀ d ∈ (tl z).take i, figB d = true) ⟨⟨_, rfl⟩, rfl, fun d m => by simp at m⟩ (fun _ _ _ _ _ => trivial) ?_ ?_
            · rintro i x σ H1 H2 hi ⟨⟨u, rfl⟩, e1, hall⟩ ⟨e2, d, ed, rfl⟩
              have e3 : (tl z)[i]? = some d := by rw [← ed]; simp
              walk_at "rr"
              refine ⟨d, _, rfl, rfl, ?_⟩
              (try refine r_bl ?_)
              refine r_nd (fun hd => ?_) (fun hd => ?_)
              · walk_at "rr"
                rw [e2, e1]
                exact qx (hno (figs_bad (List.mem_of_getElem? e3) (by
                  cases hf : figB d with
                  | true => exact absurd (fig_mem.mpr hf) hd
                  | false => rfl)))
              · walk_at "rr"
                refine ⟨⟨_, rfl⟩, e2.trans e1, fun c m => ?_⟩
                rw [List.take_add_one, e3] at m
                rcases List.mem_append.mp m with m | m
                · exact hall c m
                · rw [show c = d by simpa using m]
                  exact fig_mem.mp hd
            · rintro σ H1 ⟨⟨u, rfl⟩, rfl, hall⟩
              have hall : ∀ d ∈ tl z, figB d = true := fun d m => hall d (by rw [List.take_of_length_le (by rw [← len_tl]; exact Nat.le_refl _)]; exact m)
              have fin := fin_of hall (by rw [eF]; simp) l60
              have lF : (Str.length z) ≤ 60 := by rw [len_tl]; exact l60
              have fok : figsOk (tl z) = true := by
                rw [eF]
                refine figs_ok (by rw [← eF]; exact l60) (fun d m => hall d (by rw [eF]; exact m)) ?_
                rcases hns with h | h
                · exact .inl h
                · obtain ⟨h1, _⟩ := hy0 h
                  rw [eF] at h1
                  injection h1 with _ h2
                  exact .inr h2
              walk_at "rr"
              by_cases m45 : cc = 45
              · refine r_ixS zl2 atz ?_
                walk_at "rr"
                (try rw [dstr])
                refine r_itT (decide_eq_true ((sign_eq (s := "-") (d := 45) (by decide +kernel)).mpr m45)) ?_
                walk_at "rr"
                refine ⟨z, _, rfl, fin, by omega, ?_⟩
                walk_at "rr"
                refine q _ (hm1 m45 fok fun r h => ?_)
                rw [eF] at h
                injection h with h1 _
                exact (hy0 (hns.resolve_left fun n => n h1)).2 m45
              · refine r_ixS zl2 atz ?_
                walk_at "rr"
                (try rw [dstr])
                refine r_itF (decide_eq_false fun e => m45 ((sign_eq (s := "-") (d := 45) (by decide +kernel)).mp e)) ?_
                walk_at "rr"
                exact ⟨z, _, rfl, fin, by omega, q _ (hp1 m45 fok)⟩
          · refine r_itF (decide_eq_false fun e => c48 ((sign_eq (s := "0") (d := 48) (by decide +kernel)).mp e)) ?_
            walk_at "rr"
            refine ⟨z, rfl, ?_⟩
            refine L_it walk_str (fun i σ H1 => (∃ u, σ = [some (.str z), some (.str z), u]) ∧ H1 = H ∧ ∀ d ∈ (tl z).take i, figB d = true) ⟨⟨_, rfl⟩, rfl, fun d m => by simp at m⟩ (fun _ _ _ _ _ => trivial) ?_ ?_
            · rintro i x σ H1 H2 hi ⟨⟨u, rfl⟩, e1, hall⟩ ⟨e2, d, ed, rfl⟩
              have e3 : (tl z)[i]? = some d := by rw [← ed]; simp
              walk_at "rr"
              refine ⟨d, _, rfl, rfl, ?_⟩
              (try refine r_bl ?_)
              refine r_nd (fun hd => ?_) (fun hd => ?_)
              · walk_at "rr"
                rw [e2, e1]
                exact qx (hno (figs_bad (List.mem_of_getElem? e3) (by
                  cases hf : figB d with
                  | true => exact absurd (fig_mem.mpr hf) hd
                  | false => rfl)))
              · walk_at "rr"
                refine ⟨⟨_, rfl⟩, e2.trans e1, fun c m => ?_⟩
                rw [List.take_add_one, e3] at m
                rcases List.mem_append.mp m with m | m
                · exact hall c m
                · rw [show c = d by simpa using m]
                  exact fig_mem.mp hd
            · rintro σ H1 ⟨⟨u, rfl⟩, rfl, hall⟩
              have hall : ∀ d ∈ tl z, figB d = true := fun d m => hall d (by rw [List.take_of_length_le (by rw [← len_tl]; exact Nat.le_refl _)]; exact m)
              have fin := fin_of hall (by rw [eF]; simp) l60
              have lF : (Str.length z) ≤ 60 := by rw [len_tl]; exact l60
              have fok : figsOk (tl z) = true := by
                rw [eF]
                refine figs_ok (by rw [← eF]; exact l60) (fun d m => hall d (by rw [eF]; exact m)) ?_
                rcases hns with h | h
                · exact .inl h
                · obtain ⟨h1, _⟩ := hy0 h
                  rw [eF] at h1
                  injection h1 with _ h2
                  exact .inr h2
              walk_at "rr"
              by_cases m45 : cc = 45
              · refine r_ixS zl2 atz ?_
                walk_at "rr"
                (try rw [dstr])
                refine r_itT (decide_eq_true ((sign_eq (s := "-") (d := 45) (by decide +kernel)).mpr m45)) ?_
                walk_at "rr"
                refine ⟨z, _, rfl, fin, by omega, ?_⟩
                walk_at "rr"
                refine q _ (hm1 m45 fok fun r h => ?_)
                rw [eF] at h
                injection h with h1 _
                exact (hy0 (hns.resolve_left fun n => n h1)).2 m45
              · refine r_ixS zl2 atz ?_
                walk_at "rr"
                (try rw [dstr])
                refine r_itF (decide_eq_false fun e => m45 ((sign_eq (s := "-") (d := 45) (by decide +kernel)).mp e)) ?_
                walk_at "rr"
                exact ⟨z, _, rfl, fin, by omega, q _ (hp1 m45 fok)⟩
/-! ### _law_sign -/
abbrev s__law_sign : Stmt := top 33
theorem sc__law_sign : FnScope ["well", "signs"] ["well"] (defScope s__law_sign) := ⟨rfl, rfl, rfl, by decide +kernel, rfl, by decide +kernel, by decide +kernel⟩
def sp__law_sign (_ : PySem.W.Frag) : Sp := fun vs H Q _ => ∃ (p : Addr) (n : Nat), vs = [.ref p] ∧ WellAt H p n ∧ n + 10 < 1000000000 ∧
  ∀ (c : Nat) (H' : Hp), c < 1114112 → But p H H' → WellAt H' p (n + 2) → Q (.str ⟨#[c]⟩) H'
theorem ok__law_sign {fa : Addr} {fd : FuncData} (F : Fun K "_law_sign" "_law_sign" s__law_sign fa fd) (TX : Tx mg)
    (C__law_draw : Cal P w K mg base CX0 2 "_law_draw" ["well", "many"] (sp__law_draw K)) :
    FnOk P w K mg base CX0 3 fa fd ["well"] (sp__law_sign K) := by
  refine F.ok sc__law_sign (fun vs H Q E h => ?_) (fun cdv A outer s H vs Q E hr h => ?_)
  · obtain ⟨p, n, rfl, hb, hn, k⟩ := h
    rfl
  · obtain ⟨p, n, rfl, hb, hn, k⟩ := h
    have hu := hu_of hr
    have hu64 := hr.units
    have hu65 := hu65_of hr
    refine ⟨_, (pss_cons (ps_set (i := 1) sc__law_sign.nd rfl (Or.inl rfl) pe_str)
  (pss_cons (ps_set (i := 1) sc__law_sign.nd rfl (Or.inl rfl) (pe_op op_add_str (pv 1) pe_str))
  (pss_cons (ps_if (pt_cmpR op_eq (pe_cal C__law_draw (hr.mono (by decide)) (by rfl) pass0 (pa_cons (pv 0) (pa_cons pe_int pa_nil))) pe_int (nomark _)) (pss_one (ps_set (i := 1) sc__law_sign.nd rfl (Or.inl rfl) pe_str)) pss_nil)
  (pss_one (ps_ret (pe_ix ix_str (pv 1) (pe_cal C__law_draw (hr.mono (by decide)) (by rfl) pass0 (pa_cons (pv 0) (pa_cons (pe_callB call_len (by rfl) TX.n_len (by decide +kernel) (pa_cons (pv 1) pa_nil)) pa_nil))) (fun _ _ => rfl))))))), ?_⟩
    refine r_begin (show L2.start _ _ = [some _, none] from rfl) ?_
    try dsimp only [cxOf]
    walk_at "rr"
    refine ⟨_, _, rfl, rfl, by decide +kernel, ?_⟩
    walk_at "rr"
    refine ⟨p, 2, n, rfl, hb, by decide, by decide, by omega, fun i H1 i0 i4 b1 B1 => ?_⟩
    walk_at "rr"
    refine r_d (fun h => ?_) (fun h => ?_)
    · walk_at "rr"
      refine r_lenS (by decide +kernel) ?_
      walk_at "rr"
      refine ⟨p, _, _, rfl, B1, by decide +kernel, by decide +kernel, by omega, fun j H2 j0 j4 b2 B2 => ?_⟩
      exact r_ixSm (by decide +kernel) j0 j4 fun c m => k c H2 (oks_iff.mp (by decide +kernel) c m) (b1.trans b2) B2
    · walk_at "rr"
      refine r_lenS (by decide +kernel) ?_
      walk_at "rr"
      refine ⟨p, _, _, rfl, B1, by decide +kernel, by decide +kernel, by omega, fun j H2 j0 j4 b2 B2 => ?_⟩
      exact r_ixSm (by decide +kernel) j0 j4 fun c m => k c H2 (oks_iff.mp (by decide +kernel) c m) (b1.trans b2) B2
/-! ### _law_odd -/
abbrev s__law_odd : Stmt := top 34
theorem sc__law_odd : FnScope ["well", "some"] ["well"] (defScope s__law_odd) := ⟨rfl, rfl, rfl, by decide +kernel, rfl, by decide +kernel, by decide +kernel⟩
def sp__law_odd (_ : PySem.W.Frag) : Sp := fun vs H Q _ => ∃ (p : Addr) (n : Nat), vs = [.ref p] ∧ WellAt H p n ∧ n + 10 < 1000000000 ∧
  ∀ (z : Str) (H' : Hp), z.length ≤ 70 → OkS z → But p H H' → WellAt H' p (n + 1) → Q (.str z) H'
def odA : List Str := ["", "-0", "00", "01", "+1", "1_0", "0x1", "-1", "@1", "b1", "g0", "1.0", "--1", "-", "1e3", "10", "7", " 1"]
def odB : List Str := ["put", "Put", "puts", "pu", "at", "go", "pick", "add", "if", "tell", "none", "sweep", "keep", "1 "]
def odC : List Str := ["drop", "lift", "back", "call", "jump", "less", "box", "get", "set"]
def odD : List Str := [Str.ofString (toString ((10 : Int) ^ 60)), Str.ofString (toString ((10 : Int) ^ 60 - 1)), Str.ofString (toString (-((10 : Int) ^ 60))), Str.ofString (toString (1 - (10 : Int) ^ 60)), "0" ++ Str.ofString (toString ((10 : Int) ^ 59))]
theorem od_len : ∀ z ∈ odA ++ odB ++ odC ++ odD, z.length ≤ 70 ∧ OkS z := by decide +kernel
theorem ok__law_odd {fa : Addr} {fd : FuncData} (F : Fun K "_law_odd" "_law_odd" s__law_odd fa fd) (TX : Tx mg)
    (C__law_draw : Cal P w K mg base CX0 2 "_law_draw" ["well", "many"] (sp__law_draw K)) :
    FnOk P w K mg base CX0 3 fa fd ["well"] (sp__law_odd K) := by
  refine F.ok sc__law_odd (fun vs H Q E h => ?_) (fun cdv A outer s H vs Q E hr h => ?_)
  · obtain ⟨p, n, rfl, hb, hn, q⟩ := h
    rfl
  · obtain ⟨p, n, rfl, hb, hn, q⟩ := h
    have hu := hu_of hr
    have hu64 := hr.units
    have hu65 := hu65_of hr
    refine ⟨_, (pss_cons (ps_set (i := 1) sc__law_odd.nd rfl (Or.inl rfl) (pe_lst (pa_cons pe_str (pa_cons pe_str (pa_cons pe_str (pa_cons pe_str (pa_cons pe_str (pa_cons pe_str (pa_cons pe_str (pa_cons pe_str (pa_cons pe_str (pa_cons pe_str (pa_cons pe_str (pa_cons pe_str (pa_cons pe_str (pa_cons pe_str (pa_cons pe_str (pa_cons pe_str (pa_cons pe_str (pa_cons pe_str pa_nil))))))))))))))))))))
  (pss_cons (ps_set (i := 1) sc__law_odd.nd rfl (Or.inl rfl) (pe_op op_cat (pv 1) (pe_lst (pa_cons pe_str (pa_cons pe_str (pa_cons pe_str (pa_cons pe_str (pa_cons pe_str (pa_cons pe_str (pa_cons pe_str (pa_cons pe_str (pa_cons pe_str (pa_cons pe_str (pa_cons pe_str (pa_cons pe_str (pa_cons pe_str (pa_cons pe_str pa_nil)))))))))))))))))
  (pss_cons (ps_set (i := 1) sc__law_odd.nd rfl (Or.inl rfl) (pe_op op_cat (pv 1) (pe_lst (pa_cons pe_str (pa_cons pe_str (pa_cons pe_str (pa_cons pe_str (pa_cons pe_str (pa_cons pe_str (pa_cons pe_str (pa_cons pe_str (pa_cons pe_str pa_nil))))))))))))
  (pss_cons (ps_set (i := 1) sc__law_odd.nd rfl (Or.inl rfl) (pe_op op_cat (pv 1) (pe_lst (pa_cons (pe_callTy call_str_int (by rfl) TX.n_str (by decide +kernel) (pa_cons (pe_op op_pow pe_int pe_int) pa_nil)) (pa_cons (pe_callTy call_str_int (by rfl) TX.n_str (by decide +kernel) (pa_cons (pe_op op_sub (pe_op op_pow pe_int pe_int) pe_int) pa_nil)) (pa_cons (pe_callTy call_str_int (by rfl) TX.n_str (by decide +kernel) (pa_cons (pe_un un_neg (pe_op op_pow pe_int pe_int)) pa_nil)) (pa_cons (pe_callTy call_str_int (by rfl) TX.n_str (by decide +kernel) (pa_cons (pe_op op_sub pe_int (pe_op op_pow pe_int pe_int)) pa_nil)) (pa_cons (pe_op op_add_str pe_str (pe_callTy call_str_int (by rfl) TX.n_str (by decide +kernel) (pa_cons (pe_op op_pow pe_int pe_int) pa_nil))) pa_nil))))))))
  (pss_one (ps_ret (pe_ix ix_list (pv 1) (pe_cal C__law_draw (hr.mono (by decide)) (by rfl) pass0 (pa_cons (pv 0) (pa_cons (pe_callB call_len (by rfl) TX.n_len (by decide +kernel) (pa_cons (pv 1) pa_nil)) pa_nil))) (fun _ _ => rfl)))))))), ?_⟩
    refine r_begin (show L2.start _ _ = [some _, none] from rfl) ?_
    try dsimp only [cxOf]
    walk_at "rr"
    rw [show ([V.str "", V.str "-0", V.str "00", V.str "01", V.str "+1", V.str "1_0", V.str "0x1", V.str "-1", V.str "@1", V.str "b1", V.str "g0", V.str "1.0", V.str "--1", V.str "-", V.str "1e3", V.str "10", V.str "7", V.str " 1"] : List V) = odA.map V.str from rfl]
    refine ⟨by show 18 ≤ sizeLine; decide, fun x1 h1 => ?_⟩
    have t1 := same_new (o := .lst (odA.map V.str)) h1
    have e1 : (upd H x1 (.lst (odA.map V.str))) x1 = some (.lst (odA.map V.str)) := upd_same
    generalize upd H x1 (.lst (odA.map V.str)) = H1 at t1 e1 ⊢
    walk_at "rr"
    rw [show ([V.str "put", V.str "Put", V.str "puts", V.str "pu", V.str "at", V.str "go", V.str "pick", V.str "add", V.str "if", V.str "tell", V.str "none", V.str "sweep", V.str "keep", V.str "1 "] : List V) = odB.map V.str from rfl]
    refine ⟨by show 14 ≤ sizeLine; decide, fun x2 h2 => ?_⟩
    have t2 := same_new (o := .lst (odB.map V.str)) h2
    have e2 : (upd H1 x2 (.lst (odB.map V.str))) x2 = some (.lst (odB.map V.str)) := upd_same
    have e1' := t2 _ _ e1
    generalize upd H1 x2 (.lst (odB.map V.str)) = H2 at t2 e2 e1' ⊢
    walk_at "rr"
    refine ⟨x1, x2, _, _, rfl, rfl, e1', e2, by show 32 ≤ sizeLine; decide, fun x3 h3 => ?_⟩
    have t3 := same_new (o := .lst (odA.map V.str ++ odB.map V.str)) h3
    have e3 : (upd H2 x3 (.lst (odA.map V.str ++ odB.map V.str))) x3 = some (.lst (odA.map V.str ++ odB.map V.str)) := upd_same
    generalize upd H2 x3 (.lst (odA.map V.str ++ odB.map V.str)) = H3 at t3 e3 ⊢
    walk_at "rr"
    rw [show ([V.str "drop", V.str "lift", V.str "back", V.str "call", V.str "jump", V.str "less", V.str "box", V.str "get", V.str "set"] : List V) = odC.map V.str from rfl]
    refine ⟨by show 9 ≤ sizeLine; decide, fun x4 h4 => ?_⟩
    have t4 := same_new (o := .lst (odC.map V.str)) h4
    have e4 : (upd H3 x4 (.lst (odC.map V.str))) x4 = some (.lst (odC.map V.str)) := upd_same
    have e3' := t4 _ _ e3
    generalize upd H3 x4 (.lst (odC.map V.str)) = H4 at t4 e4 e3' ⊢
    walk_at "rr"
    refine ⟨x3, x4, _, _, rfl, rfl, e3', e4, by show 41 ≤ sizeLine; decide, fun x5 h5 => ?_⟩
    have t5 := same_new (o := .lst (odA.map V.str ++ odB.map V.str ++ odC.map V.str)) h5
    have e5 : (upd H4 x5 (.lst (odA.map V.str ++ odB.map V.str ++ odC.map V.str))) x5 = some (.lst ((odA ++ odB ++ odC).map V.str)) := by rw [upd_same, List.map_append, List.map_append]
    generalize upd H4 x5 (.lst (odA.map V.str ++ odB.map V.str ++ odC.map V.str)) = H5 at t5 e5 ⊢
    walk_at "rr"
    refine ⟨_, rfl, by decide +kernel, ?_⟩
    walk_at "rr"
    refine ⟨_, rfl, by decide +kernel, ?_⟩
    walk_at "rr"
    refine ⟨_, rfl, by decide +kernel, ?_⟩
    walk_at "rr"
    refine ⟨_, rfl, by decide +kernel, ?_⟩
    walk_at "rr"
    refine ⟨_, rfl, by decide +kernel, ?_⟩
    walk_at "rr"
    refine ⟨_, _, rfl, rfl, by decide +kernel, ?_⟩
    walk_at "rr"
    change NewL (odD.map V.str) _ _
    refine ⟨by show 5 ≤ sizeLine; decide, fun x6 h6 => ?_⟩
    have t6 := same_new (o := .lst (odD.map V.str)) h6
    have e6 : (upd H5 x6 (.lst (odD.map V.str))) x6 = some (.lst (odD.map V.str)) := upd_same
    have e5' := t6 _ _ e5
    generalize upd H5 x6 (.lst (odD.map V.str)) = H6 at t6 e6 e5' ⊢
    walk_at "rr"
    refine ⟨x5, x6, _, _, rfl, rfl, e5', e6, by show 46 ≤ sizeLine; decide, fun x7 h7 => ?_⟩
    have t7 := same_new (o := .lst ((odA ++ odB ++ odC).map V.str ++ odD.map V.str)) h7
    have e7 : (upd H6 x7 (.lst ((odA ++ odB ++ odC).map V.str ++ odD.map V.str))) x7 = some (.lst ((odA ++ odB ++ odC ++ odD).map V.str)) := by rw [upd_same, List.map_append (l₂ := odD)]
    generalize upd H6 x7 (.lst ((odA ++ odB ++ odC).map V.str ++ odD.map V.str)) = H7 at t7 e7 ⊢
    have tt := (((((t1.trans t2).trans t3).trans t4).trans t5).trans t6)
    have nx7 : x7 ≠ p := fun e => (hb.same tt).there (e ▸ h7)
    have tt := tt.trans t7
    walk_at "rr"
    refine r_lenl e7 ?_
    walk_at "rr"
    refine ⟨p, _, _, rfl, hb.same tt, by rw [List.length_map]; decide, by rw [List.length_map]; decide, by omega, fun i H8 i0 i1 b8 B8 => ?_⟩
    rw [List.length_map] at i1
    obtain ⟨z, ez⟩ : ∃ z, (odA ++ odB ++ odC ++ odD)[i.toNat]? = some z := ⟨_, List.getElem?_eq_getElem (by omega)⟩
    obtain ⟨l1, o1⟩ := od_len z (List.mem_of_getElem? ez)
    refine r_ixl (b8 _ _ e7 nx7) (by rw [show i = ((i.toNat : Nat) : Int) by omega]; exact L2.atI_nat (by rw [List.getElem?_map, ez]; rfl)) ?_
    exact q z H8 l1 o1 ((But.of tt).trans b8) B8
/-! ### _law_signs_changed -/
abbrev s__law_signs_changed : Stmt := top 35
theorem sc__law_signs_changed : FnScope ["text", "well", "what", "at", "sign", "turned"] ["text", "well", "what"] (defScope s__law_signs_changed) := ⟨rfl, rfl, rfl, by decide +kernel, rfl, by decide +kernel, by decide +kernel⟩
def sp__law_signs_changed (_ : PySem.W.Frag) : Sp := fun vs H Q _ => ∃ (z : Str) (p : Addr) (what : Int) (n : Nat), vs = [.str z, .ref p, .int what] ∧ OkS z ∧ z.length ≤ 8000 ∧ WellAt H p n ∧ n + 20 < 1000000000 ∧
  ∀ (y : Str) (H' : Hp), OkS y → y.length ≤ 80000 → But p H H' → WellAt H' p (n + 3) → Q (.str y) H'
theorem ok__law_signs_changed {fa : Addr} {fd : FuncData} (F : Fun K "_law_signs_changed" "_law_signs_changed" s__law_signs_changed fa fd) (TX : Tx mg)
    (C__law_draw : Cal P w K mg base CX0 2 "_law_draw" ["well", "many"] (sp__law_draw K))
    (C__law_sign : Cal P w K mg base CX0 3 "_law_sign" ["well"] (sp__law_sign K)) :
    FnOk P w K mg base CX0 4 fa fd ["text", "well", "what"] (sp__law_signs_changed K) := by
  refine F.ok sc__law_signs_changed (fun vs H Q E h => ?_) (fun cdv A outer s H vs Q E hr h => ?_)
  · obtain ⟨z, p, what, n, rfl, oz, lz, hb, hn, q⟩ := h
    rfl
  · obtain ⟨z, p, what, n, rfl, oz, lz, hb, hn, q⟩ := h
    have hu := hu_of hr
    have hu64 := hr.units
    have hu65 := hu65_of hr
    have sl := fun (a b : Option Int) => cutS_length z a b
    refine ⟨_, (pss_cons (ps_set (i := 3) sc__law_signs_changed.nd rfl (Or.inl rfl) (pe_cal C__law_draw (hr.mono (by decide)) (by rfl) pass0 (pa_cons (pv 1) (pa_cons (pe_op op_add (pe_callB call_len (by rfl) TX.n_len (by decide +kernel) (pa_cons (pv 0) pa_nil)) pe_int) pa_nil))))
  (pss_cons (ps_set (i := 4) sc__law_signs_changed.nd rfl (Or.inl rfl) (pe_cal C__law_sign (hr.mono (by decide)) (by rfl) pass0 (pa_cons (pv 1) pa_nil)))
  (pss_cons (ps_if (pt_cmpR op_eq (pv 2) pe_int (nomark _)) (pss_one (ps_ret (pe_op op_add_str (pe_op op_add_str (pe_slice sl_str (pv 0) po_none (po_some (pv 3))) (pv 4)) (pe_slice sl_str (pv 0) (po_some (pv 3)) po_none)))) pss_nil)
  (pss_cons (ps_if (pt_cmpR op_eq (pv 2) pe_int (nomark _)) (pss_one (ps_ret (pe_op op_add_str (pe_slice sl_str (pv 0) po_none (po_some (pv 3))) (pe_slice sl_str (pv 0) (po_some (pe_op op_add (pv 3) pe_int)) po_none)))) pss_nil)
  (pss_cons (ps_if (pt_cmpR op_eq (pv 2) pe_int (nomark _)) (pss_one (ps_ret (pe_op op_add_str (pe_op op_add_str (pe_slice sl_str (pv 0) po_none (po_some (pv 3))) (pv 4)) (pe_slice sl_str (pv 0) (po_some (pe_op op_add (pv 3) pe_int)) po_none)))) pss_nil)
  (pss_cons (ps_set (i := 5) sc__law_signs_changed.nd rfl (Or.inl rfl) (pe_slice sl_str (pv 0) (po_some (pv 3)) (po_some (pe_op op_add (pv 3) pe_int))))
  (pss_one (ps_ret (pe_op op_add_str (pe_op op_add_str (pe_slice sl_str (pv 0) po_none (po_some (pv 3))) (pe_revS (pv 5))) (pe_slice sl_str (pv 0) (po_some (pe_op op_add (pv 3) pe_int)) po_none)))))))))), ?_⟩
    refine r_begin (show L2.start _ _ = [some _, some _, some _, none, none, none] from rfl) ?_
    try dsimp only [cxOf]
    walk_at "rr"
    refine r_lenS (sz (by omega)) ?_
    walk_at "rr"
    refine ⟨p, _, _, rfl, hb, by omega, Nat.lt_of_le_of_lt (show ((z.length : Int) + 1).natAbs ≤ 10000 by omega) (by decide), by omega, fun at_ H1 a0 a1 b1 B1 => ?_⟩
    walk_at "rr"
    refine ⟨p, _, rfl, B1, by omega, fun c H2 cc b2 B2 => ?_⟩
    have b2 := b1.trans b2
    have oc : OkS ⟨#[c]⟩ := oks_sign cc
    have l1 : (⟨#[c]⟩ : Str).length = 1 := rfl
    have h1 := sl none (some at_)
    have h2 := sl (some at_) none
    have h3 := sl (some (at_ + 1)) none
    have h4 := sl (some (at_ + 2)) none
    have h5 := sl (some at_) (some (at_ + 2))
    walk_at "rr"
    refine r_d (fun h => ?_) (fun h => ?_)
    · walk_at "rr"
      refine r_slS (sz (by omega)) ?_
      walk_at "rr"
      refine ⟨_, _, rfl, rfl, sz (by omega), ?_⟩
      walk_at "rr"
      refine r_slS (sz (by omega)) ?_
      refine ⟨_, _, rfl, rfl, sz (by rw [len_app']; omega), ?_⟩
      exact q _ H2 (oks_app (oks_app (oks_cut oz) oc) (oks_cut oz)) (by rw [len_app', len_app']; omega) b2 B2
    walk_at "rr"
    refine r_d (fun h => ?_) (fun h => ?_)
    · walk_at "rr"
      refine r_slS (sz (by omega)) ?_
      walk_at "rr"
      refine r_slS (sz (by omega)) ?_
      refine ⟨_, _, rfl, rfl, sz (by omega), ?_⟩
      exact q _ H2 (oks_app (oks_cut oz) (oks_cut oz)) (by rw [len_app']; omega) b2 B2
    walk_at "rr"
    refine r_d (fun h => ?_) (fun h => ?_)
    · walk_at "rr"
      refine r_slS (sz (by omega)) ?_
      walk_at "rr"
      refine ⟨_, _, rfl, rfl, sz (by omega), ?_⟩
      walk_at "rr"
      refine r_slS (sz (by omega)) ?_
      refine ⟨_, _, rfl, rfl, sz (by rw [len_app']; omega), ?_⟩
      exact q _ H2 (oks_app (oks_app (oks_cut oz) oc) (oks_cut oz)) (by rw [len_app', len_app']; omega) b2 B2
    walk_at "rr"
    refine r_slS (sz (by omega)) ?_
    walk_at "rr"
    refine r_slS (sz (by omega)) ?_
    walk_at "rr"
    refine r_revS ?_
    walk_at "rr"
    have tr : tl (revS (cutS z (some at_) (some (at_ + 2)))) = (tl (cutS z (some at_) (some (at_ + 2)))).reverse := by simp [revS, tl]
    have lr : (revS (cutS z (some at_) (some (at_ + 2)))).length ≤ z.length := by
      rw [len_tl, tr, List.length_reverse, ← len_tl]
      exact h5
    have or_ : OkS (revS (cutS z (some at_) (some (at_ + 2)))) := oks_iff.mpr fun d m => by
      rw [tr, List.mem_reverse] at m
      exact oks_iff.mp (oks_cut oz) d m
    refine ⟨_, rfl, sz (by omega), ?_⟩
    refine ⟨_, _, rfl, rfl, sz (by omega), ?_⟩
    walk_at "rr"
    refine r_slS (sz (by omega)) ?_
    refine ⟨_, _, rfl, rfl, sz (by rw [len_app']; omega), ?_⟩
    exact q _ H2 (oks_app (oks_app (oks_cut oz) or_) (oks_cut oz)) (by rw [len_app', len_app']; omega) b2 B2
/-! ### _law_parts_changed -/
abbrev s__law_parts_changed : Stmt := top 36
theorem sc__law_parts_changed : FnScope ["text", "well", "what", "parts", "at", "between"] ["text", "well", "what"] (defScope s__law_parts_changed) := ⟨rfl, rfl, rfl, by decide +kernel, rfl, by decide +kernel, by decide +kernel⟩
def sp__law_parts_changed (_ : PySem.W.Frag) : Sp := fun vs H Q _ => ∃ (z : Str) (p : Addr) (what : Int) (n : Nat), vs = [.str z, .ref p, .int what] ∧ OkS z ∧ z.length ≤ 8000 ∧ WellAt H p n ∧ n + 20 < 1000000000 ∧
  ∀ (y : Str) (H' : Hp), OkS y → y.length ≤ 80000 → But p H H' → WellAt H' p (n + 3) → Q (.str y) H'
theorem betw {i : Int} (h0 : 0 ≤ i) (h1 : i < 12) : ∃ z : Str, atI [V.str "; ", .str ";", .str " ;", .str ";  ", .str ", ", .str " ; ", .str ": ", .str "", .str " ", .str "; ; ", .str "\n", .str "\t"] i = some (.str z) ∧ z.length ≤ 4 ∧ OkS z := by
  have c : i = 0 ∨ i = 1 ∨ i = 2 ∨ i = 3 ∨ i = 4 ∨ i = 5 ∨ i = 6 ∨ i = 7 ∨ i = 8 ∨ i = 9 ∨ i = 10 ∨ i = 11 := by omega
  rcases c with rfl | rfl | rfl | rfl | rfl | rfl | rfl | rfl | rfl | rfl | rfl | rfl <;> exact ⟨_, rfl, by decide +kernel, by decide +kernel⟩
theorem ok__law_parts_changed {fa : Addr} {fd : FuncData} (F : Fun K "_law_parts_changed" "_law_parts_changed" s__law_parts_changed fa fd) (TX : Tx mg)
    (C__law_draw : Cal P w K mg base CX0 2 "_law_draw" ["well", "many"] (sp__law_draw K)) :
    FnOk P w K mg base CX0 3 fa fd ["text", "well", "what"] (sp__law_parts_changed K) := by
  refine F.ok sc__law_parts_changed (fun vs H Q E h => ?_) (fun cdv A outer s H vs Q E hr h => ?_)
  · obtain ⟨z, p, what, n, rfl, oz, lz, hb, hn, q⟩ := h
    rfl
  · obtain ⟨z, p, what, n, rfl, oz, lz, hb, hn, q⟩ := h
    have hu := hu_of hr
    have hu64 := hr.units
    have hu65 := hu65_of hr
    have e2 : (Str.ofString "; ").length = 2 := by decide +kernel
    have os : OkS (Str.ofString "; ") := by decide +kernel
    have pl := pieces_len (z := z)
    have ps := parts_sum (y := Str.ofString "; ") (z := z)
    have pos : 1 ≤ (pieces z).length := PyProof.Rows.split_pos z "; "
    have fin : ∀ ys : List Str, (∀ y ∈ ys, y ∈ pieces z) → (ys.map (·.length)).sum ≤ 24000 → ys.length ≤ 24100 → OkS (Txt.join (Str.ofString "; ") ys) ∧ (Txt.join (Str.ofString "; ") ys).length ≤ 72200 ∧ (ys.map (·.length)).sum + ys.length * (Str.ofString "; ").length ≤ 16777216 := fun ys m s l => by
      have lj := join_len2 (y := Str.ofString "; ") (ys := ys)
      rw [e2] at lj ⊢
      exact ⟨join_ok2 os fun y my => part_oks oz (m y my), by omega, by omega⟩
    refine ⟨_, (pss_cons (ps_set (i := 3) sc__law_parts_changed.nd rfl (Or.inl rfl) (pe_split (pv 0) pe_str))
  (pss_cons (ps_set (i := 4) sc__law_parts_changed.nd rfl (Or.inl rfl) (pe_cal C__law_draw (hr.mono (by decide)) (by rfl) pass0 (pa_cons (pv 1) (pa_cons (pe_callB call_len (by rfl) TX.n_len (by decide +kernel) (pa_cons (pv 3) pa_nil)) pa_nil))))
  (pss_cons (ps_if (pt_cmpR op_eq (pv 2) pe_int (nomark _)) (pss_one (ps_ret (pe_join pe_str (pe_op op_cat (pe_slice sl_list (pv 3) po_none (po_some (pv 4))) (pe_slice sl_list (pv 3) (po_some (pe_op op_add (pv 4) pe_int)) po_none))))) pss_nil)
  (pss_cons (ps_if (pt_cmpR op_eq (pv 2) pe_int (nomark _)) (pss_one (ps_ret (pe_join pe_str (pe_op op_cat (pe_op op_cat (pe_slice sl_list (pv 3) po_none (po_some (pv 4))) (pe_slice sl_list (pv 3) (po_some (pv 4)) (po_some (pe_op op_add (pv 4) pe_int)))) (pe_slice sl_list (pv 3) (po_some (pv 4)) po_none))))) pss_nil)
  (pss_cons (ps_set (i := 5) sc__law_parts_changed.nd rfl (Or.inl rfl) (pe_ix ix_list (pe_lst (pa_cons pe_str (pa_cons pe_str (pa_cons pe_str (pa_cons pe_str (pa_cons pe_str (pa_cons pe_str (pa_cons pe_str (pa_cons pe_str (pa_cons pe_str (pa_cons pe_str (pa_cons pe_str (pa_cons pe_str pa_nil))))))))))))) (pe_cal C__law_draw (hr.mono (by decide)) (by rfl) pass0 (pa_cons (pv 1) (pa_cons pe_int pa_nil))) (fun _ _ => rfl)))
  (pss_one (ps_ret (pe_op op_add_str (pe_op op_add_str (pe_join pe_str (pe_slice sl_list (pv 3) po_none (po_some (pe_op op_add (pv 4) pe_int)))) (pv 5)) (pe_join pe_str (pe_slice sl_list (pv 3) (po_some (pe_op op_add (pv 4) pe_int)) po_none)))))))))), ?_⟩
    refine r_begin (show L2.start _ _ = [some _, some _, some _, none, none, none] from rfl) ?_
    try dsimp only [cxOf]
    walk_at "rr"
    refine ⟨_, _, rfl, rfl, by decide +kernel, by show _ + 2 ≤ sizeLine; exact sz (by omega), fun a ha => ?_⟩
    have s1 := same_new (o := .lst ((Txt.split z (Str.ofString "; ")).map V.str)) ha
    have ea : (upd H a (.lst ((Txt.split z (Str.ofString "; ")).map V.str))) a = some (.lst ((pieces z).map V.str)) := upd_same
    generalize upd H a (.lst ((Txt.split z (Str.ofString "; ")).map V.str)) = H1 at s1 ea ⊢
    have hb1 := hb.same s1
    have nap : a ≠ p := fun e => hb.there (e ▸ ha)
    walk_at "rr"
    refine r_lenl ea ?_
    walk_at "rr"
    rw [List.length_map]
    refine ⟨p, _, _, rfl, hb1, by omega, Nat.lt_of_le_of_lt (show (((pieces z).length : Int)).natAbs ≤ 10000 by omega) (by decide), by omega, fun at_ H2 a0 a1 b2 B2 => ?_⟩
    have ea2 := b2 _ _ ea nap
    have b2 := (But.of s1).trans b2
    obtain ⟨k, rfl⟩ : ∃ k : Nat, at_ = k := ⟨at_.toNat, by omega⟩
    walk_at "rr"
    have cs := fun lo hi => cutV_strs (pieces z) lo hi
    have ps' : ((pieces z).map (·.length)).sum ≤ 8000 := Nat.le_trans ps lz
    refine r_d (fun h => ?_) (fun h => ?_)
    · obtain ⟨u1, c1, m1, s1', l1⟩ := cs none (some (k : Int))
      obtain ⟨u2, c2, m2, s2', l2⟩ := cs (some ((k : Int) + 1)) none
      walk_at "rr"
      refine r_slL (.inl (.inl ea2)) fun x1 hx1 => ?_
      rw [c1]
      have t1 := same_new (o := .lst (u1.map V.str)) hx1
      have e1 : (upd H2 x1 (.lst (u1.map V.str))) x1 = some (.lst (u1.map V.str)) := upd_same
      have ea3 := t1 _ _ ea2
      generalize upd H2 x1 (.lst (u1.map V.str)) = H3 at t1 e1 ea3 ⊢
      walk_at "rr"
      refine r_slL (.inl (.inl ea3)) fun x2 hx2 => ?_
      rw [c2]
      have t2 := same_new (o := .lst (u2.map V.str)) hx2
      have e3 : (upd H3 x2 (.lst (u2.map V.str))) x2 = some (.lst (u2.map V.str)) := upd_same
      have e1' := t2 _ _ e1
      generalize upd H3 x2 (.lst (u2.map V.str)) = H4 at t2 e3 e1' ⊢
      refine ⟨x1, x2, _, _, rfl, rfl, e1', e3, sz (by simp; omega), fun x3 hx3 => ?_⟩
      have t3 := same_new (o := .lst (u1.map V.str ++ u2.map V.str)) hx3
      have e4 : (upd H4 x3 (.lst (u1.map V.str ++ u2.map V.str))) x3 = some (.lst ((u1 ++ u2).map V.str)) := by rw [upd_same, List.map_append]
      generalize upd H4 x3 (.lst (u1.map V.str ++ u2.map V.str)) = H5 at t3 e4 ⊢
      have tt := (t1.trans t2).trans t3
      obtain ⟨f1, f2, f3⟩ := fin (u1 ++ u2) (fun y m => (List.mem_append.mp m).elim (m1 y) (m2 y)) (by rw [List.map_append, List.sum_append]; omega) (by rw [List.length_append]; omega)
      walk_at "rr"
      refine ⟨Str.ofString "; ", x3, u1 ++ u2, rfl, rfl, .inl (.inl (.inl e4)), f3, ?_⟩
      exact q _ H5 f1 (by omega) (b2.trans (But.of tt)) ((B2.same tt).mono (by omega))
    walk_at "rr"
    refine r_d (fun h => ?_) (fun h => ?_)
    · obtain ⟨u1, c1, m1, s1', l1⟩ := cs none (some (k : Int))
      obtain ⟨u2, c2, m2, s2', l2⟩ := cs (some (k : Int)) (some ((k : Int) + 1))
      obtain ⟨u3, c3, m3, s3', l3⟩ := cs (some (k : Int)) none
      have s12 : (u1.map (·.length)).sum + (u2.map (·.length)).sum + (u3.map (·.length)).sum ≤ 24000 := by omega
      walk_at "rr"
      refine r_slL (.inl (.inl ea2)) fun x1 hx1 => ?_
      rw [c1]
      have t1 := same_new (o := .lst (u1.map V.str)) hx1
      have e1 : (upd H2 x1 (.lst (u1.map V.str))) x1 = some (.lst (u1.map V.str)) := upd_same
      have ea3 := t1 _ _ ea2
      generalize upd H2 x1 (.lst (u1.map V.str)) = H3 at t1 e1 ea3 ⊢
      walk_at "rr"
      refine r_slL (.inl (.inl ea3)) fun x2 hx2 => ?_
      rw [c2]
      have t2 := same_new (o := .lst (u2.map V.str)) hx2
      have e3 : (upd H3 x2 (.lst (u2.map V.str))) x2 = some (.lst (u2.map V.str)) := upd_same
      have e1' := t2 _ _ e1
      have ea4 := t2 _ _ ea3
      generalize upd H3 x2 (.lst (u2.map V.str)) = H4 at t2 e3 e1' ea4 ⊢
      refine ⟨x1, x2, _, _, rfl, rfl, e1', e3, sz (by simp; omega), fun x3 hx3 => ?_⟩
      have t3 := same_new (o := .lst (u1.map V.str ++ u2.map V.str)) hx3
      have e4 : (upd H4 x3 (.lst (u1.map V.str ++ u2.map V.str))) x3 = some (.lst (u1.map V.str ++ u2.map V.str)) := upd_same
      have ea5 := t3 _ _ ea4
      generalize upd H4 x3 (.lst (u1.map V.str ++ u2.map V.str)) = H5 at t3 e4 ea5 ⊢
      walk_at "rr"
      refine r_slL (.inl (.inl ea5)) fun x4 hx4 => ?_
      rw [c3]
      have t4 := same_new (o := .lst (u3.map V.str)) hx4
      have e5 : (upd H5 x4 (.lst (u3.map V.str))) x4 = some (.lst (u3.map V.str)) := upd_same
      have e4' := t4 _ _ e4
      generalize upd H5 x4 (.lst (u3.map V.str)) = H6 at t4 e5 e4' ⊢
      refine ⟨x3, x4, _, _, rfl, rfl, e4', e5, sz (by simp; omega), fun x5 hx5 => ?_⟩
      have t5 := same_new (o := .lst (u1.map V.str ++ u2.map V.str ++ u3.map V.str)) hx5
      have e6 : (upd H6 x5 (.lst (u1.map V.str ++ u2.map V.str ++ u3.map V.str))) x5 = some (.lst ((u1 ++ u2 ++ u3).map V.str)) := by rw [upd_same, List.map_append, List.map_append]
      generalize upd H6 x5 (.lst (u1.map V.str ++ u2.map V.str ++ u3.map V.str)) = H7 at t5 e6 ⊢
      have tt := (((t1.trans t2).trans t3).trans t4).trans t5
      obtain ⟨f1, f2, f3⟩ := fin (u1 ++ u2 ++ u3) (fun y m => (List.mem_append.mp m).elim (fun m => (List.mem_append.mp m).elim (m1 y) (m2 y)) (m3 y)) (by rw [List.map_append, List.sum_append, List.map_append, List.sum_append]; omega) (by rw [List.length_append, List.length_append]; omega)
      walk_at "rr"
      refine ⟨Str.ofString "; ", x5, u1 ++ u2 ++ u3, rfl, rfl, .inl (.inl (.inl e6)), f3, ?_⟩
      exact q _ H7 f1 (by omega) (b2.trans (But.of tt)) ((B2.same tt).mono (by omega))
    walk_at "rr"
    refine ⟨by show 12 ≤ sizeLine; decide, fun x0 hx0 => ?_⟩
    have t0 := same_new (o := .lst [V.str "; ", .str ";", .str " ;", .str ";  ", .str ", ", .str " ; ", .str ": ", .str "", .str " ", .str "; ; ", .str "\n", .str "\t"]) hx0
    have e0 : (upd H2 x0 (.lst [V.str "; ", .str ";", .str " ;", .str ";  ", .str ", ", .str " ; ", .str ": ", .str "", .str " ", .str "; ; ", .str "\n", .str "\t"])) x0 = some (.lst [V.str "; ", .str ";", .str " ;", .str ";  ", .str ", ", .str " ; ", .str ": ", .str "", .str " ", .str "; ; ", .str "\n", .str "\t"]) := upd_same
    have ea3 := t0 _ _ ea2
    have nx0 : x0 ≠ p := fun e => B2.there (e ▸ hx0)
    have B3 := B2.same t0
    generalize upd H2 x0 (.lst [V.str "; ", .str ";", .str " ;", .str ";  ", .str ", ", .str " ; ", .str ": ", .str "", .str " ", .str "; ; ", .str "\n", .str "\t"]) = H3 at t0 e0 ea3 B3 ⊢
    walk_at "rr"
    refine ⟨p, 12, _, rfl, B3, by decide, by decide, by omega, fun i H4 i0 i1 b4 B4 => ?_⟩
    obtain ⟨y, ey, ly, oy⟩ := betw i0 i1
    have ea4 := b4 _ _ ea3 nap
    have e04 := b4 _ _ e0 nx0
    have b4 := (b2.trans (But.of t0)).trans b4
    refine r_ixl e04 ey ?_
    obtain ⟨u1, c1, m1, s1', l1⟩ := cs none (some ((k : Int) + 1))
    obtain ⟨u2, c2, m2, s2', l2⟩ := cs (some ((k : Int) + 1)) none
    obtain ⟨f1, f2, f3⟩ := fin u1 m1 (by omega) (by omega)
    obtain ⟨g1, g2, g3⟩ := fin u2 m2 (by omega) (by omega)
    have j1 := join_len2 (y := Str.ofString "; ") (ys := u1)
    have j2 := join_len2 (y := Str.ofString "; ") (ys := u2)
    rw [e2] at j1 j2
    walk_at "rr"
    refine r_slL (.inl (.inl ea4)) fun x1 hx1 => ?_
    rw [c1]
    have t1 := same_new (o := .lst (u1.map V.str)) hx1
    have e1 : (upd H4 x1 (.lst (u1.map V.str))) x1 = some (.lst (u1.map V.str)) := upd_same
    have ea5 := t1 _ _ ea4
    generalize upd H4 x1 (.lst (u1.map V.str)) = H5 at t1 e1 ea5 ⊢
    walk_at "rr"
    refine ⟨Str.ofString "; ", x1, u1, rfl, rfl, .inl (.inl (.inl e1)), f3, ?_⟩
    walk_at "rr"
    refine ⟨_, _, rfl, rfl, sz (by omega), ?_⟩
    walk_at "rr"
    refine r_slL (.inl (.inl ea5)) fun x2 hx2 => ?_
    rw [c2]
    have t2 := same_new (o := .lst (u2.map V.str)) hx2
    have e3 : (upd H5 x2 (.lst (u2.map V.str))) x2 = some (.lst (u2.map V.str)) := upd_same
    generalize upd H5 x2 (.lst (u2.map V.str)) = H6 at t2 e3 ⊢
    have tt := t1.trans t2
    walk_at "rr"
    refine ⟨Str.ofString "; ", x2, u2, rfl, rfl, .inl (.inl (.inl e3)), g3, ?_⟩
    (try walk_at "rr")
    refine ⟨_, _, rfl, rfl, sz (by rw [len_app']; omega), ?_⟩
    exact q _ H6 (oks_app (oks_app f1 oy) g1) (by rw [len_app', len_app']; omega) (b4.trans (But.of tt)) ((B4.same tt).mono (by omega))
/-! ### _law_words_changed -/
abbrev s__law_words_changed : Stmt := top 37
theorem sc__law_words_changed : FnScope ["text", "well", "words", "at", "end"] ["text", "well"] (defScope s__law_words_changed) := ⟨rfl, rfl, rfl, by decide +kernel, rfl, by decide +kernel, by decide +kernel⟩
def sp__law_words_changed (_ : PySem.W.Frag) : Sp := fun vs H Q _ => ∃ (z : Str) (p : Addr) (n : Nat), vs = [.str z, .ref p] ∧ OkS z ∧ z.length ≤ 8000 ∧ WellAt H p n ∧ n + 20 < 1000000000 ∧
  ∀ (y : Str) (H' : Hp), OkS y → y.length ≤ 80000 → But p H H' → WellAt H' p (n + 3) → Q (.str y) H'
theorem ok__law_words_changed {fa : Addr} {fd : FuncData} (F : Fun K "_law_words_changed" "_law_words_changed" s__law_words_changed fa fd) (TX : Tx mg)
    (C__law_draw : Cal P w K mg base CX0 2 "_law_draw" ["well", "many"] (sp__law_draw K))
    (C__law_odd : Cal P w K mg base CX0 3 "_law_odd" ["well"] (sp__law_odd K)) :
    FnOk P w K mg base CX0 4 fa fd ["text", "well"] (sp__law_words_changed K) := by
  refine F.ok sc__law_words_changed (fun vs H Q E h => ?_) (fun cdv A outer s H vs Q E hr h => ?_)
  · obtain ⟨z, p, n, rfl, oz, lz, hb, hn, q⟩ := h
    rfl
  · obtain ⟨z, p, n, rfl, oz, lz, hb, hn, q⟩ := h
    have hu := hu_of hr
    have hu64 := hr.units
    have hu65 := hu65_of hr
    have e2 : (Str.ofString " ").length = 1 := by decide +kernel
    have os : OkS (Str.ofString " ") := by decide +kernel
    have pl := words_len (z := z)
    have ps := parts_sum (y := Str.ofString " ") (z := z)
    have pos : 1 ≤ (words z).length := PyProof.Rows.split_pos z " "
    have fin : ∀ ys : List Str, (∀ y ∈ ys, OkS y) → (ys.map (·.length)).sum ≤ 24000 → ys.length ≤ 24100 → OkS (Txt.join (Str.ofString " ") ys) ∧ (Txt.join (Str.ofString " ") ys).length ≤ 72200 ∧ (ys.map (·.length)).sum + ys.length * (Str.ofString " ").length ≤ 16777216 := fun ys m s l => by
      have lj := join_len2 (y := Str.ofString " ") (ys := ys)
      rw [e2] at lj ⊢
      exact ⟨join_ok2 os m, by omega, by omega⟩
    refine ⟨_, (pss_cons (ps_set (i := 2) sc__law_words_changed.nd rfl (Or.inl rfl) (pe_split (pv 0) pe_str))
  (pss_cons (ps_set (i := 3) sc__law_words_changed.nd rfl (Or.inl rfl) (pe_cal C__law_draw (hr.mono (by decide)) (by rfl) pass0 (pa_cons (pv 1) (pa_cons (pe_callB call_len (by rfl) TX.n_len (by decide +kernel) (pa_cons (pv 2) pa_nil)) pa_nil))))
  (pss_cons (ps_if (pt_cmpR op_eq (pe_cal C__law_draw (hr.mono (by decide)) (by rfl) pass0 (pa_cons (pv 1) (pa_cons pe_int pa_nil))) pe_int (nomark _)) (pss_one (ps_ret (pe_join pe_str (pe_op op_cat (pe_slice sl_list (pv 2) po_none (po_some (pv 3))) (pe_slice sl_list (pv 2) (po_some (pe_op op_add (pv 3) pe_int)) po_none))))) pss_nil)
  (pss_cons (ps_set (i := 4) sc__law_words_changed.nd rfl (Or.inl rfl) pe_str)
  (pss_cons (ps_if (pt_cmpR op_eq (pe_slice sl_str (pe_ix ix_list (pv 2) (pv 3) (fun _ _ => rfl)) (po_some (pe_un un_neg pe_int)) po_none) pe_str (nomark _)) (pss_one (ps_set (i := 4) sc__law_words_changed.nd rfl (Or.inl rfl) pe_str)) pss_nil)
  (pss_one (ps_ret (pe_join pe_str (pe_op op_cat (pe_op op_cat (pe_slice sl_list (pv 2) po_none (po_some (pv 3))) (pe_lst (pa_cons (pe_op op_add_str (pe_cal C__law_odd (hr.mono (by decide)) (by rfl) pass0 (pa_cons (pv 1) pa_nil)) (pv 4)) pa_nil))) (pe_slice sl_list (pv 2) (po_some (pe_op op_add (pv 3) pe_int)) po_none)))))))))), ?_⟩
    refine r_begin (show L2.start _ _ = [some _, some _, none, none, none] from rfl) ?_
    try dsimp only [cxOf]
    walk_at "rr"
    refine ⟨_, _, rfl, rfl, by decide +kernel, by show _ + 2 ≤ sizeLine; exact sz (by omega), fun a ha => ?_⟩
    have s1 := same_new (o := .lst ((Txt.split z (Str.ofString " ")).map V.str)) ha
    have ea : (upd H a (.lst ((Txt.split z (Str.ofString " ")).map V.str))) a = some (.lst ((words z).map V.str)) := upd_same
    generalize upd H a (.lst ((Txt.split z (Str.ofString " ")).map V.str)) = H1 at s1 ea ⊢
    have hb1 := hb.same s1
    have nap : a ≠ p := fun e => hb.there (e ▸ ha)
    walk_at "rr"
    refine r_lenl ea ?_
    walk_at "rr"
    rw [List.length_map]
    refine ⟨p, _, _, rfl, hb1, by omega, Nat.lt_of_le_of_lt (show (((words z).length : Int)).natAbs ≤ 10000 by omega) (by decide), by omega, fun at_ H2 a0 a1 b2 B2 => ?_⟩
    have ea2 := b2 _ _ ea nap
    have b2 := (But.of s1).trans b2
    obtain ⟨k, rfl⟩ : ∃ k : Nat, at_ = k := ⟨at_.toNat, by omega⟩
    have cs := fun lo hi => cutV_strs (words z) lo hi
    have ps' : ((words z).map (·.length)).sum ≤ 8000 := Nat.le_trans ps lz
    obtain ⟨u1, c1, m1, s1', l1⟩ := cs none (some (k : Int))
    obtain ⟨u2, c2, m2, s2', l2⟩ := cs (some ((k : Int) + 1)) none
    walk_at "rr"
    refine ⟨p, 3, _, rfl, B2, by decide, by decide, by omega, fun i H3 i0 i1 b3 B3 => ?_⟩
    have ea3 := b3 _ _ ea2 nap
    have b3 := b2.trans b3
    walk_at "rr"
    refine r_d (fun h => ?_) (fun h => ?_)
    · walk_at "rr"
      refine r_slL (.inl (.inl ea3)) fun x1 hx1 => ?_
      rw [c1]
      have t1 := same_new (o := .lst (u1.map V.str)) hx1
      have e1 : (upd H3 x1 (.lst (u1.map V.str))) x1 = some (.lst (u1.map V.str)) := upd_same
      have ea4 := t1 _ _ ea3
      generalize upd H3 x1 (.lst (u1.map V.str)) = H4 at t1 e1 ea4 ⊢
      walk_at "rr"
      refine r_slL (.inl (.inl ea4)) fun x2 hx2 => ?_
      rw [c2]
      have t2 := same_new (o := .lst (u2.map V.str)) hx2
      have e3 : (upd H4 x2 (.lst (u2.map V.str))) x2 = some (.lst (u2.map V.str)) := upd_same
      have e1' := t2 _ _ e1
      generalize upd H4 x2 (.lst (u2.map V.str)) = H5 at t2 e3 e1' ⊢
      refine ⟨x1, x2, _, _, rfl, rfl, e1', e3, sz (by simp; omega), fun x3 hx3 => ?_⟩
      have t3 := same_new (o := .lst (u1.map V.str ++ u2.map V.str)) hx3
      have e4 : (upd H5 x3 (.lst (u1.map V.str ++ u2.map V.str))) x3 = some (.lst ((u1 ++ u2).map V.str)) := by rw [upd_same, List.map_append]
      generalize upd H5 x3 (.lst (u1.map V.str ++ u2.map V.str)) = H6 at t3 e4 ⊢
      have tt := (t1.trans t2).trans t3
      obtain ⟨f1, f2, f3⟩ := fin (u1 ++ u2) (fun y m => oks_word oz ((List.mem_append.mp m).elim (m1 y) (m2 y))) (by rw [List.map_append, List.sum_append]; omega) (by rw [List.length_append]; omega)
      walk_at "rr"
      refine ⟨Str.ofString " ", x3, u1 ++ u2, rfl, rfl, .inl (.inl (.inl e4)), f3, ?_⟩
      exact q _ H6 f1 (by omega) (b3.trans (But.of tt)) ((B3.same tt).mono (by omega))
    obtain ⟨wk, ek⟩ : ∃ wk, (words z)[k]? = some wk := ⟨_, List.getElem?_eq_getElem (by omega)⟩
    have lwk := word_len (List.mem_of_getElem? ek)
    walk_at "rr"
    refine r_ixl ea3 (atI_nat (by rw [List.getElem?_map, ek]; rfl)) ?_
    walk_at "rr"
    refine r_slS (sz (by omega)) ?_
    walk_at "rr"
    (try rw [dstr])
    refine r_d (fun h2 => ?_) (fun h2 => ?_)
    · walk_at "rr"
      have le : (Str.ofString ";").length ≤ 1 := by decide +kernel
      have oe : OkS (Str.ofString ";") := by decide +kernel
      generalize Str.ofString ";" = en at le oe ⊢
      (try walk_at "rr")
      refine r_slL (.inl (.inl ea3)) fun x1 hx1 => ?_
      rw [c1]
      have t1 := same_new (o := .lst (u1.map V.str)) hx1
      have e1 : (upd H3 x1 (.lst (u1.map V.str))) x1 = some (.lst (u1.map V.str)) := upd_same
      have ea4 := t1 _ _ ea3
      have B4 := B3.same t1
      have nx1 : x1 ≠ p := fun e => B3.there (e ▸ hx1)
      generalize upd H3 x1 (.lst (u1.map V.str)) = H4 at t1 e1 ea4 B4 ⊢
      walk_at "rr"
      refine ⟨p, _, rfl, B4, by omega, fun od H5 lo oo b5 B5 => ?_⟩
      have e15 := b5 _ _ e1 nx1
      have ea5 := b5 _ _ ea4 nap
      have b5 := (b3.trans (But.of t1)).trans b5
      walk_at "rr"
      refine ⟨_, _, rfl, rfl, sz (by omega), ?_⟩
      walk_at "rr"
      refine ⟨by show 1 ≤ sizeLine; decide, fun x2 hx2 => ?_⟩
      have t2 := same_new (o := .lst [V.str (od ++ en)]) hx2
      have e22 : (upd H5 x2 (.lst [V.str (od ++ en)])) x2 = some (.lst [V.str (od ++ en)]) := upd_same
      have e16 := t2 _ _ e15
      have ea6 := t2 _ _ ea5
      generalize upd H5 x2 (.lst [V.str (od ++ en)]) = H6 at t2 e22 e16 ea6 ⊢
      walk_at "rr"
      refine ⟨x1, x2, _, _, rfl, rfl, e16, e22, sz (by simp; omega), fun x3 hx3 => ?_⟩
      have t3 := same_new (o := .lst (u1.map V.str ++ [V.str (od ++ en)])) hx3
      have e33 : (upd H6 x3 (.lst (u1.map V.str ++ [V.str (od ++ en)]))) x3 = some (.lst (u1.map V.str ++ [V.str (od ++ en)])) := upd_same
      have ea7 := t3 _ _ ea6
      generalize upd H6 x3 (.lst (u1.map V.str ++ [V.str (od ++ en)])) = H7 at t3 e33 ea7 ⊢
      walk_at "rr"
      refine r_slL (.inl (.inl ea7)) fun x4 hx4 => ?_
      rw [c2]
      have t4 := same_new (o := .lst (u2.map V.str)) hx4
      have e44 : (upd H7 x4 (.lst (u2.map V.str))) x4 = some (.lst (u2.map V.str)) := upd_same
      have e34 := t4 _ _ e33
      generalize upd H7 x4 (.lst (u2.map V.str)) = H8 at t4 e44 e34 ⊢
      refine ⟨x3, x4, _, _, rfl, rfl, e34, e44, sz (by simp; omega), fun x5 hx5 => ?_⟩
      have t5 := same_new (o := .lst (u1.map V.str ++ [V.str (od ++ en)] ++ u2.map V.str)) hx5
      have e55 : (upd H8 x5 (.lst (u1.map V.str ++ [V.str (od ++ en)] ++ u2.map V.str))) x5 = some (.lst ((u1 ++ [od ++ en] ++ u2).map V.str)) := by rw [upd_same, List.map_append, List.map_append]; rfl
      generalize upd H8 x5 (.lst (u1.map V.str ++ [V.str (od ++ en)] ++ u2.map V.str)) = H9 at t5 e55 ⊢
      have tt := ((t2.trans t3).trans t4).trans t5
      have lod : (od ++ en).length ≤ 71 := by rw [len_app']; omega
      obtain ⟨f1, f2, f3⟩ := fin (u1 ++ [od ++ en] ++ u2) (fun y m => by
        rcases List.mem_append.mp m with m | m
        · rcases List.mem_append.mp m with m | m
          · exact oks_word oz (m1 y m)
          · rw [List.mem_singleton.mp m]
            exact oks_app oo oe
        · exact oks_word oz (m2 y m)) (by rw [List.map_append, List.sum_append, List.map_append, List.sum_append, List.map_singleton, List.sum_singleton]; omega) (by rw [List.length_append, List.length_append, List.length_singleton]; omega)
      walk_at "rr"
      refine ⟨Str.ofString " ", x5, u1 ++ [od ++ en] ++ u2, rfl, rfl, .inl (.inl (.inl e55)), f3, ?_⟩
      exact q _ H9 f1 (by omega) (b5.trans (But.of tt)) ((B5.same tt).mono (by omega))
    · walk_at "rr"
      have le : (Str.ofString "").length ≤ 1 := by decide +kernel
      have oe : OkS (Str.ofString "") := by decide +kernel
      (try walk_at "rr")
      refine r_slL (.inl (.inl ea3)) fun x1 hx1 => ?_
      rw [c1]
      have t1 := same_new (o := .lst (u1.map V.str)) hx1
      have e1 : (upd H3 x1 (.lst (u1.map V.str))) x1 = some (.lst (u1.map V.str)) := upd_same
      have ea4 := t1 _ _ ea3
      have B4 := B3.same t1
      have nx1 : x1 ≠ p := fun e => B3.there (e ▸ hx1)
      generalize upd H3 x1 (.lst (u1.map V.str)) = H4 at t1 e1 ea4 B4 ⊢
      walk_at "rr"
      refine ⟨p, _, rfl, B4, by omega, fun od H5 lo oo b5 B5 => ?_⟩
      have e15 := b5 _ _ e1 nx1
      have ea5 := b5 _ _ ea4 nap
      have b5 := (b3.trans (But.of t1)).trans b5
      walk_at "rr"
      refine ⟨_, _, rfl, rfl, sz (by omega), ?_⟩
      walk_at "rr"
      refine ⟨by show 1 ≤ sizeLine; decide, fun x2 hx2 => ?_⟩
      have t2 := same_new (o := .lst [V.str (od ++ Str.ofString "")]) hx2
      have e22 : (upd H5 x2 (.lst [V.str (od ++ Str.ofString "")])) x2 = some (.lst [V.str (od ++ Str.ofString "")]) := upd_same
      have e16 := t2 _ _ e15
      have ea6 := t2 _ _ ea5
      generalize upd H5 x2 (.lst [V.str (od ++ Str.ofString "")]) = H6 at t2 e22 e16 ea6 ⊢
      walk_at "rr"
      refine ⟨x1, x2, _, _, rfl, rfl, e16, e22, sz (by simp; omega), fun x3 hx3 => ?_⟩
      have t3 := same_new (o := .lst (u1.map V.str ++ [V.str (od ++ Str.ofString "")])) hx3
      have e33 : (upd H6 x3 (.lst (u1.map V.str ++ [V.str (od ++ Str.ofString "")]))) x3 = some (.lst (u1.map V.str ++ [V.str (od ++ Str.ofString "")])) := upd_same
      have ea7 := t3 _ _ ea6
      generalize upd H6 x3 (.lst (u1.map V.str ++ [V.str (od ++ Str.ofString "")])) = H7 at t3 e33 ea7 ⊢
      walk_at "rr"
      refine r_slL (.inl (.inl ea7)) fun x4 hx4 => ?_
      rw [c2]
      have t4 := same_new (o := .lst (u2.map V.str)) hx4
      have e44 : (upd H7 x4 (.lst (u2.map V.str))) x4 = some (.lst (u2.map V.str)) := upd_same
      have e34 := t4 _ _ e33
      generalize upd H7 x4 (.lst (u2.map V.str)) = H8 at t4 e44 e34 ⊢
      refine ⟨x3, x4, _, _, rfl, rfl, e34, e44, sz (by simp; omega), fun x5 hx5 => ?_⟩
      have t5 := same_new (o := .lst (u1.map V.str ++ [V.str (od ++ Str.ofString "")] ++ u2.map V.str)) hx5
      have e55 : (upd H8 x5 (.lst (u1.map V.str ++ [V.str (od ++ Str.ofString "")] ++ u2.map V.str))) x5 = some (.lst ((u1 ++ [od ++ Str.ofString ""] ++ u2).map V.str)) := by rw [upd_same, List.map_append, List.map_append]; rfl
      generalize upd H8 x5 (.lst (u1.map V.str ++ [V.str (od ++ Str.ofString "")] ++ u2.map V.str)) = H9 at t5 e55 ⊢
      have tt := ((t2.trans t3).trans t4).trans t5
      have lod : (od ++ Str.ofString "").length ≤ 71 := by rw [len_app']; omega
      obtain ⟨f1, f2, f3⟩ := fin (u1 ++ [od ++ Str.ofString ""] ++ u2) (fun y m => by
        rcases List.mem_append.mp m with m | m
        · rcases List.mem_append.mp m with m | m
          · exact oks_word oz (m1 y m)
          · rw [List.mem_singleton.mp m]
            exact oks_app oo oe
        · exact oks_word oz (m2 y m)) (by rw [List.map_append, List.sum_append, List.map_append, List.sum_append, List.map_singleton, List.sum_singleton]; omega) (by rw [List.length_append, List.length_append, List.length_singleton]; omega)
      walk_at "rr"
      refine ⟨Str.ofString " ", x5, u1 ++ [od ++ Str.ofString ""] ++ u2, rfl, rfl, .inl (.inl (.inl e55)), f3, ?_⟩
      exact q _ H9 f1 (by omega) (b5.trans (But.of tt)) ((B5.same tt).mono (by omega))
/-! ### _law_row_changed -/
abbrev s__law_row_changed : Stmt := top 38
theorem sc__law_row_changed : FnScope ["rows", "well", "changed", "at", "word"] ["rows", "well"] (defScope s__law_row_changed) := ⟨rfl, rfl, rfl, by decide +kernel, rfl, by decide +kernel, by decide +kernel⟩
def sp__law_row_changed (_ : PySem.W.Frag) : Sp := fun vs H Q _ => ∃ (a p : Addr) (xs : List V) (rs : List Row) (n : Nat), vs = [.ref a, .ref p] ∧ H a = some (.lst xs) ∧ a ≠ p ∧ Paired (RowAt H) xs rs ∧ (∀ r ∈ rs, FairRow r) ∧ rs.length ≤ 100 ∧ WellAt H p n ∧ n + 20 < 1000000000 ∧
  ∀ (l : Addr) (ys : List V) (qs : List Row) (H' : Hp), But p H H' → WellAt H' p (n + 3) → H' l = some (.lst ys) → Paired (RowAt H') ys qs → (∀ r ∈ qs, FairRow r) → qs.length ≤ 100 → Q (.ref l) H'
theorem paired_set {H : Hp} {v : V} {r : Row} : ∀ {xs : List V} {rs : List Row} {k : Nat}, Paired (RowAt H) xs rs → RowAt H v r → Paired (RowAt H) (xs.set k v) (rs.set k r)
  | _, _, _, .nil, _ => .nil
  | _, _, 0, .cons _ t, h => .cons h t
  | _, _, k + 1, .cons a t, h => .cons a (paired_set (k := k) t h)
theorem ixN_in2 {n k : Nat} (h : k < n) : ixN n (k : Int) = some k := by
  unfold ixN
  rw [if_pos (by omega), if_pos (by omega)]
  rfl
theorem ok__law_row_changed {fa : Addr} {fd : FuncData} (F : Fun K "_law_row_changed" "_law_row_changed" s__law_row_changed fa fd) (TX : Tx mg)
    (C__law_draw : Cal P w K mg base CX0 2 "_law_draw" ["well", "many"] (sp__law_draw K)) :
    FnOk P w K mg base CX0 3 fa fd ["rows", "well"] (sp__law_row_changed K) := by
  refine F.ok sc__law_row_changed (fun vs H Q E h => ?_) (fun cdv A outer s H vs Q E hr h => ?_)
  · obtain ⟨a, p, xs, rs, n, rfl, ea, nap, wr, g, l, hb, hn, q⟩ := h
    rfl
  · obtain ⟨a, p, xs, rs, n, rfl, ea, nap, wr, g, l, hb, hn, q⟩ := h
    have hu := hu_of hr
    have hu64 := hr.units
    have hu65 := hu65_of hr
    refine ⟨_, (pss_cons (ps_set (i := 2) sc__law_row_changed.nd rfl (Or.inl rfl) (pe_callTy (kCallR (rListOf K) call_list_of rfl) (by rfl) TX.n_list (by decide +kernel) (pa_cons (pv 0) pa_nil)))
  (pss_cons (ps_if (pt_cmpR (op_neD hu64) (pv 0) (pe_lst pa_nil) (nomark _)) (pss_cons (ps_set (i := 3) sc__law_row_changed.nd rfl (Or.inl rfl) (pe_cal C__law_draw (hr.mono (by decide)) (by rfl) pass0 (pa_cons (pv 1) (pa_cons (pe_callB call_len (by rfl) TX.n_len (by decide +kernel) (pa_cons (pv 0) pa_nil)) pa_nil))))
  (pss_cons (ps_set (i := 4) sc__law_row_changed.nd rfl (Or.inl rfl) (pe_ix ix_tup (pe_ix ix_list (pv 0) (pv 3) (fun _ _ => rfl)) pe_int (fun _ _ => rfl)))
  (pss_one (ps_asg (pe_ix ix_list (pe_lst (pa_cons (pe_tup (pa_cons (pv 4) (pa_cons (pe_cal C__law_draw (hr.mono (by decide)) (by rfl) pass0 (pa_cons (pv 1) (pa_cons pe_int pa_nil))) pa_nil))) (pa_cons (pe_tup (pa_cons (pv 4) pa_nil)) pa_nil))) (pe_op op_sub (pe_callB call_len (by rfl) TX.n_len (by decide +kernel) (pa_cons (pe_ix ix_list (pv 0) (pv 3) (fun _ _ => rfl)) pa_nil)) pe_int) (fun _ _ => rfl)) (pg_sub (pv 2) (pv 3) set_list))))) pss_nil)
  (pss_one (ps_ret (pv 2))))), ?_⟩
    refine r_begin (show L2.start _ _ = [some _, some _, none, none, none] from rfl) ?_
    try dsimp only [cxOf]
    have lx := paired_len wr
    walk_at "rr"
    refine ⟨a, xs, rfl, .inl (.inl (.inl ea)), fun c hc => ?_⟩
    have s1 := same_new (o := .lst xs) hc
    have ec : (upd H c (.lst xs)) c = some (.lst xs) := upd_same
    have ncp : c ≠ p := fun e => hb.there (e ▸ hc)
    have nca : c ≠ a := fun e => by rw [e, ea] at hc; cases hc
    generalize upd H c (.lst xs) = H1 at s1 ec ⊢
    have ea1 := s1 _ _ ea
    have wr1 := Paired.mapP wr fun _ _ => RowAt.same s1
    walk_at "rr"
    refine ⟨Nat.zero_le _, fun e he => ?_⟩
    have s2 := s1.trans (same_new (o := .lst []) he)
    have ec2 := same_new (o := .lst []) he _ _ ec
    have ea2 := same_new (o := .lst []) he _ _ ea1
    have wr2 := Paired.mapP wr1 fun _ _ => RowAt.same (same_new (o := .lst []) he)
    have okr : ∀ r ∈ rs, Ok 2 (rowd r) := fun r m => Ok.tuple (.cons (.str (g r m).1) (.map fun n _ => .int n))
    refine ⟨.list (rs.map rowd), .list [], .lst (.inl (.inl ea2)) (rows_dp wr2), .lst (.inl (.inl upd_same)) .nil, Ok.shaped (n := 3) (Ok.list (OkAll.map okr)) (by decide), Ok.shaped (n := 3) (Ok.list OkAll.nil) (by decide), ?_⟩
    have eqn : PyData.eqv (.list (rs.map rowd)) (.list []) = rs.isEmpty := by
      cases rs <;> rfl
    rw [eqn]
    generalize upd H1 e (.lst []) = H2 at s2 ec2 ea2 wr2 ⊢
    (try refine r_bl ?_)
    by_cases r0 : rs = []
    · refine r_itF (by rw [r0]; rfl) ?_
      walk_at "rr"
      exact q c xs rs H2 (But.of s2) ((hb.same s2).mono (by omega)) ec2 wr2 g l
    refine r_itT (by cases rs with | nil => exact absurd rfl r0 | cons => rfl) ?_
    have lpos : 0 < rs.length := List.length_pos_iff.mpr r0
    have hb2 := hb.same s2
    walk_at "rr"
    refine r_lenl ea2 ?_
    walk_at "rr"
    rw [lx]
    refine ⟨p, _, _, rfl, hb2, by omega, Nat.lt_of_le_of_lt (show ((rs.length : Int)).natAbs ≤ 100 by omega) (by decide), by omega, fun at_ H3 a0 a1 b3 B3 => ?_⟩
    obtain ⟨k, rfl⟩ : ∃ k : Nat, at_ = k := ⟨at_.toNat, by omega⟩
    have ea3 := b3 _ _ ea2 nap
    have ec3 := b3 _ _ ec2 ncp
    have tupn : ∀ {t : Addr} {ys : List V} {G1 G2 : Hp} {m : Nat}, WellAt G1 p m → But p G1 G2 → G1 t = some (.tup ys) → G2 t = some (.tup ys) := fun {t ys G1 G2 m} W b e => b _ _ e fun z => by
      obtain ⟨us, eu⟩ := W.lst
      rw [z, eu] at e
      cases e
    have wr3 : Paired (RowAt H3) xs rs := Paired.mapP wr2 fun _ _ ⟨t, e, et⟩ => ⟨t, e, tupn hb2 b3 et⟩
    have b3' := (But.of s2).trans b3
    obtain ⟨r, er⟩ : ∃ r, rs[k]? = some r := ⟨_, List.getElem?_eq_getElem (by omega)⟩
    obtain ⟨v, ev, t, rfl, et⟩ := paired_at wr3 er
    obtain ⟨g1, g2, g3⟩ := g r (List.mem_of_getElem? er)
    obtain ⟨s, o⟩ := r
    have g1 : OkS s := g1
    have g2 : s.length ≤ 10 := g2
    walk_at "rr"
    refine r_ixl ea3 (L2.atI_nat ev) ?_
    walk_at "rr"
    refine r_ixt et (show atI (rowV (s, o)) 0 = some (.str s) from atI0 _ _) ?_
    walk_at "rr"
    refine ⟨p, 3, _, rfl, B3, by decide, by decide, by omega, fun d H4 d0 d1 b4 B4 => ?_⟩
    have ea4 := b4 _ _ ea3 nap
    have ec4 := b4 _ _ ec3 ncp
    have et4 := tupn B3 b4 et
    have wr4 : Paired (RowAt H4) xs rs := Paired.mapP wr3 fun _ _ ⟨t, e, et⟩ => ⟨t, e, tupn B3 b4 et⟩
    have b4' := b3'.trans b4
    walk_at "rr"
    refine ⟨by show 2 ≤ sizeLine; decide, fun t1 h1 => ?_⟩
    have u1 := same_new (o := .tup [V.str s, .int d]) h1
    have e1 : (upd H4 t1 (.tup [V.str s, .int d])) t1 = some (.tup [V.str s, .int d]) := upd_same
    generalize upd H4 t1 (.tup [V.str s, .int d]) = H5 at u1 e1 ⊢
    walk_at "rr"
    refine ⟨by show 1 ≤ sizeLine; decide, fun t2 h2 => ?_⟩
    have u2 := same_new (o := .tup [V.str s]) h2
    have e2 : (upd H5 t2 (.tup [V.str s])) t2 = some (.tup [V.str s]) := upd_same
    have e1 := u2 _ _ e1
    generalize upd H5 t2 (.tup [V.str s]) = H6 at u2 e1 e2 ⊢
    walk_at "rr"
    refine ⟨by show 2 ≤ sizeLine; decide, fun t3 h3 => ?_⟩
    have u3 := same_new (o := .lst [V.ref t1, .ref t2]) h3
    have e3 : (upd H6 t3 (.lst [V.ref t1, .ref t2])) t3 = some (.lst [V.ref t1, .ref t2]) := upd_same
    have e1 := u3 _ _ e1
    have e2 := u3 _ _ e2
    generalize upd H6 t3 (.lst [V.ref t1, .ref t2]) = H7 at u3 e1 e2 e3 ⊢
    have uu := (u1.trans u2).trans u3
    have ea7 := uu _ _ ea4
    have ec7 := uu _ _ ec4
    have et7 := uu _ _ et4
    have wr7 := Paired.mapP wr4 fun _ _ => RowAt.same uu
    have B7 := B4.same uu
    have b7 := b4'.trans (But.of uu)
    walk_at "rr"
    refine r_ixl ea7 (L2.atI_nat ev) ?_
    walk_at "rr"
    refine r_lent et7 ?_
    walk_at "rr"
    have lk : k < xs.length := by omega
    have fin : ∀ (tx : Addr) (q0 : Row), H7 tx = some (.tup (rowV q0)) → FairRow q0 → But p H (upd H7 c (.lst (xs.set k (.ref tx)))) ∧ WellAt (upd H7 c (.lst (xs.set k (.ref tx)))) p (n + 3) ∧ (upd H7 c (.lst (xs.set k (.ref tx)))) c = some (.lst (xs.set k (.ref tx))) ∧ Paired (RowAt (upd H7 c (.lst (xs.set k (.ref tx))))) (xs.set k (.ref tx)) (rs.set k q0) ∧ (∀ r ∈ rs.set k q0, FairRow r) ∧ (rs.set k q0).length ≤ 100 := fun tx q0 ex fq => by
      have up : ∀ {v : V} {r : Row}, RowAt H7 v r → RowAt (upd H7 c (.lst (xs.set k (.ref tx)))) v r := by
        rintro v r ⟨t, e, h⟩
        exact ⟨t, e, by rw [upd_ne (fun z => by rw [z, ec7] at h; cases h)]; exact h⟩
      refine ⟨fun b o e nb => by rw [upd_ne (fun z => by rw [z, hc] at e; cases e)]; exact b7 b o e nb, ?_, upd_same, ?_, fun r m => ?_, by rw [List.length_set]; exact l⟩
      · obtain ⟨x, y, w, ew, r⟩ := B7.mono (show n + 1 + 1 ≤ n + 3 by omega)
        exact ⟨x, y, w, by rw [upd_ne (Ne.symm ncp)]; exact ew, r⟩
      · exact paired_set (Paired.mapP wr7 fun _ _ h => up h) (up ⟨tx, rfl, ex⟩)
      · rcases List.mem_or_eq_of_mem_set m with m | rfl
        · exact g r m
        · exact fq
    cases o with
    | none =>
      refine r_ixl e3 (show atI [V.ref t1, .ref t2] _ = some (.ref t1) from rfl) ?_
      walk_at "rr"
      obtain ⟨f1, f2, f3, f4, f5, f6⟩ := fin t1 (s, some d) e1 ⟨g1, g2, fun m e => by cases e; constructor <;> omega⟩
      refine ⟨c, _, _, k, rfl, rfl, ec7, ixN_in2 lk, ?_⟩
      walk_at "rr"
      exact q c _ _ _ f1 f2 f3 f4 f5 f6
    | some m =>
      refine r_ixl e3 (show atI [V.ref t1, .ref t2] _ = some (.ref t2) from rfl) ?_
      walk_at "rr"
      obtain ⟨f1, f2, f3, f4, f5, f6⟩ := fin t2 (s, none) e2 ⟨g1, g2, fun m e => by cases e⟩
      refine ⟨c, _, _, k, rfl, rfl, ec7, ixN_in2 lk, ?_⟩
      walk_at "rr"
      exact q c _ _ _ f1 f2 f3 f4 f5 f6
/-! ### _law_spoilt -/
abbrev s__law_spoilt : Stmt := top 39
theorem sc__law_spoilt : FnScope ["rows", "well", "text", "what"] ["rows", "well"] (defScope s__law_spoilt) := ⟨rfl, rfl, rfl, by decide +kernel, rfl, by decide +kernel, by decide +kernel⟩
def sp__law_spoilt (K : PySem.W.Frag) : Sp := fun vs H Q _ => ∃ (a p : Addr) (xs : List V) (rs : List Row) (n : Nat), vs = [.ref a, .ref p] ∧ H a = some (.lst xs) ∧ a ≠ p ∧ Paired (RowAt H) xs rs ∧ (∀ r ∈ rs, FairRow r) ∧ rs.length ≤ 100 ∧ WellAt H p n ∧ n + 100 < 1000000000 ∧
  ∀ (v : V) (H' : Hp), But p H H' → ((∃ z : Str, v = .str z ∧ z.length ≤ 80000 ∧ OkS z) ∨ NotStr K H' v) → Q v H'
theorem ok__law_spoilt {fa : Addr} {fd : FuncData} (F : Fun K "_law_spoilt" "_law_spoilt" s__law_spoilt fa fd) (TX : Tx mg)
    (C__law_draw : Cal P w K mg base CX0 2 "_law_draw" ["well", "many"] (sp__law_draw K))
    (C__law_parts_changed : Cal P w K mg base CX0 3 "_law_parts_changed" ["text", "well", "what"] (sp__law_parts_changed K))
    (C__law_row_changed : Cal P w K mg base CX0 3 "_law_row_changed" ["rows", "well"] (sp__law_row_changed K))
    (C__law_shown : Cal P w K mg base CX0 1 "_law_shown" ["rows"] (sp__law_shown K))
    (C__law_signs_changed : Cal P w K mg base CX0 4 "_law_signs_changed" ["text", "well", "what"] (sp__law_signs_changed K))
    (C__law_words_changed : Cal P w K mg base CX0 4 "_law_words_changed" ["text", "well"] (sp__law_words_changed K)) :
    FnOk P w K mg base CX0 5 fa fd ["rows", "well"] (sp__law_spoilt K) := by
  refine F.ok sc__law_spoilt (fun vs H Q E h => ?_) (fun cdv A outer s H vs Q E hr h => ?_)
  · obtain ⟨a, p, xs, rs, n, rfl, ea, nap, wr, g, l, hb, hn, q⟩ := h
    rfl
  · obtain ⟨a, p, xs, rs, n, rfl, ea, nap, wr, g, l, hb, hn, q⟩ := h
    have hu := hu_of hr
    have hu64 := hr.units
    have hu65 := hu65_of hr
    have tupn : ∀ {t : Addr} {ys : List V} {G1 G2 : Hp} {m : Nat}, WellAt G1 p m → But p G1 G2 → G1 t = some (.tup ys) → G2 t = some (.tup ys) := fun {t ys G1 G2 m} W b e => b _ _ e fun z => by
      obtain ⟨us, eu⟩ := W.lst
      rw [z, eu] at e
      cases e
    refine ⟨_, (pss_cons (ps_set (i := 2) sc__law_spoilt.nd rfl (Or.inl rfl) (pe_cal C__law_shown (hr.mono (by decide)) (by rfl) pass0 (pa_cons (pv 0) pa_nil)))
  (pss_cons (ps_set (i := 3) sc__law_spoilt.nd rfl (Or.inl rfl) (pe_cal C__law_draw (hr.mono (by decide)) (by rfl) pass0 (pa_cons (pv 1) (pa_cons pe_int pa_nil))))
  (pss_cons (ps_if (pt_cmpR op_lt (pv 3) pe_int (nomark _)) (pss_one (ps_ret (pe_cal C__law_signs_changed (hr.mono (by decide)) (by rfl) pass0 (pa_cons (pv 2) (pa_cons (pv 1) (pa_cons (pv 3) pa_nil)))))) pss_nil)
  (pss_cons (ps_if (pt_cmpR op_lt (pv 3) pe_int (nomark _)) (pss_one (ps_ret (pe_cal C__law_parts_changed (hr.mono (by decide)) (by rfl) pass0 (pa_cons (pv 2) (pa_cons (pv 1) (pa_cons (pe_op op_sub (pv 3) pe_int) pa_nil)))))) pss_nil)
  (pss_cons (ps_if (pt_cmpR op_eq (pv 3) pe_int (nomark _)) (pss_one (ps_ret (pe_cal C__law_words_changed (hr.mono (by decide)) (by rfl) pass0 (pa_cons (pv 2) (pa_cons (pv 1) pa_nil))))) pss_nil)
  (pss_cons (ps_if (pt_cmpR op_gt (pv 3) pe_int (nomark _)) (pss_one (ps_ret (pe_cal C__law_shown (hr.mono (by decide)) (by rfl) pass0 (pa_cons (pe_cal C__law_row_changed (hr.mono (by decide)) (by rfl) pass0 (pa_cons (pv 0) (pa_cons (pv 1) pa_nil))) pa_nil)))) pss_nil)
  (pss_cons (ps_if (pt_cmpR op_eq (pv 3) pe_int (nomark _)) (pss_one (ps_ret (pe_ix ix_list (pe_lst (pa_cons pe_non (pa_cons pe_int (pa_cons pe_int (pa_cons pe_bl (pa_cons (pe_tup pa_nil) (pa_cons (pe_lst pa_nil) (pa_cons pe_dnewK (pa_cons (pe_lst (pa_cons (pv 2) pa_nil)) (pa_cons (pe_tup (pa_cons (pv 2) pa_nil)) (pa_cons (pe_callTy (kCallR (rListOf K) call_list_of rfl) (by rfl) TX.n_list (by decide +kernel) (pa_cons (pv 0) pa_nil)) (pa_cons (pe_tup (pa_cons pe_str (pa_cons pe_int pa_nil))) pa_nil)))))))))))) (pe_cal C__law_draw (hr.mono (by decide)) (by rfl) pass0 (pa_cons (pv 1) (pa_cons pe_int pa_nil))) (fun _ _ => rfl)))) pss_nil)
  (pss_one (ps_ret (pv 2)))))))))), ?_⟩
    refine r_begin (show L2.start _ _ = [some _, some _, none, none] from rfl) ?_
    try dsimp only [cxOf]
    walk_at "rr"
    refine ⟨a, xs, rs, rfl, ea, wr, g, l, fun z H1 oz lz s1 => ?_⟩
    have hb1 := hb.same s1
    walk_at "rr"
    refine ⟨p, 12, _, rfl, hb1, by decide, by decide, by omega, fun what H2 w0 w1 b2 B2 => ?_⟩
    have ea2 := b2 _ _ (s1 _ _ ea) nap
    have wr2 : Paired (RowAt H2) xs rs := Paired.mapP (Paired.mapP wr fun _ _ => RowAt.same s1) fun _ _ ⟨t, e, et⟩ => ⟨t, e, tupn hb1 b2 et⟩
    have b2 := (But.of s1).trans b2
    walk_at "rr"
    refine r_d (fun h => ?_) (fun h => ?_)
    · walk_at "rr"
      refine ⟨z, p, _, _, rfl, oz, lz, B2, by omega, fun y H3 oy ly b3 B3 => ?_⟩
      exact q _ H3 (b2.trans b3) (.inl ⟨y, rfl, ly, oy⟩)
    walk_at "rr"
    refine r_d (fun h => ?_) (fun h => ?_)
    · walk_at "rr"
      refine ⟨z, p, _, _, rfl, oz, lz, B2, by omega, fun y H3 oy ly b3 B3 => ?_⟩
      exact q _ H3 (b2.trans b3) (.inl ⟨y, rfl, ly, oy⟩)
    walk_at "rr"
    refine r_d (fun h => ?_) (fun h => ?_)
    · walk_at "rr"
      refine ⟨z, p, _, rfl, oz, lz, B2, by omega, fun y H3 oy ly b3 B3 => ?_⟩
      exact q _ H3 (b2.trans b3) (.inl ⟨y, rfl, ly, oy⟩)
    walk_at "rr"
    refine r_d (fun h => ?_) (fun h => ?_)
    · walk_at "rr"
      refine ⟨a, p, xs, rs, _, rfl, ea2, nap, wr2, g, l, B2, by omega, fun c ys qs H3 b3 B3 ec wq gq lq => ?_⟩
      walk_at "rr"
      refine ⟨c, ys, qs, rfl, ec, wq, gq, lq, fun y H4 oy ly s4 => ?_⟩
      exact q _ H4 ((b2.trans b3).trans (But.of s4)) (.inl ⟨y, rfl, by omega, oy⟩)
    walk_at "rr"
    refine r_d (fun h => ?_) (fun h => ?_)
    · walk_at "rr"
      refine ⟨Nat.zero_le _, fun x1 n1 => ?_⟩
      have t1 := same_new (o := .tup []) n1
      have e1 : (upd H2 x1 (.tup [])) x1 = some (.tup []) := upd_same
      generalize upd H2 x1 (.tup []) = H3 at t1 e1 ⊢
      walk_at "rr"
      refine ⟨Nat.zero_le _, fun x2 n2 => ?_⟩
      have t2 := same_new (o := .lst []) n2
      have e2 : (upd H3 x2 (.lst [])) x2 = some (.lst []) := upd_same
      have e1 := t2 _ _ e1
      generalize upd H3 x2 (.lst []) = H4 at t2 e1 e2 ⊢
      walk_at "rr"
      refine fun x3 n3 => ?_
      have t3 := same_new (o := .dK []) n3
      have e3 : (upd H4 x3 (.dK [])) x3 = some (.dK []) := upd_same
      have e1 := t3 _ _ e1
      have e2 := t3 _ _ e2
      generalize upd H4 x3 (.dK []) = H5 at t3 e1 e2 e3 ⊢
      walk_at "rr"
      refine ⟨by show 1 ≤ sizeLine; decide, fun x4 n4 => ?_⟩
      have t4 := same_new (o := .lst [V.str z]) n4
      have e4 : (upd H5 x4 (.lst [V.str z])) x4 = some (.lst [V.str z]) := upd_same
      have e1 := t4 _ _ e1
      have e2 := t4 _ _ e2
      have e3 := t4 _ _ e3
      generalize upd H5 x4 (.lst [V.str z]) = H6 at t4 e1 e2 e3 e4 ⊢
      walk_at "rr"
      refine ⟨by show 1 ≤ sizeLine; decide, fun x5 n5 => ?_⟩
      have t5 := same_new (o := .tup [V.str z]) n5
      have e5 : (upd H6 x5 (.tup [V.str z])) x5 = some (.tup [V.str z]) := upd_same
      have e1 := t5 _ _ e1
      have e2 := t5 _ _ e2
      have e3 := t5 _ _ e3
      have e4 := t5 _ _ e4
      generalize upd H6 x5 (.tup [V.str z]) = H7 at t5 e1 e2 e3 e4 e5 ⊢
      have t25 := ((t1.trans t2).trans t3).trans (t4.trans t5)
      have ea7 := t25 _ _ ea2
      walk_at "rr"
      refine ⟨a, xs, rfl, .inl (.inl (.inl ea7)), fun x6 n6 => ?_⟩
      have t6 := same_new (o := .lst xs) n6
      have e6 : (upd H7 x6 (.lst xs)) x6 = some (.lst xs) := upd_same
      have e1 := t6 _ _ e1
      have e2 := t6 _ _ e2
      have e3 := t6 _ _ e3
      have e4 := t6 _ _ e4
      have e5 := t6 _ _ e5
      generalize upd H7 x6 (.lst xs) = H8 at t6 e1 e2 e3 e4 e5 e6 ⊢
      walk_at "rr"
      refine ⟨by show 2 ≤ sizeLine; decide, fun x7 n7 => ?_⟩
      have t7 := same_new (o := .tup [V.str "put", .int 1]) n7
      have e7 : (upd H8 x7 (.tup [V.str "put", .int 1])) x7 = some (.tup [V.str "put", .int 1]) := upd_same
      have e1 := t7 _ _ e1
      have e2 := t7 _ _ e2
      have e3 := t7 _ _ e3
      have e4 := t7 _ _ e4
      have e5 := t7 _ _ e5
      have e6 := t7 _ _ e6
      generalize upd H8 x7 (.tup [V.str "put", .int 1]) = H9 at t7 e1 e2 e3 e4 e5 e6 e7 ⊢
      walk_at "rr"
      refine ⟨by show 11 ≤ sizeLine; decide, fun x8 n8 => ?_⟩
      have t8 := same_new (o := .lst [V.non, .int 0, .int 7, .bl true, .ref x1, .ref x2, .ref x3, .ref x4, .ref x5, .ref x6, .ref x7]) n8
      have e8 : (upd H9 x8 (.lst [V.non, .int 0, .int 7, .bl true, .ref x1, .ref x2, .ref x3, .ref x4, .ref x5, .ref x6, .ref x7])) x8 = some (.lst [V.non, .int 0, .int 7, .bl true, .ref x1, .ref x2, .ref x3, .ref x4, .ref x5, .ref x6, .ref x7]) := upd_same
      have e1 := t8 _ _ e1
      have e2 := t8 _ _ e2
      have e3 := t8 _ _ e3
      have e4 := t8 _ _ e4
      have e5 := t8 _ _ e5
      have e6 := t8 _ _ e6
      have e7 := t8 _ _ e7
      generalize upd H9 x8 (.lst [V.non, .int 0, .int 7, .bl true, .ref x1, .ref x2, .ref x3, .ref x4, .ref x5, .ref x6, .ref x7]) = HA at t8 e1 e2 e3 e4 e5 e6 e7 e8 ⊢
      have t2A := (t25.trans t6).trans (t7.trans t8)
      have BA := B2.same t2A
      walk_at "rr"
      refine ⟨p, 11, _, rfl, BA, by decide, by decide, by omega, fun i HB i0 i1 bB BB => ?_⟩
      have np : ∀ {x : Addr} {o : HO}, HA x = some o → (∀ ys, o ≠ .lst ys) → HB x = some o := fun {x o} e n => bB _ _ e fun z => by
        obtain ⟨ys, ey⟩ := BA.lst
        rw [z, ey] at e
        cases e
        exact n _ rfl
      have no : ∀ {x : Addr} {o : HO}, HA x = some o → H2 x = none → HB x = some o := fun {x o} e n => bB _ _ e fun z => B2.there (z ▸ n)
      have f2 : H2 x2 = none := t1.free n2
      have f4 : H2 x4 = none := ((t1.trans t2).trans t3).free n4
      have f6 : H2 x6 = none := t25.free n6
      have f8 : H2 x8 = none := ((t25.trans t6).trans t7).free n8
      obtain ⟨v, ev, nv⟩ : ∃ v, atI [V.non, .int 0, .int 7, .bl true, .ref x1, .ref x2, .ref x3, .ref x4, .ref x5, .ref x6, .ref x7] i = some v ∧ NotStr K HB v := by
        have c : i = 0 ∨ i = 1 ∨ i = 2 ∨ i = 3 ∨ i = 4 ∨ i = 5 ∨ i = 6 ∨ i = 7 ∨ i = 8 ∨ i = 9 ∨ i = 10 := by omega
        rcases c with rfl | rfl | rfl | rfl | rfl | rfl | rfl | rfl | rfl | rfl | rfl
        · exact ⟨_, rfl, "NoneType", by decide +kernel, ty_non⟩
        · exact ⟨_, rfl, "int", by decide +kernel, ty_int⟩
        · exact ⟨_, rfl, "int", by decide +kernel, ty_int⟩
        · exact ⟨_, rfl, "bool", by decide +kernel, ty_bl⟩
        · exact ⟨_, rfl, "tuple", by decide +kernel, ty_tup (np e1 fun ys e => by cases e)⟩
        · exact ⟨_, rfl, "list", by decide +kernel, ty_lst (no e2 f2)⟩
        · exact ⟨_, rfl, "dict", by decide +kernel, ty_dK (np e3 fun ys e => by cases e)⟩
        · exact ⟨_, rfl, "list", by decide +kernel, ty_lst (no e4 f4)⟩
        · exact ⟨_, rfl, "tuple", by decide +kernel, ty_tup (np e5 fun ys e => by cases e)⟩
        · exact ⟨_, rfl, "list", by decide +kernel, ty_lst (no e6 f6)⟩
        · exact ⟨_, rfl, "tuple", by decide +kernel, ty_tup (np e7 fun ys e => by cases e)⟩
      refine r_ixl (no e8 f8) ev ?_
      exact q v HB ((b2.trans (But.of t2A)).trans bB) (.inr nv)
    walk_at "rr"
    exact q _ H2 b2 (.inl ⟨z, rfl, by omega, oz⟩)
/-! ### _law_right_row -/
abbrev s__law_right_row : Stmt := top 40
theorem sc__law_right_row : FnScope ["row", "many"] ["row", "many"] (defScope s__law_right_row) := ⟨rfl, rfl, rfl, by decide +kernel, rfl, by decide +kernel, by decide +kernel⟩
def sp__law_right_row (_ : PySem.W.Frag) : Sp := fun vs H Q _ => ∃ (v : V) (r : Rw) (many : Int), vs = [v, .int many] ∧ RwAt H v r ∧ r.2.length ≤ 1 ∧ ∀ H', Same H H' → Q (.bl (rwOk many r)) H'
theorem ok__law_right_row {fa : Addr} {fd : FuncData} (F : Fun K "_law_right_row" "_law_right_row" s__law_right_row fa fd) (TX : Tx mg) :
    FnOk P w K mg base CX0 1 fa fd ["row", "many"] (sp__law_right_row K) := by
  refine F.ok sc__law_right_row (fun vs H Q E h => ?_) (fun cdv A outer s H vs Q E hr h => ?_)
  · obtain ⟨v, r, many, rfl, ⟨a, rfl, ea⟩, l1, q⟩ := h
    rfl
  · obtain ⟨v, r, many, rfl, ⟨a, rfl, ea⟩, l1, q⟩ := h
    have hu := hu_of hr
    have hu64 := hr.units
    have hu65 := hu65_of hr
    obtain ⟨s, ns⟩ := r
    refine ⟨_, (pss_cons (ps_if (pt_cmpR op_eq (pe_callB call_len (by rfl) TX.n_len (by decide +kernel) (pa_cons (pv 0) pa_nil)) pe_int (nomark _)) (pss_one (ps_ret (pe_cmpR op_in_seq (pe_ix ix_tup (pv 0) pe_int (fun _ _ => rfl)) (pe_tup (pa_cons pe_str (pa_cons pe_str (pa_cons pe_str (pa_cons pe_str (pa_cons pe_str (pa_cons pe_str (pa_cons pe_str pa_nil)))))))) (by rfl)))) pss_nil)
  (pss_cons (ps_if (pt_cmpR op_eq (pe_ix ix_tup (pv 0) pe_int (fun _ _ => rfl)) pe_str (nomark _)) (pss_one (ps_ret pe_bl)) pss_nil)
  (pss_cons (ps_if (pt_cmpR op_in_seq (pe_ix ix_tup (pv 0) pe_int (fun _ _ => rfl)) (pe_tup (pa_cons pe_str (pa_cons pe_str (pa_cons pe_str (pa_cons pe_str (pa_cons pe_str pa_nil)))))) (by rfl)) (pss_one (ps_ret (pe_cmpR op_ge (pe_ix ix_tup (pv 0) pe_int (fun _ _ => rfl)) pe_int (nomark _)))) pss_nil)
  (pss_one (ps_ret (pe_and (pe_cmpR op_in_seq (pe_ix ix_tup (pv 0) pe_int (fun _ _ => rfl)) (pe_tup (pa_cons pe_str (pa_cons pe_str (pa_cons pe_str (pa_cons pe_str pa_nil))))) (by rfl)) (pe_one (pe_chain op_le op_le pe_int (pe_ix ix_tup (pv 0) pe_int (fun _ _ => rfl)) (pv 1))))))))), ?_⟩
    refine r_begin (show L2.start _ _ = [some _, some _] from rfl) ?_
    try dsimp only [cxOf]
    walk_at "rr"
    refine r_lent ea ?_
    walk_at "rr"
    match ns, ea, l1, q with
    | [], ea, _, q =>
      have ea' : H a = some (.tup [.str s]) := ea
      refine r_itT (by rfl) ?_
      walk_at "rr"
      (try refine r_ixt ea' rfl ?_)
      walk_at "rr"
      refine ⟨by show 7 ≤ sizeLine; decide, fun t ht => ?_⟩
      refine ⟨t, bare.map V.str, rfl, .inr (.inl (.inl upd_same)), rfl, by decide, ?_⟩
      rw [inV_strs]
      exact q _ (same_new ht)
    | [n], ea, _, q =>
      have ea' : H a = some (.tup [.str s, .int n]) := ea
      refine r_itF (by rfl) ?_
      walk_at "rr"
      (try refine r_ixt ea' rfl ?_)
      walk_at "rr"
      (try rw [dstr])
      have q : ∀ H', Same H H' → Q (.bl (if s = "put" then true else if s ∈ reaching then decide (0 ≤ n) else decide (s ∈ leading) && (decide (0 ≤ n) && decide (n ≤ many)))) H' := q
      by_cases hp : s = "put"
      · rw [if_pos hp] at q
        refine r_itT (decide_eq_true hp) ?_
        walk_at "rr"
        exact q H (Same.refl H)
      rw [if_neg hp] at q
      refine r_itF (decide_eq_false hp) ?_
      walk_at "rr"
      (try refine r_ixt ea' rfl ?_)
      walk_at "rr"
      refine ⟨by show 5 ≤ sizeLine; decide, fun t ht => ?_⟩
      have s1 := same_new (o := .tup (reaching.map V.str)) ht
      refine ⟨t, reaching.map V.str, rfl, .inr (.inl (.inl upd_same)), rfl, by decide, ?_⟩
      rw [inV_strs]
      have ea1 := s1 _ _ ea'
      refine r_bl ?_
      by_cases hr1 : s ∈ reaching
      · rw [if_pos hr1] at q
        rw [decide_eq_true hr1]
        refine r_itT rfl ?_
        walk_at "rr"
        (try refine r_ixt ea1 rfl ?_)
        walk_at "rr"
        exact q _ s1
      rw [if_neg hr1] at q
      rw [decide_eq_false hr1]
      refine r_itF rfl ?_
      walk_at "rr"
      (try refine r_ixt ea1 rfl ?_)
      walk_at "rr"
      refine ⟨by show 4 ≤ sizeLine; decide, fun t2 ht2 => ?_⟩
      have ht2 : (upd H t (.tup (reaching.map V.str))) t2 = none := ht2
      have s2 := s1.trans (same_new (o := .tup (leading.map V.str)) ht2)
      have ea2 := s2 _ _ ea'
      refine ⟨t2, leading.map V.str, rfl, .inr (.inl (.inl upd_same)), rfl, by decide, ?_⟩
      rw [inV_strs]
      (try refine r_bl ?_)
      by_cases hl : s ∈ leading
      · rw [decide_eq_true hl]
        rw [decide_eq_true hl, Bool.true_and] at q
        (try refine r_itT rfl ?_)
        walk_at "rr"
        (try refine r_ixt ea2 rfl ?_)
        walk_at "rr"
        by_cases h0 : 0 ≤ n
        · rw [decide_eq_true h0, Bool.true_and] at q
          refine r_itT (decide_eq_true h0) ?_
          walk_at "rr"
          exact q _ s2
        · rw [decide_eq_false h0, Bool.false_and] at q
          refine r_itF (decide_eq_false h0) ?_
          walk_at "rr"
          exact q _ s2
      · rw [decide_eq_false hl, Bool.false_and] at q
        rw [decide_eq_false hl]
        (try refine r_itF rfl ?_)
        walk_at "rr"
        exact q _ s2
    | n :: m :: ns, ea, l1, q => exact absurd l1 (by simp)
/-! ### _law_read -/
abbrev s__law_read : Stmt := top 41
theorem sc__law_read : FnScope ["text", "rows", "part", "words", "numbers", "word", "row"] ["text"] (defScope s__law_read) := ⟨rfl, rfl, rfl, by decide +kernel, rfl, by decide +kernel, by decide +kernel⟩
def sp__law_read (K : PySem.W.Frag) : Sp := fun vs H Q _ => ∃ (v : V), vs = [v] ∧ ((NotStr K H v ∧ Q .non H) ∨ ∃ z : Str, v = .str z ∧ z.length ≤ 80000 ∧ (dueProg z = none → ∀ H', Same H H' → Q .non H') ∧
  ∀ rs, dueProg z = some rs → ∀ (l : Addr) (xs : List V) (H' : Hp), H l = none → Same H H' → H' l = some (.lst xs) → Paired (RwAt H') xs rs → Q (.ref l) H')
theorem ok__law_read {fa : Addr} {fd : FuncData} (F : Fun K "_law_read" "_law_read" s__law_read fa fd) (TX : Tx mg)
    (C__law_number : Cal P w K mg base CX0 1 "_law_number" ["word"] (sp__law_number K))
    (C__law_right_row : Cal P w K mg base CX0 1 "_law_right_row" ["row", "many"] (sp__law_right_row K)) :
    FnOk P w K mg base CX0 2 fa fd ["text"] (sp__law_read K) := by
  refine F.ok sc__law_read (fun vs H Q E h => ?_) (fun cdv A outer s H vs Q E hr h => ?_)
  · obtain ⟨v, rfl, hq⟩ := h
    rfl
  · obtain ⟨v, rfl, hq⟩ := h
    have hu := hu_of hr
    have hu64 := hr.units
    have hu65 := hu65_of hr
    refine ⟨_, (pss_cons (ps_if (pt_not (pt_val (pe_callB call_isi (by rfl) TX.n_isinstance (by decide +kernel) (pa_cons (pv 0) (pa_cons (pe_bltn (v := .ty "str") (by rfl) TX.n_str (by decide +kernel) rfl) pa_nil))))) (pss_one (ps_ret pe_non)) pss_nil)
  (pss_cons (ps_set (i := 1) sc__law_read.nd rfl (Or.inr rfl) (pe_lst pa_nil))
  (pss_cons (ps_if (pt_cmpR op_ne (pv 0) pe_str (nomark _)) (pss_one (ps_for PassesOwn.never rfl (pi_list (pe_split (pv 0) pe_str)) (pg_name (i := 2) sc__law_read.nd rfl (Or.inl rfl))
  (pss_cons (ps_set (i := 3) sc__law_read.nd rfl (Or.inl rfl) (pe_split (pv 2) pe_str))
  (pss_cons (ps_setLc (i := 4) (own := [("word", 5)]) (g := gName 5) (tt := tYes) rfl sc__law_read.nd rfl rfl (sw_true rfl rfl rfl (by decide +kernel)) (pi_list (pe_slice sl_list (pv 3) (po_some pe_int) po_none)) (blkOk_by (own := [("word", 5)]) (N := ["text", "rows", "part", "words", "numbers", "word", "row"]) (sc := defScope s__law_read) (by decide +kernel)) (fun _ _ _ _ _ => (pg_name (i := 5) sc__law_read.nd rfl (Or.inl rfl))) (fun _ _ _ _ _ => pts_nil) (fun _ _ _ _ _ => (pe_cal C__law_number (hr.mono (by decide)) (by rfl) pass0 (pa_cons (pv 5) pa_nil))))
  (pss_cons (ps_if (PW.pt (pw_or (pt_cmpR op_gt (pe_callB call_len (by rfl) TX.n_len (by decide +kernel) (pa_cons (pv 4) pa_nil)) pe_int (nomark _)) (pw_or1 (pt_cmpR (op_inD hu65) pe_non (pv 4) (by rfl))))) (pss_one (ps_ret pe_non)) pss_nil)
  (pss_one (ps_expr (pe_bm PySem.F.plainAttrs_list PySem.F.slot_list_append PySem.F.type_list_append mt_append (pv 1) (pa_cons (pe_op op_catT (pe_tup (pa_cons (pe_ix ix_list (pv 3) pe_int (fun _ _ => rfl)) pa_nil)) (pe_callTy call_tuple_of (by rfl) TX.n_tuple (by decide +kernel) (pa_cons (pv 4) pa_nil))) pa_nil))))))))) pss_nil)
  (pss_cons (ps_if (pt_not (pt_val (pe_callB (cr_all rfl) (by rfl) TX.n_all (by decide +kernel) (pa_cons (pe_lc (own := [("row", 6)]) (g := gName 6) (tt := tYes) rfl sc__law_read.nd (pi_list (pv 1)) (blkOk_by (own := [("row", 6)]) (N := ["text", "rows", "part", "words", "numbers", "word", "row"]) (sc := defScope s__law_read) (by decide +kernel)) (fun _ _ _ _ _ => (pg_name (i := 6) sc__law_read.nd rfl (Or.inl rfl))) (fun _ _ _ _ _ => pts_nil) (fun _ _ _ _ _ => (pe_cal C__law_right_row (hr.mono (by decide)) (by rfl) pass0 (pa_cons (pv 6) (pa_cons (pe_callB (kCallR (rLenK K) call_len rfl) (by rfl) TX.n_len (by decide +kernel) (pa_cons (pv 1) pa_nil)) pa_nil))))) pa_nil)))) (pss_one (ps_ret pe_non)) pss_nil)
  (pss_one (ps_ret (pv 1))))))), ?_⟩
    refine r_begin (show L2.start _ _ = [some _, none, none, none, none, none, none] from rfl) ?_
    try dsimp only [cxOf]
    walk_at "rr"
    rcases hq with ⟨ns, qx⟩ | ⟨z0, rfl, hz0, qx, q⟩
    · refine r_notS ns ?_
      walk_at "rr"
      (try refine r_itT rfl ?_)
      walk_at "rr"
      exact qx
    refine r_isi ty_str (kit_str _ (by decide)) ?_
    walk_at "rr"
    refine r_itF rfl ?_
    walk_at "rr"
    refine ⟨Nat.zero_le _, fun z hz => ?_⟩
    have s1 := same_new (o := .lst []) hz
    have ez : (upd H z (.lst [])) z = some (.lst []) := upd_same
    generalize upd H z (.lst []) = H1 at s1 ez ⊢
    walk_at "rr"
    try rw [dstr]
    by_cases hc : z0 = ""
    · have pe : progOf z0 = some [] := if_pos hc
      have de : dueProg z0 = some [] := by
        unfold dueProg
        rw [pe]
        rfl
      refine r_itF (by rw [decide_eq_true hc]; rfl) ?_
      walk_at "rr"
      refine r_ilw ez ?_
      refine C_list (xs := []) (fun D k H7 => H1 D = none ∧ Same H1 H7 ∧ H7 D = some (.lst [])) (fun D hD => ⟨hD, same_new hD, upd_same⟩) ?_ ?_ ?_
      · rintro D k H7 hk ⟨hD, s7, eD⟩
        exact .inl (.inl (s7 _ _ ez))
      · rintro D k x H7 hx ⟨hD, s7, eD⟩
        simp at hx
      · rintro D H7 hD ⟨_, s7, eD⟩
        have aD : At H7 (.ref D) ([] : List Bool) := ⟨D, _, rfl, eD, .nil⟩
        walk_at "rr"
        refine r_allA (ns := []) (Dat.same (fun b o e => del_at e (by simp)) aD) ?_
        walk_at "rr"
        (try refine r_itF rfl ?_)
        walk_at "rr"
        exact q [] de z [] H7 hz (s1.trans s7) (s7 _ _ ez) .nil
    have pe : progOf z0 = optAll ((pieces z0).map rowOf) := if_neg hc
    have pl := pieces_len (z := z0)
    refine r_itT (by rw [decide_eq_false hc]; rfl) ?_
    walk_at "rr"
    refine ⟨_, _, rfl, rfl, by decide +kernel, by show _ + 2 ≤ sizeLine; exact sz (by omega), fun p hp => ?_⟩
    have s2 := s1.trans (same_new (o := .lst ((Txt.split z0 (Str.ofString "; ")).map V.str)) hp)
    have ep : (upd H1 p (.lst ((Txt.split z0 (Str.ofString "; ")).map V.str))) p = some (.lst ((pieces z0).map V.str)) := upd_same
    have ez2 := same_new (o := .lst ((Txt.split z0 (Str.ofString "; ")).map V.str)) hp _ _ ez
    have npz : p ≠ z := fun e => by rw [e, ez] at hp; cases hp
    generalize upd H1 p (.lst ((Txt.split z0 (Str.ofString "; ")).map V.str)) = H2 at s2 ep ez2 ⊢
    refine r_ilw ep ?_
    refine L_list (xs := (pieces z0).map V.str) (fun i σ H3 => (∃ (u2 u3 u4 u5 : Option V), σ = [some (.str z0), some (.ref z), u2, u3, u4, u5, none]) ∧ Same H H3 ∧ H3 p = some (.lst ((pieces z0).map V.str)) ∧ ∃ (xs : List V) (rs : List Rw), H3 z = some (.lst xs) ∧ Paired (RwAt H3) xs rs ∧ ((pieces z0).take i).map rowOf = rs.map some ∧ ∀ r ∈ rs, r.2.length ≤ 1)
      ⟨⟨_, _, _, _, rfl⟩, s2, ep, [], [], ez2, .nil, rfl, fun r m => (by cases m)⟩ ?_ ?_ ?_
    · rintro i σ H3 hi ⟨⟨u2, u3, u4, u5, rfl⟩, s3, ep3, xs, rs, ez3, w3, er3, sh3⟩
      exact .inl (.inl ep3)
    · rintro i x σ H3 hx ⟨⟨u2, u3, u4, u5, rfl⟩, s3, ep3, xs, rs, ez3, w3, er3, sh3⟩
      rw [List.getElem?_map] at hx
      obtain ⟨pa, epa, rfl⟩ := Option.map_eq_some_iff.mp hx
      have mpa := List.mem_of_getElem? epa
      have hi : i < (pieces z0).length := (List.getElem?_eq_some_iff.mp epa).1
      have lpa := piece_len mpa
      have l3 : xs.length ≤ i := by
        have e := congrArg List.length er3
        rw [List.length_map, List.length_map, List.length_take] at e
        have := paired_len w3
        omega
      obtain ⟨w, ws, ew⟩ := words_ne (z := pa)
      have wl := words_len (z := pa)
      have ro := row_cons ew
      walk_at "rr"
      refine ⟨_, _, rfl, rfl, by decide +kernel, by show pa.length + 2 ≤ sizeLine; exact sz (by omega), fun wd hwd => ?_⟩
      have s4 := s3.trans (same_new (o := .lst ((Txt.split pa (Str.ofString " ")).map V.str)) hwd)
      have ewd : (upd H3 wd (.lst ((Txt.split pa (Str.ofString " ")).map V.str))) wd = some (.lst ((w :: ws).map V.str)) := by rw [← ew]; exact upd_same
      have s34 := same_new (o := .lst ((Txt.split pa (Str.ofString " ")).map V.str)) hwd
      generalize upd H3 wd (.lst ((Txt.split pa (Str.ofString " ")).map V.str)) = H4 at s4 ewd s34 ⊢
      have ez4 := s34 _ _ ez3
      walk_at "rr"
      refine r_slL (.inl (.inl ewd)) fun c hcs => ?_
      rw [cut1, show ((w :: ws).map V.str).drop 1 = ws.map V.str from rfl]
      have s46 := same_new (o := .lst (ws.map V.str)) hcs
      have ec6 : (upd H4 c (.lst (ws.map V.str))) c = some (.lst (ws.map V.str)) := upd_same
      have ew6 := s46 _ _ ewd
      generalize upd H4 c (.lst (ws.map V.str)) = H6 at s46 ec6 ew6 ⊢
      have s36 := s34.trans s46
      have lws : ws.length ≤ 90000 := by
        have := wl
        rw [ew, List.length_cons] at this
        omega
      refine r_ilw ec6 ?_
      refine C_list (xs := ws.map V.str) (fun D k H7 => H6 D = none ∧ Same H6 H7 ∧ H7 D = some (.lst (((ws.take k).map numOf).map oV))) (fun D hD => ⟨hD, same_new hD, upd_same⟩) ?_ ?_ ?_
      · rintro D k H7 hk ⟨hD, s7, eD⟩
        exact .inl (.inl (s7 _ _ ec6))
      · rintro D k x H7 hx ⟨hD, s7, eD⟩
        rw [List.getElem?_map] at hx
        obtain ⟨y, ey, rfl⟩ := Option.map_eq_some_iff.mp hx
        have my := List.mem_of_getElem? ey
        have hk : k < ws.length := (List.getElem?_eq_some_iff.mp ey).1
        have ly := word_len (z := pa) (p := y) (by rw [ew]; exact List.mem_cons_of_mem _ my)
        have put : ∀ v, oV (numOf y) = v → ∃ acc, H7 D = some (.lst acc) ∧ acc.length < sizeLine ∧ H6 D = none ∧ Same H6 (upd H7 D (.lst (acc ++ [v]))) ∧ (upd H7 D (.lst (acc ++ [v]))) D = some (.lst (((ws.take (k + 1)).map numOf).map oV)) := fun v ev => by
          refine ⟨_, eD, szl (by rw [List.length_map, List.length_map, List.length_take]; omega), hD, Same.own s7 hD, ?_⟩
          rw [upd_same, List.take_add_one, ey, List.map_append, List.map_append, ← ev]
          rfl
        walk_at "rr"
        refine ⟨y, rfl, by omega, fun hn => ?_, fun n hn => ?_⟩
        · exact put .non (by rw [hn]; rfl)
        · exact put (.int n) (by rw [hn]; rfl)
      · rintro D H7 hD ⟨_, s7, eD⟩
        rw [List.length_map, List.take_length] at eD
        have s37 := s36.trans s7
        walk_at "rr"
        refine r_lenl eD ?_
        walk_at "rr"
        refine r_d (fun hl => ?_) (fun hl => ?_)
        · walk_at "rr"
          exact qx (due_long mpa hc ew (by rw [List.length_map, List.length_map] at hl; omega)) H7 (s3.trans s37)
        have lws1 : ws.length ≤ 1 := by
          rw [List.length_map, List.length_map] at hl
          omega
        walk_at "rr"
        refine ⟨.none, (ws.map numOf).map oD, .non, .lst (.inl (.inl eD)) oV_dp, Ok.shaped (n := 2) ⟨rfl, by simp [PyData.depth]⟩ (by decide), Ok.shaped (n := 2) (Ok.list (OkAll.map fun o _ => ⟨(oD_ok o).1, Nat.le_trans (oD_ok o).2 (by decide)⟩)) (by decide), ?_⟩
        rw [oD_none]
        (try refine r_bl ?_)
        by_cases hn : none ∈ ws.map numOf
        · rw [decide_eq_true hn]
          (try refine r_itT rfl ?_)
          walk_at "rr"
          refine qx ?_ H7 (s3.trans s37)
          have : rowOf pa = none := by
            rw [ro, optAll_none.mpr hn]
            rfl
          unfold dueProg
          rw [pe, optAll_none.mpr (by rw [← this]; exact List.mem_map.mpr ⟨pa, mpa, rfl⟩)]
        rw [decide_eq_false hn]
        (try refine r_itF rfl ?_)
        obtain ⟨ns, en⟩ : ∃ ns : List Int, ws.map numOf = ns.map some := by
          cases e : optAll (ws.map numOf) with
          | none => exact absurd (optAll_none.mp e) hn
          | some ns => exact ⟨ns, optAll_some.mp e⟩
        have lns : ns.length ≤ 1 := by
          have e := congrArg List.length en
          rw [List.length_map, List.length_map] at e
          omega
        have rsome : rowOf pa = some (w, ns) := by
          rw [ro, optAll_some.mpr en]
          rfl
        rw [en, oV_some] at eD
        walk_at "rr"
        refine r_tyL (s37 _ _ ez3) ?_
        walk_at "rr"
        refine r_ixl (s7 _ _ ew6) (at_of (show (0 : Int) = ((0 : Nat) : Int) from rfl) (show ((w :: ws).map V.str)[0]? = some (V.str w) from rfl)) ?_
        walk_at "rr"
        refine ⟨by show 1 ≤ sizeLine; decide, fun t1 ht1 => ?_⟩
        have s71 := same_new (o := .tup [.str w]) ht1
        have et1 : (upd H7 t1 (.tup [.str w])) t1 = some (.tup [.str w]) := upd_same
        have eD1 := s71 _ _ eD
        generalize upd H7 t1 (.tup [.str w]) = H7' at s71 et1 eD1 ⊢
        walk_at "rr"
        refine ⟨D, _, rfl, .inl ⟨.inl (.inl eD1), fun t2 ht2 => ?_⟩⟩
        have s78 := same_new (o := .tup (ns.map V.int)) ht2
        have et2 : (upd H7' t2 (.tup (ns.map V.int))) t2 = some (.tup (ns.map V.int)) := upd_same
        have et18 := s78 _ _ et1
        generalize upd H7' t2 (.tup (ns.map V.int)) = H8 at s78 et2 et18 ⊢
        have s38 : Same H3 H8 := (s37.trans s71).trans s78
        have hzH := hz
        have fin2 : ∀ (t : Addr) (H9 : Hp), Same H8 H9 → RwAt H9 (.ref t) (w, ns) → Same H (upd H9 z (.lst (xs ++ [V.ref t]))) ∧ (upd H9 z (.lst (xs ++ [V.ref t]))) p = some (.lst ((pieces z0).map V.str)) ∧ ∃ (xs' : List V) (rs' : List Rw), (upd H9 z (.lst (xs ++ [V.ref t]))) z = some (.lst xs') ∧ Paired (RwAt (upd H9 z (.lst (xs ++ [V.ref t])))) xs' rs' ∧ ((pieces z0).take (i + 1)).map rowOf = rs'.map some ∧ ∀ r ∈ rs', r.2.length ≤ 1 := by
          intro t H9 s9 hr9
          have s39 := s38.trans s9
          have up : ∀ {v : V} {r : Rw}, RwAt H9 v r → RwAt (upd H9 z (.lst (xs ++ [V.ref t]))) v r := by
            rintro v r ⟨a, e, h⟩
            exact ⟨a, e, by rw [upd_ne (fun e => by rw [e, s39 _ _ ez3] at h; cases h)]; exact h⟩
          refine ⟨Same.own (s3.trans s39) hzH, by rw [upd_ne npz]; exact s39 _ _ ep3, xs ++ [V.ref t], rs ++ [(w, ns)], upd_same, ?_, ?_, fun r m => ?_⟩
          · exact paired_app (Paired.mapP w3 fun _ _ h => up (h.same s39)) (.cons (up hr9) .nil)
          · rw [List.take_add_one, epa, List.map_append, List.map_append, er3]
            simp [rsome]
          · rcases List.mem_append.mp m with m | m
            · exact sh3 r m
            · rw [List.mem_singleton.mp m]
              exact lns
        refine ⟨t1, t2, _, _, rfl, rfl, .inl (.inl et18), .inl (.inl et2), by simp, sz (by simp; omega), fun en2 => ?_, fun en2 t3 ht3 => ?_⟩
        · walk_at "rr"
          refine r_app (s38 _ _ ez3) (szl (by omega)) ?_
          walk_at "rr"
          refine ⟨⟨_, _, _, _, rfl⟩, fin2 t1 H8 (Same.refl H8) ⟨t1, rfl, ?_⟩⟩
          show H8 t1 = some (.tup (.str w :: ns.map V.int))
          rw [en2]
          exact et18
        · have s89 := same_new (o := .tup ([V.str w] ++ ns.map V.int)) ht3
          walk_at "rr"
          refine r_app (s89 _ _ (s38 _ _ ez3)) (szl (by omega)) ?_
          walk_at "rr"
          exact ⟨⟨_, _, _, _, rfl⟩, fin2 t3 _ s89 ⟨t3, rfl, upd_same⟩⟩
    · rintro σ H3 ⟨⟨u2, u3, u4, u5, rfl⟩, s3, ep3, xs, rs, ez3, w3, er3, sh3⟩
      rw [List.length_map, List.take_length] at er3
      have ps : progOf z0 = some rs := by rw [pe, optAll_some.mpr er3]
      have dp : dueProg z0 = if rs.all (rwOk (rs.length : Int)) = true then some rs else none := by
        unfold dueProg
        rw [ps]
      have lx := paired_len w3
      have lrs : rs.length ≤ 80002 := by
        have e := congrArg List.length er3
        rw [List.length_map, List.length_map] at e
        omega
      walk_at "rr"
      refine r_ilw ez3 ?_
      refine C_list (xs := xs) (fun D k H7 => H3 D = none ∧ Same H3 H7 ∧ H7 D = some (.lst (((rs.take k).map (rwOk (rs.length : Int))).map V.bl))) (fun D hD => ⟨hD, same_new hD, upd_same⟩) ?_ ?_ ?_
      · rintro D k H7 hk ⟨hD, s7, eD⟩
        exact .inl (.inl (s7 _ _ ez3))
      · rintro D k x H7 hx ⟨hD, s7, eD⟩
        obtain ⟨r, er, hr⟩ := L2.paired_get w3 hx
        have hk : k < rs.length := (List.getElem?_eq_some_iff.mp er).1
        walk_at "rr"
        refine r_lenl (s7 _ _ ez3) ?_
        walk_at "rr"
        refine ⟨x, r, _, rfl, hr.same s7, sh3 r (List.mem_of_getElem? er), fun H8 s8 => ?_⟩
        rw [lx]
        refine ⟨_, s8 _ _ eD, szl (by rw [List.length_map, List.length_map, List.length_take]; omega), hD, Same.own (s7.trans s8) hD, ?_⟩
        rw [upd_same, List.take_add_one, er, List.map_append, List.map_append]
        rfl
      · rintro D H7 hD ⟨_, s7, eD⟩
        rw [lx, List.take_length] at eD
        have aD : At H7 (.ref D) (rs.map (rwOk (rs.length : Int))) := ⟨D, _, rfl, eD, ats_of_bl⟩
        walk_at "rr"
        refine r_allA (ns := []) (Dat.same (fun b o e => del_at e (by simp)) aD) ?_
        have ea : (rs.map (rwOk (rs.length : Int))).all id = rs.all (rwOk (rs.length : Int)) := by
          rw [List.all_map]
          rfl
        rw [ea]
        cases ho : rs.all (rwOk (rs.length : Int)) with
        | true =>
          rw [ho] at dp
          walk_at "rr"
          (try refine r_itF rfl ?_)
          walk_at "rr"
          exact q rs dp z xs H7 hz (s3.trans s7) (s7 _ _ ez3) (Paired.mapP w3 fun _ _ => RwAt.same s7)
        | false =>
          rw [ho] at dp
          walk_at "rr"
          (try refine r_itT rfl ?_)
          walk_at "rr"
          exact qx dp H7 (s3.trans s7)
/-! ### _law_asked -/
abbrev s__law_asked : Stmt := top 42
theorem sc__law_asked : FnScope ["text", "found", "classes", "e", "others"] ["text"] (defScope s__law_asked) := ⟨rfl, rfl, rfl, by decide +kernel, rfl, by decide +kernel, by decide +kernel⟩
def sp__law_asked (K : PySem.W.Frag) (cN : Addr) : Sp := fun vs H Q _ => ∃ (v : V), vs = [v] ∧ ((NotStr K H v ∧ ∀ (t c : Addr) H', Same H H' → H' t = some (.tup [.non, .ref c]) → H' c = some (.tup [.bl true, .bl true, .bl false]) → Q (.ref t) H') ∨
  ∃ z : Str, v = .str z ∧ z.length ≤ 80000 ∧ (dueProg z = none → ∀ (t c : Addr) H', Same H H' → H' t = some (.tup [.non, .ref c]) → H' c = some (.tup [.bl true, .bl true, .bl false]) → Q (.ref t) H') ∧
  ∀ rs, dueProg z = some rs → ∀ (t l : Addr) (xs : List V) (H' : Hp), Same H H' → H' t = some (.tup [.ref l, .non]) → H' l = some (.lst xs) → Paired (RwAt H') xs rs → Q (.ref t) H')
theorem ok__law_asked {fa : Addr} {fd : FuncData} (F : Fun K "_law_asked" "_law_asked" s__law_asked fa fd) (TX : Tx mg)
    {cNoPicture : Addr}
    {cNoProgram : Addr}
    {cNoRow : Addr}
    {cNoText : Addr}
    {cNoWorth : Addr}
    {cPileError : Addr}
    (X_NoPicture : XOk K mg "NoPicture" cNoPicture)
    (X_NoProgram : XOk K mg "NoProgram" cNoProgram)
    (X_NoRow : XOk K mg "NoRow" cNoRow)
    (X_NoText : XOk K mg "NoText" cNoText)
    (X_NoWorth : XOk K mg "NoWorth" cNoWorth)
    (X_PileError : XOk K mg "PileError" cPileError)
    (e_NoText_NoText : PySem.W.exmOne K (.ref cNoText) (.ref cNoText) = some true)
    (t_NoText_PileError : PySem.W.kitOne K (.ref cNoText) (.ref cPileError) = some true)
    (t_NoText_ValueError : PySem.W.kitOne K (.ref cNoText) (.type "ValueError") = some true)
    (t_NoText_NoPicture : PySem.W.kitOne K (.ref cNoText) (.ref cNoPicture) = some false)
    (t_NoText_NoProgram : PySem.W.kitOne K (.ref cNoText) (.ref cNoProgram) = some false)
    (t_NoText_NoRow : PySem.W.kitOne K (.ref cNoText) (.ref cNoRow) = some false)
    (t_NoText_NoWorth : PySem.W.kitOne K (.ref cNoText) (.ref cNoWorth) = some false)
    (E_NoText : ExcC K cNoText)
    (C_read_program : Cal P w K mg base (L2.CX P w) 4 "read_program" ["text"] (sp_read_program K cNoText)) :
    FnOk P w K mg base CX0 5 fa fd ["text"] (sp__law_asked K cNoText) := by
  refine F.ok sc__law_asked (fun vs H Q E h => ?_) (fun cdv A outer s H vs Q E hr h => ?_)
  · obtain ⟨v, rfl, hq⟩ := h
    rfl
  · obtain ⟨v, rfl, hq⟩ := h
    have hu := hu_of hr
    have hu64 := hr.units
    have hu65 := hu65_of hr
    refine ⟨_, (pss_cons (ps_set (i := 1) sc__law_asked.nd rfl (Or.inl rfl) pe_non)
  (pss_cons (ps_set (i := 2) sc__law_asked.nd rfl (Or.inl rfl) pe_non)
  (pss_cons (ps_tryH rfl rfl rfl sc__law_asked.nd (i := 3) rfl rfl ⟨rfl, by decide, .inl X_NoText.g⟩ takesF (fun W1 pn1 xe1 tk1 po1 => (pss_one (ps_set (i := 1) sc__law_asked.nd rfl (Or.inl rfl) (pe_calS C_read_program (hr.mono (by decide)) (by rfl) (fun σ => passAt tk1 σ) (pa_cons (pv 0) pa_nil))))) (fun a1 pm1 => (pss_cons (ps_set (i := 4) sc__law_asked.nd rfl (Or.inl rfl) (pe_callB (id := "isinstance") (kCallR (rIsOT K) call_isOT rfl) (by rfl) TX.n_isinstance (by decide +kernel) (pa_cons (pv 3) (pa_cons (pe_tup (pa_cons (pe_glob (v := .ref cNoPicture) (by rfl) X_NoPicture.g rfl) (pa_cons (pe_glob (v := .ref cNoProgram) (by rfl) X_NoProgram.g rfl) (pa_cons (pe_glob (v := .ref cNoRow) (by rfl) X_NoRow.g rfl) (pa_cons (pe_glob (v := .ref cNoWorth) (by rfl) X_NoWorth.g rfl) pa_nil))))) pa_nil))))
  (pss_one (ps_set (i := 2) sc__law_asked.nd rfl (Or.inl rfl) (pe_tup (pa_cons (pe_callB (id := "isinstance") (kCallR (rIsO K) call_isO rfl) (by rfl) TX.n_isinstance (by decide +kernel) (pa_cons (pv 3) (pa_cons (pe_glob (v := .ref cPileError) (by rfl) X_PileError.g rfl) pa_nil))) (pa_cons (pe_callB (id := "isinstance") (kCallR (rIsO K) call_isO rfl) (by rfl) TX.n_isinstance (by decide +kernel) (pa_cons (pv 3) (pa_cons (pe_bltn (v := .ty "ValueError") (by rfl) TX.n_ValueError (by decide +kernel) rfl) pa_nil))) (pa_cons (pv 4) pa_nil)))))))))
  (pss_one (ps_ret (pe_tup (pa_cons (pv 1) (pa_cons (pv 2) pa_nil)))))))), ?_⟩
    refine r_begin (show L2.start _ _ = [some _, none, none, none, none] from rfl) ?_
    try dsimp only [cxOf]
    walk_at "rr"
    rcases hq with ⟨nv, q⟩ | ⟨z, rfl, lz, qx, q⟩
    · refine ⟨v, rfl, .inl ⟨nv, ?_⟩⟩
      refine ⟨true, e_NoText_NoText, fun _ => ⟨rfl, fun a ha => ?_⟩, fun z => nomatch z⟩
      have s2 : Same H (upd H a (EO (.ref cNoText) a)) := same_new ha
      have ea : (upd H a (EO (.ref cNoText) a)) a = some (EO (.ref cNoText) a) := upd_same
      generalize upd H a (EO (.ref cNoText) a) = H2 at s2 ea ⊢
      walk_at "rr"
      refine ⟨Nat.le_of_ble_eq_true rfl, fun tp htp => ?_⟩
      have s3 := same_new (o := .tup [.ref cNoPicture, .ref cNoProgram, .ref cNoRow, .ref cNoWorth]) htp
      have e3 : (upd H2 tp (.tup [.ref cNoPicture, .ref cNoProgram, .ref cNoRow, .ref cNoWorth])) tp = some (.tup [.ref cNoPicture, .ref cNoProgram, .ref cNoRow, .ref cNoWorth]) := upd_same
      generalize upd H2 tp (.tup [.ref cNoPicture, .ref cNoProgram, .ref cNoRow, .ref cNoWorth]) = H3 at s3 e3 ⊢
      walk_at "rr"
      refine r_isOT (s3 _ _ ea) E_NoText e3 (.cons (.own _) (.cons (.own _) (.cons (.own _) (.cons (.own _) .nil)))) (kitAny_cons t_NoText_NoPicture (fun _ => kitAny_cons t_NoText_NoProgram (fun _ => kitAny_cons t_NoText_NoRow (fun _ => kitAny_cons t_NoText_NoWorth (fun _ => kitAny_nil) (fun z => nomatch z)) (fun z => nomatch z)) (fun z => nomatch z)) (fun z => nomatch z)) ?_
      walk_at "rr"
      refine r_isO (s3 _ _ ea) E_NoText (.own _) t_NoText_PileError ?_
      walk_at "rr"
      refine r_isO (s3 _ _ ea) E_NoText (.ty _) t_NoText_ValueError ?_
      walk_at "rr"
      refine ⟨by show 3 ≤ sizeLine; decide, fun c hc => ?_⟩
      have s4 := same_new (o := .tup [V.bl true, .bl true, .bl false]) hc
      have ec : (upd H3 c (.tup [V.bl true, .bl true, .bl false])) c = some (.tup [V.bl true, .bl true, .bl false]) := upd_same
      generalize upd H3 c (.tup [V.bl true, .bl true, .bl false]) = H4 at s4 ec ⊢
      walk_at "rr"
      refine ⟨by show 2 ≤ sizeLine; decide, fun t ht => ?_⟩
      have s5 := same_new (o := .tup [V.non, .ref c]) ht
      walk_at "rr"
      exact q t c _ (s2.trans (s3.trans (s4.trans s5))) upd_same (s5 _ _ ec)
    · refine ⟨.str z, rfl, .inr ⟨z, rfl, lz, fun hn H5 s5 => ?_, fun rs hr l xs H1 nl s1 el wr => ?_⟩⟩
      · have q := qx hn
        refine ⟨true, e_NoText_NoText, fun _ => ⟨rfl, fun a ha => ?_⟩, fun z => nomatch z⟩
        have s2 : Same H (upd H5 a (EO (.ref cNoText) a)) := s5.trans (same_new ha)
        have ea : (upd H5 a (EO (.ref cNoText) a)) a = some (EO (.ref cNoText) a) := upd_same
        generalize upd H5 a (EO (.ref cNoText) a) = H2 at s2 ea ⊢
        walk_at "rr"
        refine ⟨Nat.le_of_ble_eq_true rfl, fun tp htp => ?_⟩
        have s3 := same_new (o := .tup [.ref cNoPicture, .ref cNoProgram, .ref cNoRow, .ref cNoWorth]) htp
        have e3 : (upd H2 tp (.tup [.ref cNoPicture, .ref cNoProgram, .ref cNoRow, .ref cNoWorth])) tp = some (.tup [.ref cNoPicture, .ref cNoProgram, .ref cNoRow, .ref cNoWorth]) := upd_same
        generalize upd H2 tp (.tup [.ref cNoPicture, .ref cNoProgram, .ref cNoRow, .ref cNoWorth]) = H3 at s3 e3 ⊢
        walk_at "rr"
        refine r_isOT (s3 _ _ ea) E_NoText e3 (.cons (.own _) (.cons (.own _) (.cons (.own _) (.cons (.own _) .nil)))) (kitAny_cons t_NoText_NoPicture (fun _ => kitAny_cons t_NoText_NoProgram (fun _ => kitAny_cons t_NoText_NoRow (fun _ => kitAny_cons t_NoText_NoWorth (fun _ => kitAny_nil) (fun z => nomatch z)) (fun z => nomatch z)) (fun z => nomatch z)) (fun z => nomatch z)) ?_
        walk_at "rr"
        refine r_isO (s3 _ _ ea) E_NoText (.own _) t_NoText_PileError ?_
        walk_at "rr"
        refine r_isO (s3 _ _ ea) E_NoText (.ty _) t_NoText_ValueError ?_
        walk_at "rr"
        refine ⟨by show 3 ≤ sizeLine; decide, fun c hc => ?_⟩
        have s4 := same_new (o := .tup [V.bl true, .bl true, .bl false]) hc
        have ec : (upd H3 c (.tup [V.bl true, .bl true, .bl false])) c = some (.tup [V.bl true, .bl true, .bl false]) := upd_same
        generalize upd H3 c (.tup [V.bl true, .bl true, .bl false]) = H4 at s4 ec ⊢
        walk_at "rr"
        refine ⟨by show 2 ≤ sizeLine; decide, fun t ht => ?_⟩
        have s5 := same_new (o := .tup [V.non, .ref c]) ht
        walk_at "rr"
        exact q t c _ (s2.trans (s3.trans (s4.trans s5))) upd_same (s5 _ _ ec)
      · walk_at "rr"
        refine ⟨by show 2 ≤ sizeLine; decide, fun t ht => ?_⟩
        have s3 := same_new (o := .tup [V.ref l, .non]) ht
        walk_at "rr"
        exact q rs hr t l xs _ (s1.trans s3) upd_same (s3 _ _ el) (Paired.mapP wr fun _ _ => RwAt.same s3)
/-! ### law -/
abbrev s_law : Stmt := top 43
theorem sc_law : FnScope ["script", "rows", "cells", "k", "text", "due", "found", "classes"] ["script"] (defScope s_law) := ⟨rfl, rfl, rfl, by decide +kernel, rfl, by decide +kernel, by decide +kernel⟩
def sp_law (K : PySem.W.Frag) : Sp := fun vs H Q _ => ∃ (a : Addr) (ns : List Int), vs = [.ref a] ∧ SqL K H a (ns.map V.int) ∧ ns.length ≤ 63 ∧ (∀ z ∈ ns, PySem.Builtin.Int.intBits z ≤ 1048576) ∧ ∀ H', Q (.bl true) H'
theorem ok_law {fa : Addr} {fd : FuncData} (F : Fun K "law" "law" s_law fa fd) (TX : Tx mg)
    {cNoText : Addr}
    (C__law_asked : Cal P w K mg base CX0 5 "_law_asked" ["text"] (sp__law_asked K cNoText))
    (C__law_cell_at : Cal P w K mg base CX0 1 "_law_cell_at" ["script", "k"] (sp__law_cell_at K))
    (C__law_program : Cal P w K mg base CX0 5 "_law_program" ["cells", "most"] (sp__law_program K))
    (C__law_read : Cal P w K mg base CX0 2 "_law_read" ["text"] (sp__law_read K))
    (C__law_spoilt : Cal P w K mg base CX0 5 "_law_spoilt" ["rows", "well"] (sp__law_spoilt K))
    (C__law_well : Cal P w K mg base CX0 2 "_law_well" ["cell", "k"] (sp__law_well K)) :
    FnOk P w K mg base CX0 6 fa fd ["script"] (sp_law K) := by
  refine F.ok sc_law (fun vs H Q E h => ?_) (fun cdv A outer s H vs Q E hr h => ?_)
  · obtain ⟨a, ns, rfl, hS, hn, hbits, q⟩ := h
    rfl
  · obtain ⟨a, ns, rfl, hS, hn, hbits, q⟩ := h
    have hu := hu_of hr
    have hu64 := hr.units
    have hu65 := hu65_of hr
    refine ⟨_, (pss_cons (ps_set (i := 1) sc_law.nd rfl (Or.inl rfl) (pe_cal C__law_program (hr.mono (by decide)) (by rfl) pass0 (pa_cons (pe_step2 (pv 0) po_none) (pa_cons pe_int pa_nil))))
  (pss_cons (ps_set (i := 2) sc_law.nd rfl (Or.inl rfl) (pe_step2 (pv 0) (po_some pe_int)))
  (pss_cons (ps_for PassesOwn.never rfl (pi_range1 (by rfl) TX.range (pa_cons (pe_callB (call_max2 rfl) (by rfl) TX.n_max (by decide +kernel) (pa_cons pe_int (pa_cons (pe_callB (call_min2 rfl) (by rfl) TX.n_min (by decide +kernel) (pa_cons (pe_callB call_len (by rfl) TX.n_len (by decide +kernel) (pa_cons (pv 2) pa_nil)) (pa_cons pe_int pa_nil))) pa_nil))) pa_nil)) (pg_name (i := 3) sc_law.nd rfl (Or.inl rfl))
  (pss_cons (ps_set (i := 4) sc_law.nd rfl (Or.inl rfl) (pe_cal C__law_spoilt (hr.mono (by decide)) (by rfl) pass0 (pa_cons (pv 1) (pa_cons (pe_cal C__law_well (hr.mono (by decide)) (by rfl) pass0 (pa_cons (pe_cal C__law_cell_at (hr.mono (by decide)) (by rfl) pass0 (pa_cons (pv 2) (pa_cons (pv 3) pa_nil))) (pa_cons (pe_op op_add (pv 3) pe_int) pa_nil))) pa_nil))))
  (pss_cons (ps_set (i := 5) sc_law.nd rfl (Or.inl rfl) (pe_cal C__law_read (hr.mono (by decide)) (by rfl) pass0 (pa_cons (pv 4) pa_nil)))
  (pss_cons (ps_asg (pe_cal C__law_asked (hr.mono (by decide)) (by rfl) pass0 (pa_cons (pv 4) pa_nil)) (pg_tup rfl (pgs_cons (pg_name (i := 6) sc_law.nd rfl (Or.inl rfl)) (pgs_cons (pg_name (i := 7) sc_law.nd rfl (Or.inl rfl)) pgs_nil))))
  (pss_cons (ps_if (PW.pt (pw_and (pt_cmpR op_isN (pv 5) pe_non (nomark _)) (pw_and1 (PW.pt (pw_or (pt_cmpR op_notN (pv 6) pe_non (nomark _)) (pw_or1 (pt_cmpR (op_neD hu64) (pv 7) (pe_tup (pa_cons pe_bl (pa_cons pe_bl (pa_cons pe_bl pa_nil)))) (nomark _)))))))) (pss_one (ps_ret pe_bl)) pss_nil)
  (pss_one (ps_if (PW.pt (pw_and (pt_cmpR op_notN (pv 5) pe_non (nomark _)) (pw_and1 (PW.pt (pw_or (pt_cmpR op_notN (pv 7) pe_non (nomark _)) (pw_or (pt_not (pt_val (pe_callB call_isi (by rfl) TX.n_isinstance (by decide +kernel) (pa_cons (pv 6) (pa_cons (pe_bltn (v := .ty "list") (by rfl) TX.n_list (by decide +kernel) rfl) pa_nil))))) (pw_or1 (pt_cmpR (op_neD hu64) (pv 6) (pv 5) (nomark _))))))))) (pss_one (ps_ret pe_bl)) pss_nil)))))))
  (pss_one (ps_ret pe_bl))))), ?_⟩
    refine r_begin (show L2.start _ _ = [some _, none, none, none, none, none, none, none] from rfl) ?_
    try dsimp only [cxOf]
    walk_at "rr"
    refine r_step2 ?_
    walk_at "rr"
    refine r_cells hS fun c1 ms1 H1 lm1 n1 s1 e1 => ?_
    walk_at "rr"
    refine ⟨c1, ms1, 30, rfl, .inl (.inl e1), by omega, by decide, by decide, fun l xs rs H2 hl s2 el wr g lr => ?_⟩
    walk_at "rr"
    refine r_step2 ?_
    walk_at "rr"
    refine r_cells ((s1.trans s2).seq hS) fun c2 ms2 H3 lm2 n2 s3 e2 => ?_
    have el3 := s3 _ _ el
    have wr3 := Paired.mapP wr fun _ _ => RowAt.same s3
    walk_at "rr"
    refine r_lenl e2 ?_
    walk_at "rr"
    refine ⟨_, _, rfl, ?_⟩
    walk_at "rr"
    refine ⟨_, _, rfl, ?_⟩
    rw [List.length_map]
    refine r_rngv (by split <;> split <;> omega) (by split <;> split <;> omega) ?_
    generalize hm : Int.toNat _ = m
    have hm' : m ≤ 10 := by
      subst hm
      split <;> split <;> omega
    refine L_range (fun j σ H' => (∃ u3 u4 u5 u6 u7, σ = [some (.ref a), some (.ref l), some (.ref c2), u3, u4, u5, u6, u7]) ∧ H' l = some (.lst xs) ∧ Paired (RowAt H') xs rs ∧ H' c2 = some (.lst (ms2.map V.int))) ⟨⟨_, _, _, _, _, rfl⟩, el3, wr3, e2⟩ ?_ ?_
    · rintro j σ H4 hj ⟨⟨u3, u4, u5, u6, u7, rfl⟩, el4, wr4, e4⟩
      walk_at "rr"
      refine ⟨c2, ms2, _, rfl, .inl (.inl e4), by omega, by omega, fun c => ?_⟩
      walk_at "rr"
      refine ⟨c, _, rfl, by omega, by omega, fun p H5 np s5 W5 => ?_⟩
      have nlp : l ≠ p := fun e => by rw [e, np] at el4; cases el4
      have ncp : c2 ≠ p := fun e => by rw [e, np] at e4; cases e4
      have el5 := s5 _ _ el4
      have e5 := s5 _ _ e4
      have wr5 := Paired.mapP wr4 fun _ _ => RowAt.same s5
      walk_at "rr"
      refine ⟨l, p, xs, rs, _, rfl, el5, nlp, wr5, fun r m => fair_of (g r m), lr, W5, by omega, fun v H6 b6 hv => ?_⟩
      have el6 := b6 _ _ el5 nlp
      have e6 := b6 _ _ e5 ncp
      have wr6 : Paired (RowAt H6) xs rs := Paired.mapP wr5 fun _ _ ⟨t, e, et⟩ => ⟨t, e, b6 _ _ et fun z => by
        obtain ⟨ys, ey⟩ := W5.lst
        rw [z, ey] at et
        cases et⟩
      have fin : ∀ (H' : Hp) (w4 w5 w6 w7 : Option V), Same H6 H' → (∃ u3 u4 u5 u6 u7, [some (V.ref a), some (.ref l), some (.ref c2), some (.int (0 + (j : Int))), w4, w5, w6, w7] = [some (.ref a), some (.ref l), some (.ref c2), u3, u4, u5, u6, u7]) ∧ H' l = some (.lst xs) ∧ Paired (RowAt H') xs rs ∧ H' c2 = some (.lst (ms2.map V.int)) := fun H' w4 w5 w6 w7 st => ⟨⟨_, _, _, _, _, rfl⟩, st _ _ el6, Paired.mapP wr6 fun _ _ => RowAt.same st, st _ _ e6⟩
      rcases hv.symm with nv | ⟨z, rfl, lz, oz⟩
      · walk_at "rr"
        refine ⟨v, rfl, .inl ⟨nv, ?_⟩⟩
        walk_at "rr"
        refine ⟨v, rfl, .inl ⟨nv, fun t cc H8 s8 et ec => ?_⟩⟩
        have st := s8
        walk_at "rr"
        (try refine r_gtup et rfl ?_)
        walk_at "rr"
        refine ⟨rfl, ?_⟩
        rw [none_is]
        walk_at "rr"
        refine ⟨rfl, ?_⟩
        rw [none_is]
        walk_at "rr"
        refine ⟨by show 3 ≤ sizeLine; decide, fun tt htt => ?_⟩
        have s9 := same_new (o := .tup [V.bl true, .bl true, .bl false]) htt
        have dpb : DpAll K (upd H8 tt (.tup [V.bl true, .bl true, .bl false])) [V.bl true, .bl true, .bl false] [.bool true, .bool true, .bool false] := .cons (.bl _) (.cons (.bl _) (.cons (.bl _) .nil))
        refine r_neSelf (d := .tuple [.bool true, .bool true, .bool false]) (n := 2) (.tup (.inl (.inl (s9 _ _ ec))) dpb) (.tup (.inl (.inl upd_same)) dpb) (Ok.tuple (.cons ⟨rfl, by simp [PyData.depth]⟩ (.cons ⟨rfl, by simp [PyData.depth]⟩ (.cons ⟨rfl, by simp [PyData.depth]⟩ .nil)))) (by decide) ?_
        walk_at "rr"
        (try refine r_itF rfl ?_)
        walk_at "rr"
        (try refine ⟨rfl, ?_⟩)
        (try rw [none_is])
        walk_at "rr"
        exact fin _ _ _ _ _ (st.trans s9)
      · cases hd : dueProg z with
        | none =>
          walk_at "rr"
          refine ⟨.str z, rfl, .inr ⟨z, rfl, lz, fun _ H7 s7 => ?_, fun rs' e => (by rw [hd] at e; cases e)⟩⟩
          walk_at "rr"
          refine ⟨.str z, rfl, .inr ⟨z, rfl, lz, fun _ t cc H8 s8 et ec => ?_, fun rs' e => (by rw [hd] at e; cases e)⟩⟩
          have st := s7.trans s8
          walk_at "rr"
          (try refine r_gtup et rfl ?_)
          walk_at "rr"
          refine ⟨rfl, ?_⟩
          rw [none_is]
          walk_at "rr"
          refine ⟨rfl, ?_⟩
          rw [none_is]
          walk_at "rr"
          refine ⟨by show 3 ≤ sizeLine; decide, fun tt htt => ?_⟩
          have s9 := same_new (o := .tup [V.bl true, .bl true, .bl false]) htt
          have dpb : DpAll K (upd H8 tt (.tup [V.bl true, .bl true, .bl false])) [V.bl true, .bl true, .bl false] [.bool true, .bool true, .bool false] := .cons (.bl _) (.cons (.bl _) (.cons (.bl _) .nil))
          refine r_neSelf (d := .tuple [.bool true, .bool true, .bool false]) (n := 2) (.tup (.inl (.inl (s9 _ _ ec))) dpb) (.tup (.inl (.inl upd_same)) dpb) (Ok.tuple (.cons ⟨rfl, by simp [PyData.depth]⟩ (.cons ⟨rfl, by simp [PyData.depth]⟩ (.cons ⟨rfl, by simp [PyData.depth]⟩ .nil)))) (by decide) ?_
          walk_at "rr"
          (try refine r_itF rfl ?_)
          walk_at "rr"
          (try refine ⟨rfl, ?_⟩)
          (try rw [none_is])
          walk_at "rr"
          exact fin _ _ _ _ _ (st.trans s9)
        | some qs =>
          walk_at "rr"
          refine ⟨.str z, rfl, .inr ⟨z, rfl, lz, fun e => (by rw [hd] at e; cases e), fun rs' e ld ys H7 nl7 s7 ed wd => ?_⟩⟩
          rw [hd] at e
          cases e
          walk_at "rr"
          refine ⟨.str z, rfl, .inr ⟨z, rfl, lz, fun e => (by rw [hd] at e; cases e), fun rs' e t lf zs H8 s8 et ef wf => ?_⟩⟩
          rw [hd] at e
          cases e
          have st := s7.trans s8
          have ed8 := s8 _ _ ed
          have wd8 := Paired.mapP wd fun _ _ => RwAt.same s8
          walk_at "rr"
          (try refine r_gtup et rfl ?_)
          walk_at "rr"
          refine ⟨rfl, ?_⟩
          rw [show decide (V.ref ld = V.non) = false by simp]
          walk_at "rr"
          (try refine r_itF rfl ?_)
          walk_at "rr"
          (try refine ⟨rfl, ?_⟩)
          (try rw [show decide (V.ref ld = V.non) = false by simp])
          walk_at "rr"
          (try refine ⟨rfl, ?_⟩)
          (try rw [none_is])
          walk_at "rr"
          refine r_isi (ty_lst ef) (kit_list _ (by decide)) ?_
          walk_at "rr"
          (try refine r_itF rfl ?_)
          walk_at "rr"
          refine r_neSelf (d := .list (qs.map rwd)) (n := 3) (.lst (.inl (.inl ef)) (rws_dp wf)) (.lst (.inl (.inl ed8)) (rws_dp wd8)) (Ok.list (OkAll.map fun r m => rw_ok (due_oks hd oz r m))) (by decide) ?_
          walk_at "rr"
          (try refine r_itF rfl ?_)
          walk_at "rr"
          exact fin _ _ _ _ _ st
    · rintro σ H4 ⟨⟨u3, u4, u5, u6, u7, rfl⟩, el4, wr4, e4⟩
      walk_at "rr"
      exact q _
end
theorem all_mk {l : PySem.W.OpenLaw} {w : World} {K : PySem.W.Frag} {h : Heap} {mg : Str → Option Value} {fa : Addr} {f1 f2 f3 f4 f5 f6 f7 f8 f9 f10 f11 f12 f13 f14 f15 f16 f17 f18 f19 f20 f21 f22 f23 f24 f25 f26 f27 cNoPicture cNoProgram cNoRow cNoText cNoWorth cPileError : Addr} (X : K.In h) (G : h.Ns mainGlobals mg) (hfa : mg "law" = some (.ref fa))
    {od1 an1 od2 an2 od3 an3 od4 an4 od5 an5 od6 an6 od7 an7 od8 an8 od9 an9 od10 an10 od11 an11 od12 an12 od13 an13 od14 an14 od15 an15 od16 an16 od17 an17 od18 an18 od19 an19 od20 an20 od21 an21 od22 an22 od23 an23 od24 an24 od25 an25 od26 an26 od27 an27 : Option Addr} {sl1 sl2 sl3 sl4 sl5 sl6 sl7 sl8 sl9 sl10 sl11 sl12 sl13 sl14 sl15 sl16 sl17 sl18 sl19 sl20 sl21 sl22 sl23 sl24 sl25 sl26 sl27 : Array (Option Value)} {oc1 kV1 dc1 pm1 cd1 ct1 oc2 kV2 dc2 pm2 cd2 ct2 oc3 kV3 dc3 pm3 cd3 ct3 oc4 kV4 dc4 pm4 cd4 ct4 oc5 kV5 dc5 pm5 cd5 ct5 oc6 kV6 dc6 pm6 cd6 ct6 oc7 kV7 dc7 pm7 cd7 ct7 oc8 kV8 dc8 pm8 cd8 ct8 oc9 kV9 dc9 pm9 cd9 ct9 oc10 kV10 dc10 pm10 cd10 ct10 oc11 kV11 dc11 pm11 cd11 ct11 oc12 kV12 dc12 pm12 cd12 ct12 oc13 kV13 dc13 pm13 cd13 ct13 oc14 kV14 dc14 pm14 cd14 ct14 oc15 kV15 dc15 pm15 cd15 ct15 oc16 kV16 dc16 pm16 cd16 ct16 oc17 kV17 dc17 pm17 cd17 ct17 oc18 kV18 dc18 pm18 cd18 ct18 oc19 kV19 dc19 pm19 cd19 ct19 oc20 kV20 dc20 pm20 cd20 ct20 oc21 kV21 dc21 pm21 cd21 ct21 oc22 kV22 dc22 pm22 cd22 ct22 oc23 kV23 dc23 pm23 cd23 ct23 oc24 kV24 dc24 pm24 cd24 ct24 oc25 kV25 dc25 pm25 cd25 ct25 oc26 kV26 dc26 pm26 cd26 ct26 oc27 kV27 dc27 pm27 cd27 ct27 : Value}
    (a1 : PySem.W.nsIn K mainGlobals "is_whole" = some (some (.ref f1))) (l1 : K.lookup f1 = some ⟨oc1, od1, .func (PySem.W.fnOf "is_whole" "is_whole" (defArgs s_is_whole) (defBody s_is_whole) (defScope s_is_whole) .none kV1 dc1 pm1 an1 cd1 ct1), sl1⟩) (c1 : PySem.W.codeIn K cd1 "is_whole" = true) (k1 : PySem.W.keepIn K (.ref f1) = true)
    (a2 : PySem.W.nsIn K mainGlobals "read_figures" = some (some (.ref f2))) (l2 : K.lookup f2 = some ⟨oc2, od2, .func (PySem.W.fnOf "read_figures" "read_figures" (defArgs s_read_figures) (defBody s_read_figures) (defScope s_read_figures) .none kV2 dc2 pm2 an2 cd2 ct2), sl2⟩) (c2 : PySem.W.codeIn K cd2 "read_figures" = true) (k2 : PySem.W.keepIn K (.ref f2) = true)
    (a3 : PySem.W.nsIn K mainGlobals "read_worth" = some (some (.ref f3))) (l3 : K.lookup f3 = some ⟨oc3, od3, .func (PySem.W.fnOf "read_worth" "read_worth" (defArgs s_read_worth) (defBody s_read_worth) (defScope s_read_worth) .none kV3 dc3 pm3 an3 cd3 ct3), sl3⟩) (c3 : PySem.W.codeIn K cd3 "read_worth" = true) (k3 : PySem.W.keepIn K (.ref f3) = true)
    (a4 : PySem.W.nsIn K mainGlobals "is_row" = some (some (.ref f4))) (l4 : K.lookup f4 = some ⟨oc4, od4, .func (PySem.W.fnOf "is_row" "is_row" (defArgs s_is_row) (defBody s_is_row) (defScope s_is_row) .none kV4 dc4 pm4 an4 cd4 ct4), sl4⟩) (c4 : PySem.W.codeIn K cd4 "is_row" = true) (k4 : PySem.W.keepIn K (.ref f4) = true)
    (a5 : PySem.W.nsIn K mainGlobals "is_program" = some (some (.ref f5))) (l5 : K.lookup f5 = some ⟨oc5, od5, .func (PySem.W.fnOf "is_program" "is_program" (defArgs s_is_program) (defBody s_is_program) (defScope s_is_program) .none kV5 dc5 pm5 an5 cd5 ct5), sl5⟩) (c5 : PySem.W.codeIn K cd5 "is_program" = true) (k5 : PySem.W.keepIn K (.ref f5) = true)
    (a6 : PySem.W.nsIn K mainGlobals "read_number" = some (some (.ref f6))) (l6 : K.lookup f6 = some ⟨oc6, od6, .func (PySem.W.fnOf "read_number" "read_number" (defArgs s_read_number) (defBody s_read_number) (defScope s_read_number) .none kV6 dc6 pm6 an6 cd6 ct6), sl6⟩) (c6 : PySem.W.codeIn K cd6 "read_number" = true) (k6 : PySem.W.keepIn K (.ref f6) = true)
    (a7 : PySem.W.nsIn K mainGlobals "read_program" = some (some (.ref f7))) (l7 : K.lookup f7 = some ⟨oc7, od7, .func (PySem.W.fnOf "read_program" "read_program" (defArgs s_read_program) (defBody s_read_program) (defScope s_read_program) .none kV7 dc7 pm7 an7 cd7 ct7), sl7⟩) (c7 : PySem.W.codeIn K cd7 "read_program" = true) (k7 : PySem.W.keepIn K (.ref f7) = true)
    (a8 : PySem.W.nsIn K mainGlobals "_law_cell_at" = some (some (.ref f8))) (l8 : K.lookup f8 = some ⟨oc8, od8, .func (PySem.W.fnOf "_law_cell_at" "_law_cell_at" (defArgs s__law_cell_at) (defBody s__law_cell_at) (defScope s__law_cell_at) .none kV8 dc8 pm8 an8 cd8 ct8), sl8⟩) (c8 : PySem.W.codeIn K cd8 "_law_cell_at" = true) (k8 : PySem.W.keepIn K (.ref f8) = true)
    (a9 : PySem.W.nsIn K mainGlobals "_law_stir" = some (some (.ref f9))) (l9 : K.lookup f9 = some ⟨oc9, od9, .func (PySem.W.fnOf "_law_stir" "_law_stir" (defArgs s__law_stir) (defBody s__law_stir) (defScope s__law_stir) .none kV9 dc9 pm9 an9 cd9 ct9), sl9⟩) (c9 : PySem.W.codeIn K cd9 "_law_stir" = true) (k9 : PySem.W.keepIn K (.ref f9) = true)
    (a10 : PySem.W.nsIn K mainGlobals "_law_well" = some (some (.ref f10))) (l10 : K.lookup f10 = some ⟨oc10, od10, .func (PySem.W.fnOf "_law_well" "_law_well" (defArgs s__law_well) (defBody s__law_well) (defScope s__law_well) .none kV10 dc10 pm10 an10 cd10 ct10), sl10⟩) (c10 : PySem.W.codeIn K cd10 "_law_well" = true) (k10 : PySem.W.keepIn K (.ref f10) = true)
    (a11 : PySem.W.nsIn K mainGlobals "_law_draw" = some (some (.ref f11))) (l11 : K.lookup f11 = some ⟨oc11, od11, .func (PySem.W.fnOf "_law_draw" "_law_draw" (defArgs s__law_draw) (defBody s__law_draw) (defScope s__law_draw) .none kV11 dc11 pm11 an11 cd11 ct11), sl11⟩) (c11 : PySem.W.codeIn K cd11 "_law_draw" = true) (k11 : PySem.W.keepIn K (.ref f11) = true)
    (a12 : PySem.W.nsIn K mainGlobals "_law_wide" = some (some (.ref f12))) (l12 : K.lookup f12 = some ⟨oc12, od12, .func (PySem.W.fnOf "_law_wide" "_law_wide" (defArgs s__law_wide) (defBody s__law_wide) (defScope s__law_wide) .none kV12 dc12 pm12 an12 cd12 ct12), sl12⟩) (c12 : PySem.W.codeIn K cd12 "_law_wide" = true) (k12 : PySem.W.keepIn K (.ref f12) = true)
    (a13 : PySem.W.nsIn K mainGlobals "_law_row" = some (some (.ref f13))) (l13 : K.lookup f13 = some ⟨oc13, od13, .func (PySem.W.fnOf "_law_row" "_law_row" (defArgs s__law_row) (defBody s__law_row) (defScope s__law_row) .none kV13 dc13 pm13 an13 cd13 ct13), sl13⟩) (c13 : PySem.W.codeIn K cd13 "_law_row" = true) (k13 : PySem.W.keepIn K (.ref f13) = true)
    (a14 : PySem.W.nsIn K mainGlobals "_law_program" = some (some (.ref f14))) (l14 : K.lookup f14 = some ⟨oc14, od14, .func (PySem.W.fnOf "_law_program" "_law_program" (defArgs s__law_program) (defBody s__law_program) (defScope s__law_program) .none kV14 dc14 pm14 an14 cd14 ct14), sl14⟩) (c14 : PySem.W.codeIn K cd14 "_law_program" = true) (k14 : PySem.W.keepIn K (.ref f14) = true)
    (a15 : PySem.W.nsIn K mainGlobals "_law_shown" = some (some (.ref f15))) (l15 : K.lookup f15 = some ⟨oc15, od15, .func (PySem.W.fnOf "_law_shown" "_law_shown" (defArgs s__law_shown) (defBody s__law_shown) (defScope s__law_shown) .none kV15 dc15 pm15 an15 cd15 ct15), sl15⟩) (c15 : PySem.W.codeIn K cd15 "_law_shown" = true) (k15 : PySem.W.keepIn K (.ref f15) = true)
    (a16 : PySem.W.nsIn K mainGlobals "_law_number" = some (some (.ref f16))) (l16 : K.lookup f16 = some ⟨oc16, od16, .func (PySem.W.fnOf "_law_number" "_law_number" (defArgs s__law_number) (defBody s__law_number) (defScope s__law_number) .none kV16 dc16 pm16 an16 cd16 ct16), sl16⟩) (c16 : PySem.W.codeIn K cd16 "_law_number" = true) (k16 : PySem.W.keepIn K (.ref f16) = true)
    (a17 : PySem.W.nsIn K mainGlobals "_law_sign" = some (some (.ref f17))) (l17 : K.lookup f17 = some ⟨oc17, od17, .func (PySem.W.fnOf "_law_sign" "_law_sign" (defArgs s__law_sign) (defBody s__law_sign) (defScope s__law_sign) .none kV17 dc17 pm17 an17 cd17 ct17), sl17⟩) (c17 : PySem.W.codeIn K cd17 "_law_sign" = true) (k17 : PySem.W.keepIn K (.ref f17) = true)
    (a18 : PySem.W.nsIn K mainGlobals "_law_odd" = some (some (.ref f18))) (l18 : K.lookup f18 = some ⟨oc18, od18, .func (PySem.W.fnOf "_law_odd" "_law_odd" (defArgs s__law_odd) (defBody s__law_odd) (defScope s__law_odd) .none kV18 dc18 pm18 an18 cd18 ct18), sl18⟩) (c18 : PySem.W.codeIn K cd18 "_law_odd" = true) (k18 : PySem.W.keepIn K (.ref f18) = true)
    (a19 : PySem.W.nsIn K mainGlobals "_law_signs_changed" = some (some (.ref f19))) (l19 : K.lookup f19 = some ⟨oc19, od19, .func (PySem.W.fnOf "_law_signs_changed" "_law_signs_changed" (defArgs s__law_signs_changed) (defBody s__law_signs_changed) (defScope s__law_signs_changed) .none kV19 dc19 pm19 an19 cd19 ct19), sl19⟩) (c19 : PySem.W.codeIn K cd19 "_law_signs_changed" = true) (k19 : PySem.W.keepIn K (.ref f19) = true)
    (a20 : PySem.W.nsIn K mainGlobals "_law_parts_changed" = some (some (.ref f20))) (l20 : K.lookup f20 = some ⟨oc20, od20, .func (PySem.W.fnOf "_law_parts_changed" "_law_parts_changed" (defArgs s__law_parts_changed) (defBody s__law_parts_changed) (defScope s__law_parts_changed) .none kV20 dc20 pm20 an20 cd20 ct20), sl20⟩) (c20 : PySem.W.codeIn K cd20 "_law_parts_changed" = true) (k20 : PySem.W.keepIn K (.ref f20) = true)
    (a21 : PySem.W.nsIn K mainGlobals "_law_words_changed" = some (some (.ref f21))) (l21 : K.lookup f21 = some ⟨oc21, od21, .func (PySem.W.fnOf "_law_words_changed" "_law_words_changed" (defArgs s__law_words_changed) (defBody s__law_words_changed) (defScope s__law_words_changed) .none kV21 dc21 pm21 an21 cd21 ct21), sl21⟩) (c21 : PySem.W.codeIn K cd21 "_law_words_changed" = true) (k21 : PySem.W.keepIn K (.ref f21) = true)
    (a22 : PySem.W.nsIn K mainGlobals "_law_row_changed" = some (some (.ref f22))) (l22 : K.lookup f22 = some ⟨oc22, od22, .func (PySem.W.fnOf "_law_row_changed" "_law_row_changed" (defArgs s__law_row_changed) (defBody s__law_row_changed) (defScope s__law_row_changed) .none kV22 dc22 pm22 an22 cd22 ct22), sl22⟩) (c22 : PySem.W.codeIn K cd22 "_law_row_changed" = true) (k22 : PySem.W.keepIn K (.ref f22) = true)
    (a23 : PySem.W.nsIn K mainGlobals "_law_spoilt" = some (some (.ref f23))) (l23 : K.lookup f23 = some ⟨oc23, od23, .func (PySem.W.fnOf "_law_spoilt" "_law_spoilt" (defArgs s__law_spoilt) (defBody s__law_spoilt) (defScope s__law_spoilt) .none kV23 dc23 pm23 an23 cd23 ct23), sl23⟩) (c23 : PySem.W.codeIn K cd23 "_law_spoilt" = true) (k23 : PySem.W.keepIn K (.ref f23) = true)
    (a24 : PySem.W.nsIn K mainGlobals "_law_right_row" = some (some (.ref f24))) (l24 : K.lookup f24 = some ⟨oc24, od24, .func (PySem.W.fnOf "_law_right_row" "_law_right_row" (defArgs s__law_right_row) (defBody s__law_right_row) (defScope s__law_right_row) .none kV24 dc24 pm24 an24 cd24 ct24), sl24⟩) (c24 : PySem.W.codeIn K cd24 "_law_right_row" = true) (k24 : PySem.W.keepIn K (.ref f24) = true)
    (a25 : PySem.W.nsIn K mainGlobals "_law_read" = some (some (.ref f25))) (l25 : K.lookup f25 = some ⟨oc25, od25, .func (PySem.W.fnOf "_law_read" "_law_read" (defArgs s__law_read) (defBody s__law_read) (defScope s__law_read) .none kV25 dc25 pm25 an25 cd25 ct25), sl25⟩) (c25 : PySem.W.codeIn K cd25 "_law_read" = true) (k25 : PySem.W.keepIn K (.ref f25) = true)
    (a26 : PySem.W.nsIn K mainGlobals "_law_asked" = some (some (.ref f26))) (l26 : K.lookup f26 = some ⟨oc26, od26, .func (PySem.W.fnOf "_law_asked" "_law_asked" (defArgs s__law_asked) (defBody s__law_asked) (defScope s__law_asked) .none kV26 dc26 pm26 an26 cd26 ct26), sl26⟩) (c26 : PySem.W.codeIn K cd26 "_law_asked" = true) (k26 : PySem.W.keepIn K (.ref f26) = true)
    (a27 : PySem.W.nsIn K mainGlobals "law" = some (some (.ref f27))) (l27 : K.lookup f27 = some ⟨oc27, od27, .func (PySem.W.fnOf "law" "law" (defArgs s_law) (defBody s_law) (defScope s_law) .none kV27 dc27 pm27 an27 cd27 ct27), sl27⟩) (c27 : PySem.W.codeIn K cd27 "law" = true) (k27 : PySem.W.keepIn K (.ref f27) = true)
    (z0 : PySem.W.nsIn K mainGlobals "len" = some none) (z1 : PySem.W.nsIn K mainGlobals "isinstance" = some none) (z2 : PySem.W.nsIn K mainGlobals "range" = some none) (z3 : PySem.W.nsIn K mainGlobals "max" = some none) (z4 : PySem.W.nsIn K mainGlobals "min" = some none) (z5 : PySem.W.nsIn K mainGlobals "int" = some none) (z6 : PySem.W.nsIn K mainGlobals "bool" = some none) (z7 : PySem.W.nsIn K mainGlobals "str" = some none) (z8 : PySem.W.nsIn K mainGlobals "list" = some none) (z9 : PySem.W.nsIn K mainGlobals "tuple" = some none) (z10 : PySem.W.nsIn K mainGlobals "dict" = some none) (z11 : PySem.W.nsIn K mainGlobals "sorted" = some none) (z12 : PySem.W.nsIn K mainGlobals "sum" = some none) (z13 : PySem.W.nsIn K mainGlobals "all" = some none) (z14 : PySem.W.nsIn K mainGlobals "any" = some none) (z15 : PySem.W.nsIn K mainGlobals "enumerate" = some none) (z16 : PySem.W.nsIn K mainGlobals "zip" = some none) (z17 : PySem.W.nsIn K mainGlobals "reversed" = some none) (z18 : PySem.W.nsIn K mainGlobals "ValueError" = some none)
    {dD : Addr} {esD : Array DictEntry} {nD : Nat} {tFi tMo : Tok}
    (aD : PySem.W.nsIn K mainGlobals "MARKED" = some (some (.ref dD))) (lD : K.lookup dD = some ⟨.type "dict", none, .dict esD nD, #[]⟩) (kD : PySem.W.KeysLit w.params esD.toList) (sD : (dD == sysModules) = false) (pD : pairsS esD.toList = marked.map (fun p => (some p.1, some p.2)))
    (aFi : PySem.W.nsIn K mainGlobals "FIGURES" = some (some (.str "0123456789" tFi))) (aMo : PySem.W.nsIn K mainGlobals "MOST" = some (some (.int 60 tMo)))
    {aRe aLe2 aBa : Addr} {dRe dLe2 dBa : Option Addr} {iRe iLe2 iBa : Array Value} {nRe nLe2 nBa : Nat} {sRe sLe2 sBa : Array (Option Value)}
    (gRe : PySem.W.nsIn K mainGlobals "REACHING" = some (some (.ref aRe))) (lRe : K.lookup aRe = some ⟨.type "tuple", dRe, .seq iRe nRe, sRe⟩) (vRe : strsS iRe.toList = reaching.map some)
    (gLe2 : PySem.W.nsIn K mainGlobals "LEADING" = some (some (.ref aLe2))) (lLe2 : K.lookup aLe2 = some ⟨.type "tuple", dLe2, .seq iLe2 nLe2, sLe2⟩) (vLe2 : strsS iLe2.toList = leading.map some)
    (gBa : PySem.W.nsIn K mainGlobals "BARE" = some (some (.ref aBa))) (lBa : K.lookup aBa = some ⟨.type "tuple", dBa, .seq iBa nBa, sBa⟩) (vBa : strsS iBa.toList = bare.map some)
    (gx_NoPicture : PySem.W.nsIn K mainGlobals "NoPicture" = some (some (.ref cNoPicture))) (xx_NoPicture : PySem.W.excIn K cNoPicture [.type "ValueError", .type "Exception", .type "BaseException", .type "object"] "ValueError.__new__" = true) (kx_NoPicture : PySem.W.keepIn K (.ref cNoPicture) = true) (bx_NoPicture : PySem.W.subIn K (.ref cNoPicture) (.type "BaseException") = some true) (tx_NoPicture : PySem.W.typeIn K (.ref cNoPicture) = some (.type "type"))
    (gx_NoProgram : PySem.W.nsIn K mainGlobals "NoProgram" = some (some (.ref cNoProgram))) (xx_NoProgram : PySem.W.excIn K cNoProgram [.type "ValueError", .type "Exception", .type "BaseException", .type "object"] "ValueError.__new__" = true) (kx_NoProgram : PySem.W.keepIn K (.ref cNoProgram) = true) (bx_NoProgram : PySem.W.subIn K (.ref cNoProgram) (.type "BaseException") = some true) (tx_NoProgram : PySem.W.typeIn K (.ref cNoProgram) = some (.type "type"))
    (gx_NoRow : PySem.W.nsIn K mainGlobals "NoRow" = some (some (.ref cNoRow))) (xx_NoRow : PySem.W.excIn K cNoRow [.type "ValueError", .type "Exception", .type "BaseException", .type "object"] "ValueError.__new__" = true) (kx_NoRow : PySem.W.keepIn K (.ref cNoRow) = true) (bx_NoRow : PySem.W.subIn K (.ref cNoRow) (.type "BaseException") = some true) (tx_NoRow : PySem.W.typeIn K (.ref cNoRow) = some (.type "type"))
    (gx_NoText : PySem.W.nsIn K mainGlobals "NoText" = some (some (.ref cNoText))) (xx_NoText : PySem.W.excIn K cNoText [.type "ValueError", .type "Exception", .type "BaseException", .type "object"] "ValueError.__new__" = true) (kx_NoText : PySem.W.keepIn K (.ref cNoText) = true) (bx_NoText : PySem.W.subIn K (.ref cNoText) (.type "BaseException") = some true) (tx_NoText : PySem.W.typeIn K (.ref cNoText) = some (.type "type"))
    (gx_NoWorth : PySem.W.nsIn K mainGlobals "NoWorth" = some (some (.ref cNoWorth))) (xx_NoWorth : PySem.W.excIn K cNoWorth [.type "ValueError", .type "Exception", .type "BaseException", .type "object"] "ValueError.__new__" = true) (kx_NoWorth : PySem.W.keepIn K (.ref cNoWorth) = true) (bx_NoWorth : PySem.W.subIn K (.ref cNoWorth) (.type "BaseException") = some true) (tx_NoWorth : PySem.W.typeIn K (.ref cNoWorth) = some (.type "type"))
    (gx_PileError : PySem.W.nsIn K mainGlobals "PileError" = some (some (.ref cPileError))) (xx_PileError : PySem.W.excIn K cPileError [.type "ValueError", .type "Exception", .type "BaseException", .type "object"] "ValueError.__new__" = true) (kx_PileError : PySem.W.keepIn K (.ref cPileError) = true) (bx_PileError : PySem.W.subIn K (.ref cPileError) (.type "BaseException") = some true) (tx_PileError : PySem.W.typeIn K (.ref cPileError) = some (.type "type"))
    (cb_NoText : PySem.W.subIn K (.ref cNoText) (.type "BaseException") = some true)
    (ch_NoText : PySem.W.hasDictIn K cNoText = true)
    (ct_NoText : PySem.W.typeIn K (.ref cNoText) = some (.type "type"))
    (cs_NoText_NoText : PySem.W.subIn K (.ref cNoText) (.ref cNoText) = some true)
    (cs_NoText_ValueError : PySem.W.subIn K (.ref cNoText) (.type "ValueError") = some true)
    (cb_NoPicture : PySem.W.subIn K (.ref cNoPicture) (.type "BaseException") = some true)
    (ch_NoPicture : PySem.W.hasDictIn K cNoPicture = true)
    (ct_NoPicture : PySem.W.typeIn K (.ref cNoPicture) = some (.type "type"))
    (cs_NoText_NoPicture : PySem.W.subIn K (.ref cNoText) (.ref cNoPicture) = some false)
    (cb_NoProgram : PySem.W.subIn K (.ref cNoProgram) (.type "BaseException") = some true)
    (ch_NoProgram : PySem.W.hasDictIn K cNoProgram = true)
    (ct_NoProgram : PySem.W.typeIn K (.ref cNoProgram) = some (.type "type"))
    (cs_NoText_NoProgram : PySem.W.subIn K (.ref cNoText) (.ref cNoProgram) = some false)
    (cb_NoRow : PySem.W.subIn K (.ref cNoRow) (.type "BaseException") = some true)
    (ch_NoRow : PySem.W.hasDictIn K cNoRow = true)
    (ct_NoRow : PySem.W.typeIn K (.ref cNoRow) = some (.type "type"))
    (cs_NoText_NoRow : PySem.W.subIn K (.ref cNoText) (.ref cNoRow) = some false)
    (cb_NoWorth : PySem.W.subIn K (.ref cNoWorth) (.type "BaseException") = some true)
    (ch_NoWorth : PySem.W.hasDictIn K cNoWorth = true)
    (ct_NoWorth : PySem.W.typeIn K (.ref cNoWorth) = some (.type "type"))
    (cs_NoText_NoWorth : PySem.W.subIn K (.ref cNoText) (.ref cNoWorth) = some false)
    (cb_PileError : PySem.W.subIn K (.ref cPileError) (.type "BaseException") = some true)
    (ch_PileError : PySem.W.hasDictIn K cPileError = true)
    (ct_PileError : PySem.W.typeIn K (.ref cPileError) = some (.type "type"))
    (cs_NoText_PileError : PySem.W.subIn K (.ref cNoText) (.ref cPileError) = some true)
    (E1_NoText : PySem.W.findIn K (.ref cNoText) "__getattribute__" = some (some (.builtin "BaseException.__getattribute__"))) (E2_NoText : PySem.W.findIn K (.ref cNoText) "__getattr__" = some none) (E3_NoText : PySem.W.subIn K (.ref cNoText) (.type "BaseException") = some true) (E4_NoText : PySem.W.hasDictIn K cNoText = true) (E5_NoText : PySem.W.findIn K (.ref cNoText) "__class__" = some (some (.builtin "object.__class__"))) (E6_NoText : PySem.W.specialIn K (.builtin "object.__class__") "__get__" = some (some (.builtin "getset_descriptor.__get__"))) (E7_NoText : PySem.W.takesIn K (.builtin "object.__class__") = some true) (E8_NoText : PySem.W.mroIn K cNoText (.type "object") = some true)
    : ∃ fd : FuncData, (∀ (s : Shared) (v : Value), BindsTo s fd ⟨[v], []⟩ [("script", v)]) ∧ ∀ base : Heap, K.In base → base.Ns mainGlobals mg → FnOk l.prog w K mg base CX0 6 fa fd ["script"] (sp_law K) := by
  have e := hfa.symm.trans (PySem.W.mg_of X G a27)
  cases e
  have F1 := fun_mk (st := s_is_whole) l1 c1 k1
  have b1 := F1.binds (ps := ["thing"]) fun _ _ _ _ _ _ us hl => match us, hl with | [_], _ => rfl
  have F2 := fun_mk (st := s_read_figures) l2 c2 k2
  have b2 := F2.binds (ps := ["text"]) fun _ _ _ _ _ _ us hl => match us, hl with | [_], _ => rfl
  have F3 := fun_mk (st := s_read_worth) l3 c3 k3
  have b3 := F3.binds (ps := ["text"]) fun _ _ _ _ _ _ us hl => match us, hl with | [_], _ => rfl
  have F4 := fun_mk (st := s_is_row) l4 c4 k4
  have b4 := F4.binds (ps := ["thing", "many"]) fun _ _ _ _ _ _ us hl => match us, hl with | [_, _], _ => rfl
  have F5 := fun_mk (st := s_is_program) l5 c5 k5
  have b5 := F5.binds (ps := ["thing"]) fun _ _ _ _ _ _ us hl => match us, hl with | [_], _ => rfl
  have F6 := fun_mk (st := s_read_number) l6 c6 k6
  have b6 := F6.binds (ps := ["text"]) fun _ _ _ _ _ _ us hl => match us, hl with | [_], _ => rfl
  have F7 := fun_mk (st := s_read_program) l7 c7 k7
  have b7 := F7.binds (ps := ["text"]) fun _ _ _ _ _ _ us hl => match us, hl with | [_], _ => rfl
  have F8 := fun_mk (st := s__law_cell_at) l8 c8 k8
  have b8 := F8.binds (ps := ["script", "k"]) fun _ _ _ _ _ _ us hl => match us, hl with | [_, _], _ => rfl
  have F9 := fun_mk (st := s__law_stir) l9 c9 k9
  have b9 := F9.binds (ps := ["seed", "turn"]) fun _ _ _ _ _ _ us hl => match us, hl with | [_, _], _ => rfl
  have F10 := fun_mk (st := s__law_well) l10 c10 k10
  have b10 := F10.binds (ps := ["cell", "k"]) fun _ _ _ _ _ _ us hl => match us, hl with | [_, _], _ => rfl
  have F11 := fun_mk (st := s__law_draw) l11 c11 k11
  have b11 := F11.binds (ps := ["well", "many"]) fun _ _ _ _ _ _ us hl => match us, hl with | [_, _], _ => rfl
  have F12 := fun_mk (st := s__law_wide) l12 c12 k12
  have b12 := F12.binds (ps := ["well"]) fun _ _ _ _ _ _ us hl => match us, hl with | [_], _ => rfl
  have F13 := fun_mk (st := s__law_row) l13 c13 k13
  have b13 := F13.binds (ps := ["well", "many"]) fun _ _ _ _ _ _ us hl => match us, hl with | [_, _], _ => rfl
  have F14 := fun_mk (st := s__law_program) l14 c14 k14
  have b14 := F14.binds (ps := ["cells", "most"]) fun _ _ _ _ _ _ us hl => match us, hl with | [_, _], _ => rfl
  have F15 := fun_mk (st := s__law_shown) l15 c15 k15
  have b15 := F15.binds (ps := ["rows"]) fun _ _ _ _ _ _ us hl => match us, hl with | [_], _ => rfl
  have F16 := fun_mk (st := s__law_number) l16 c16 k16
  have b16 := F16.binds (ps := ["word"]) fun _ _ _ _ _ _ us hl => match us, hl with | [_], _ => rfl
  have F17 := fun_mk (st := s__law_sign) l17 c17 k17
  have b17 := F17.binds (ps := ["well"]) fun _ _ _ _ _ _ us hl => match us, hl with | [_], _ => rfl
  have F18 := fun_mk (st := s__law_odd) l18 c18 k18
  have b18 := F18.binds (ps := ["well"]) fun _ _ _ _ _ _ us hl => match us, hl with | [_], _ => rfl
  have F19 := fun_mk (st := s__law_signs_changed) l19 c19 k19
  have b19 := F19.binds (ps := ["text", "well", "what"]) fun _ _ _ _ _ _ us hl => match us, hl with | [_, _, _], _ => rfl
  have F20 := fun_mk (st := s__law_parts_changed) l20 c20 k20
  have b20 := F20.binds (ps := ["text", "well", "what"]) fun _ _ _ _ _ _ us hl => match us, hl with | [_, _, _], _ => rfl
  have F21 := fun_mk (st := s__law_words_changed) l21 c21 k21
  have b21 := F21.binds (ps := ["text", "well"]) fun _ _ _ _ _ _ us hl => match us, hl with | [_, _], _ => rfl
  have F22 := fun_mk (st := s__law_row_changed) l22 c22 k22
  have b22 := F22.binds (ps := ["rows", "well"]) fun _ _ _ _ _ _ us hl => match us, hl with | [_, _], _ => rfl
  have F23 := fun_mk (st := s__law_spoilt) l23 c23 k23
  have b23 := F23.binds (ps := ["rows", "well"]) fun _ _ _ _ _ _ us hl => match us, hl with | [_, _], _ => rfl
  have F24 := fun_mk (st := s__law_right_row) l24 c24 k24
  have b24 := F24.binds (ps := ["row", "many"]) fun _ _ _ _ _ _ us hl => match us, hl with | [_, _], _ => rfl
  have F25 := fun_mk (st := s__law_read) l25 c25 k25
  have b25 := F25.binds (ps := ["text"]) fun _ _ _ _ _ _ us hl => match us, hl with | [_], _ => rfl
  have F26 := fun_mk (st := s__law_asked) l26 c26 k26
  have b26 := F26.binds (ps := ["text"]) fun _ _ _ _ _ _ us hl => match us, hl with | [_], _ => rfl
  have F27 := fun_mk (st := s_law) l27 c27 k27
  have TX : Tx mg := ⟨PySem.W.mg_none_of X G z0, PySem.W.mg_none_of X G z1, PySem.W.mg_none_of X G z2, PySem.W.mg_none_of X G z3, PySem.W.mg_none_of X G z4, PySem.W.mg_none_of X G z5, PySem.W.mg_none_of X G z6, PySem.W.mg_none_of X G z7, PySem.W.mg_none_of X G z8, PySem.W.mg_none_of X G z9, PySem.W.mg_none_of X G z10, PySem.W.mg_none_of X G z11, PySem.W.mg_none_of X G z12, PySem.W.mg_none_of X G z13, PySem.W.mg_none_of X G z14, PySem.W.mg_none_of X G z15, PySem.W.mg_none_of X G z16, PySem.W.mg_none_of X G z17, PySem.W.mg_none_of X G z18⟩
  have d_MARKED : KDict K w dD esD nD := ⟨lD, kD, sD⟩
  have g_MARKED : mg "MARKED" = some (.ref dD) := PySem.W.mg_of X G aD
  have m_MARKED := nsIn_pairs lD pD
  have g_FIGURES : mg "FIGURES" = some (.str "0123456789" tFi) := PySem.W.mg_of X G aFi
  have g_MOST : mg "MOST" = some (.int 60 tMo) := PySem.W.mg_of X G aMo
  have g_REACHING : mg "REACHING" = some (.ref aRe) := PySem.W.mg_of X G gRe
  have g_LEADING : mg "LEADING" = some (.ref aLe2) := PySem.W.mg_of X G gLe2
  have g_BARE : mg "BARE" = some (.ref aBa) := PySem.W.mg_of X G gBa
  have t_REACHING : TopT K aRe reaching := TopT.of lRe vRe (by decide)
  have t_LEADING : TopT K aLe2 leading := TopT.of lLe2 vLe2 (by decide)
  have t_BARE : TopT K aBa bare := TopT.of lBa vBa (by decide)
  have X_NoPicture : XOk K mg "NoPicture" cNoPicture := ⟨PySem.W.mg_of X G gx_NoPicture, xx_NoPicture, kx_NoPicture, bx_NoPicture, tx_NoPicture⟩
  have X_NoProgram : XOk K mg "NoProgram" cNoProgram := ⟨PySem.W.mg_of X G gx_NoProgram, xx_NoProgram, kx_NoProgram, bx_NoProgram, tx_NoProgram⟩
  have X_NoRow : XOk K mg "NoRow" cNoRow := ⟨PySem.W.mg_of X G gx_NoRow, xx_NoRow, kx_NoRow, bx_NoRow, tx_NoRow⟩
  have X_NoText : XOk K mg "NoText" cNoText := ⟨PySem.W.mg_of X G gx_NoText, xx_NoText, kx_NoText, bx_NoText, tx_NoText⟩
  have X_NoWorth : XOk K mg "NoWorth" cNoWorth := ⟨PySem.W.mg_of X G gx_NoWorth, xx_NoWorth, kx_NoWorth, bx_NoWorth, tx_NoWorth⟩
  have X_PileError : XOk K mg "PileError" cPileError := ⟨PySem.W.mg_of X G gx_PileError, xx_PileError, kx_PileError, bx_PileError, tx_PileError⟩
  have e_NoText_NoText : PySem.W.exmOne K (.ref cNoText) (.ref cNoText) = some true := PySem.W.exm_ref cb_NoText ch_NoText ct_NoText cs_NoText_NoText
  have t_NoText_ValueError : PySem.W.kitOne K (.ref cNoText) (.type "ValueError") = some true := kit_bt (by decide +kernel) cs_NoText_ValueError
  have t_NoText_NoPicture : PySem.W.kitOne K (.ref cNoText) (.ref cNoPicture) = some false := kit_own ch_NoPicture ct_NoPicture cs_NoText_NoPicture cs_NoText_NoText
  have t_NoText_NoProgram : PySem.W.kitOne K (.ref cNoText) (.ref cNoProgram) = some false := kit_own ch_NoProgram ct_NoProgram cs_NoText_NoProgram cs_NoText_NoText
  have t_NoText_NoRow : PySem.W.kitOne K (.ref cNoText) (.ref cNoRow) = some false := kit_own ch_NoRow ct_NoRow cs_NoText_NoRow cs_NoText_NoText
  have t_NoText_NoWorth : PySem.W.kitOne K (.ref cNoText) (.ref cNoWorth) = some false := kit_own ch_NoWorth ct_NoWorth cs_NoText_NoWorth cs_NoText_NoText
  have t_NoText_PileError : PySem.W.kitOne K (.ref cNoText) (.ref cPileError) = some true := kit_own ch_PileError ct_PileError cs_NoText_PileError cs_NoText_NoText
  have E_NoText : ExcC K cNoText := ⟨E1_NoText, E2_NoText, E3_NoText, E4_NoText, E5_NoText, E6_NoText, E7_NoText, E8_NoText⟩
  refine ⟨PySem.W.fnOf "law" "law" (defArgs s_law) (defBody s_law) (defScope s_law) .none kV27 dc27 pm27 an27 cd27 ct27, fun s v => .of_eq rfl, fun base _ _ => ?_⟩
  have C_is_whole := Cal.of (ok_is_whole (P := l.prog) (w := w) (K := K) (mg := mg) (base := base) F1 TX) b1 k1 (PySem.W.mg_of X G a1)
  have C_read_figures := Cal.of (ok_read_figures (P := l.prog) (w := w) (K := K) (mg := mg) (base := base) F2 TX X_NoText g_FIGURES g_MOST) b2 k2 (PySem.W.mg_of X G a2)
  have C_read_worth := Cal.of (ok_read_worth (P := l.prog) (w := w) (K := K) (mg := mg) (base := base) F3 TX X_NoText C_read_figures d_MARKED g_MARKED m_MARKED) b3 k3 (PySem.W.mg_of X G a3)
  have C_is_row := Cal.of (ok_is_row (P := l.prog) (w := w) (K := K) (mg := mg) (base := base) F4 TX C_is_whole g_REACHING g_LEADING g_BARE t_REACHING t_LEADING t_BARE) b4 k4 (PySem.W.mg_of X G a4)
  have C_is_program := Cal.of (ok_is_program (P := l.prog) (w := w) (K := K) (mg := mg) (base := base) F5 TX C_is_row) b5 k5 (PySem.W.mg_of X G a5)
  have C_read_number := Cal.of (ok_read_number (P := l.prog) (w := w) (K := K) (mg := mg) (base := base) F6 TX X_NoText C_read_worth) b6 k6 (PySem.W.mg_of X G a6)
  have C_read_program := Cal.of (ok_read_program (P := l.prog) (w := w) (K := K) (mg := mg) (base := base) F7 TX X_NoText C_is_program C_read_number) b7 k7 (PySem.W.mg_of X G a7)
  have C__law_cell_at := Cal.of (ok__law_cell_at (P := l.prog) (w := w) (K := K) (mg := mg) (base := base) F8 TX) b8 k8 (PySem.W.mg_of X G a8)
  have C__law_stir := Cal.of (ok__law_stir (P := l.prog) (w := w) (K := K) (mg := mg) (base := base) F9 TX) b9 k9 (PySem.W.mg_of X G a9)
  have C__law_well := Cal.of (ok__law_well (P := l.prog) (w := w) (K := K) (mg := mg) (base := base) F10 TX C__law_stir) b10 k10 (PySem.W.mg_of X G a10)
  have C__law_draw := Cal.of (ok__law_draw (P := l.prog) (w := w) (K := K) (mg := mg) (base := base) F11 TX C__law_stir) b11 k11 (PySem.W.mg_of X G a11)
  have C__law_wide := Cal.of (ok__law_wide (P := l.prog) (w := w) (K := K) (mg := mg) (base := base) F12 TX C__law_draw) b12 k12 (PySem.W.mg_of X G a12)
  have C__law_row := Cal.of (ok__law_row (P := l.prog) (w := w) (K := K) (mg := mg) (base := base) F13 TX C__law_draw C__law_wide) b13 k13 (PySem.W.mg_of X G a13)
  have C__law_program := Cal.of (ok__law_program (P := l.prog) (w := w) (K := K) (mg := mg) (base := base) F14 TX C__law_cell_at C__law_draw C__law_row C__law_well) b14 k14 (PySem.W.mg_of X G a14)
  have C__law_shown := Cal.of (ok__law_shown (P := l.prog) (w := w) (K := K) (mg := mg) (base := base) F15 TX) b15 k15 (PySem.W.mg_of X G a15)
  have C__law_number := Cal.of (ok__law_number (P := l.prog) (w := w) (K := K) (mg := mg) (base := base) F16 TX) b16 k16 (PySem.W.mg_of X G a16)
  have C__law_sign := Cal.of (ok__law_sign (P := l.prog) (w := w) (K := K) (mg := mg) (base := base) F17 TX C__law_draw) b17 k17 (PySem.W.mg_of X G a17)
  have C__law_odd := Cal.of (ok__law_odd (P := l.prog) (w := w) (K := K) (mg := mg) (base := base) F18 TX C__law_draw) b18 k18 (PySem.W.mg_of X G a18)
  have C__law_signs_changed := Cal.of (ok__law_signs_changed (P := l.prog) (w := w) (K := K) (mg := mg) (base := base) F19 TX C__law_draw C__law_sign) b19 k19 (PySem.W.mg_of X G a19)
  have C__law_parts_changed := Cal.of (ok__law_parts_changed (P := l.prog) (w := w) (K := K) (mg := mg) (base := base) F20 TX C__law_draw) b20 k20 (PySem.W.mg_of X G a20)
  have C__law_words_changed := Cal.of (ok__law_words_changed (P := l.prog) (w := w) (K := K) (mg := mg) (base := base) F21 TX C__law_draw C__law_odd) b21 k21 (PySem.W.mg_of X G a21)
  have C__law_row_changed := Cal.of (ok__law_row_changed (P := l.prog) (w := w) (K := K) (mg := mg) (base := base) F22 TX C__law_draw) b22 k22 (PySem.W.mg_of X G a22)
  have C__law_spoilt := Cal.of (ok__law_spoilt (P := l.prog) (w := w) (K := K) (mg := mg) (base := base) F23 TX C__law_draw C__law_parts_changed C__law_row_changed C__law_shown C__law_signs_changed C__law_words_changed) b23 k23 (PySem.W.mg_of X G a23)
  have C__law_right_row := Cal.of (ok__law_right_row (P := l.prog) (w := w) (K := K) (mg := mg) (base := base) F24 TX) b24 k24 (PySem.W.mg_of X G a24)
  have C__law_read := Cal.of (ok__law_read (P := l.prog) (w := w) (K := K) (mg := mg) (base := base) F25 TX C__law_number C__law_right_row) b25 k25 (PySem.W.mg_of X G a25)
  have C__law_asked := Cal.of (ok__law_asked (P := l.prog) (w := w) (K := K) (mg := mg) (base := base) F26 TX X_NoPicture X_NoProgram X_NoRow X_NoText X_NoWorth X_PileError e_NoText_NoText t_NoText_PileError t_NoText_ValueError t_NoText_NoPicture t_NoText_NoProgram t_NoText_NoRow t_NoText_NoWorth E_NoText C_read_program) b26 k26 (PySem.W.mg_of X G a26)
  exact ok_law F27 TX C__law_asked C__law_cell_at C__law_program C__law_read C__law_spoilt C__law_well
end Q
open PySem PySem.W PyProof.Rows
set_option maxHeartbeats 0 in
theorem PySem.Challenge.cw_manygoings_k57_texts_of_no_program_holds : PySem.Challenge.rw_manygoings_k57_texts_of_no_program.Holds := by
  w_on; o_law; k_head; (case hw => w_witness2)
  k_fill
  refine L2.walk_ofB (l := PySem.Challenge.rw_manygoings_k57_texts_of_no_program) (n := 63) (k := 6) (x := "script") (CX := fun _ => L2.CX0) (sp := fun w => Q.sp_law _) rfl (by decide) rfl ⟨rfl, by decide, by decide⟩ (fun w h Y => PySem.W.kIn_of Y) ?F (fun _ _ a ns hl hb _ hS => ⟨a, ns, rfl, hS, hl, hb, fun _ => rfl⟩) (fun _ _ _ _ _ h => h)
  case F =>
    intro w mg fa h KX G hmg
    refine' Q.all_mk KX G hmg ?a1 ?l1 ?c1 ?k1 ?a2 ?l2 ?c2 ?k2 ?a3 ?l3 ?c3 ?k3 ?a4 ?l4 ?c4 ?k4 ?a5 ?l5 ?c5 ?k5 ?a6 ?l6 ?c6 ?k6 ?a7 ?l7 ?c7 ?k7 ?a8 ?l8 ?c8 ?k8 ?a9 ?l9 ?c9 ?k9 ?a10 ?l10 ?c10 ?k10 ?a11 ?l11 ?c11 ?k11 ?a12 ?l12 ?c12 ?k12 ?a13 ?l13 ?c13 ?k13 ?a14 ?l14 ?c14 ?k14 ?a15 ?l15 ?c15 ?k15 ?a16 ?l16 ?c16 ?k16 ?a17 ?l17 ?c17 ?k17 ?a18 ?l18 ?c18 ?k18 ?a19 ?l19 ?c19 ?k19 ?a20 ?l20 ?c20 ?k20 ?a21 ?l21 ?c21 ?k21 ?a22 ?l22 ?c22 ?k22 ?a23 ?l23 ?c23 ?k23 ?a24 ?l24 ?c24 ?k24 ?a25 ?l25 ?c25 ?k25 ?a26 ?l26 ?c26 ?k26 ?a27 ?l27 ?c27 ?k27 ?z0 ?z1 ?z2 ?z3 ?z4 ?z5 ?z6 ?z7 ?z8 ?z9 ?z10 ?z11 ?z12 ?z13 ?z14 ?z15 ?z16 ?z17 ?z18 ?aD ?lD ?kD ?sD ?pD ?aFi ?aMo ?gRe ?lRe ?vRe ?gLe2 ?lLe2 ?vLe2 ?gBa ?lBa ?vBa ?gx_NoPicture ?xx_NoPicture ?kx_NoPicture ?bx_NoPicture ?tx_NoPicture ?gx_NoProgram ?xx_NoProgram ?kx_NoProgram ?bx_NoProgram ?tx_NoProgram ?gx_NoRow ?xx_NoRow ?kx_NoRow ?bx_NoRow ?tx_NoRow ?gx_NoText ?xx_NoText ?kx_NoText ?bx_NoText ?tx_NoText ?gx_NoWorth ?xx_NoWorth ?kx_NoWorth ?bx_NoWorth ?tx_NoWorth ?gx_PileError ?xx_PileError ?kx_PileError ?bx_PileError ?tx_PileError ?cb_NoText ?ch_NoText ?ct_NoText ?cs_NoText_NoText ?cs_NoText_ValueError ?cb_NoPicture ?ch_NoPicture ?ct_NoPicture ?cs_NoText_NoPicture ?cb_NoProgram ?ch_NoProgram ?ct_NoProgram ?cs_NoText_NoProgram ?cb_NoRow ?ch_NoRow ?ct_NoRow ?cs_NoText_NoRow ?cb_NoWorth ?ch_NoWorth ?ct_NoWorth ?cs_NoText_NoWorth ?cb_PileError ?ch_PileError ?ct_PileError ?cs_NoText_PileError ?E1_NoText ?E2_NoText ?E3_NoText ?E4_NoText ?E5_NoText ?E6_NoText ?E7_NoText ?E8_NoText
    (case gx_NoPicture => k_is)
    (case gx_NoProgram => k_is)
    (case gx_NoRow => k_is)
    (case gx_NoText => k_is)
    (case gx_NoWorth => k_is)
    (case gx_PileError => k_is)
    (case a1 => k_is)
    (case l1 => k_is)
    (case c1 => k_is)
    (case k1 => k_is)
    (case a2 => k_is)
    (case l2 => k_is)
    (case c2 => k_is)
    (case k2 => k_is)
    (case a3 => k_is)
    (case l3 => k_is)
    (case c3 => k_is)
    (case k3 => k_is)
    (case a4 => k_is)
    (case l4 => k_is)
    (case c4 => k_is)
    (case k4 => k_is)
    (case a5 => k_is)
    (case l5 => k_is)
    (case c5 => k_is)
    (case k5 => k_is)
    (case a6 => k_is)
    (case l6 => k_is)
    (case c6 => k_is)
    (case k6 => k_is)
    (case a7 => k_is)
    (case l7 => k_is)
    (case c7 => k_is)
    (case k7 => k_is)
    (case a8 => k_is)
    (case l8 => k_is)
    (case c8 => k_is)
    (case k8 => k_is)
    (case a9 => k_is)
    (case l9 => k_is)
    (case c9 => k_is)
    (case k9 => k_is)
    (case a10 => k_is)
    (case l10 => k_is)
    (case c10 => k_is)
    (case k10 => k_is)
    (case a11 => k_is)
    (case l11 => k_is)
    (case c11 => k_is)
    (case k11 => k_is)
    (case a12 => k_is)
    (case l12 => k_is)
    (case c12 => k_is)
    (case k12 => k_is)
    (case a13 => k_is)
    (case l13 => k_is)
    (case c13 => k_is)
    (case k13 => k_is)
    (case a14 => k_is)
    (case l14 => k_is)
    (case c14 => k_is)
    (case k14 => k_is)
    (case a15 => k_is)
    (case l15 => k_is)
    (case c15 => k_is)
    (case k15 => k_is)
    (case a16 => k_is)
    (case l16 => k_is)
    (case c16 => k_is)
    (case k16 => k_is)
    (case a17 => k_is)
    (case l17 => k_is)
    (case c17 => k_is)
    (case k17 => k_is)
    (case a18 => k_is)
    (case l18 => k_is)
    (case c18 => k_is)
    (case k18 => k_is)
    (case a19 => k_is)
    (case l19 => k_is)
    (case c19 => k_is)
    (case k19 => k_is)
    (case a20 => k_is)
    (case l20 => k_is)
    (case c20 => k_is)
    (case k20 => k_is)
    (case a21 => k_is)
    (case l21 => k_is)
    (case c21 => k_is)
    (case k21 => k_is)
    (case a22 => k_is)
    (case l22 => k_is)
    (case c22 => k_is)
    (case k22 => k_is)
    (case a23 => k_is)
    (case l23 => k_is)
    (case c23 => k_is)
    (case k23 => k_is)
    (case a24 => k_is)
    (case l24 => k_is)
    (case c24 => k_is)
    (case k24 => k_is)
    (case a25 => k_is)
    (case l25 => k_is)
    (case c25 => k_is)
    (case k25 => k_is)
    (case a26 => k_is)
    (case l26 => k_is)
    (case c26 => k_is)
    (case k26 => k_is)
    (case a27 => k_is)
    (case l27 => k_is)
    (case c27 => k_is)
    (case k27 => k_is)
    (case z0 => k_is)
    (case z1 => k_is)
    (case z2 => k_is)
    (case z3 => k_is)
    (case z4 => k_is)
    (case z5 => k_is)
    (case z6 => k_is)
    (case z7 => k_is)
    (case z8 => k_is)
    (case z9 => k_is)
    (case z10 => k_is)
    (case z11 => k_is)
    (case z12 => k_is)
    (case z13 => k_is)
    (case z14 => k_is)
    (case z15 => k_is)
    (case z16 => k_is)
    (case z17 => k_is)
    (case z18 => k_is)
    (case aD => k_is)
    (case lD => k_is)
    (case kD => k_keys)
    (case sD => decide +kernel)
    (case aFi => k_is)
    (case aMo => k_is)
    (case gRe => k_is)
    (case lRe => k_is)
    (case gLe2 => k_is)
    (case lLe2 => k_is)
    (case gBa => k_is)
    (case lBa => k_is)
    (case xx_NoPicture => k_exc)
    (case kx_NoPicture => k_is)
    (case bx_NoPicture => k_is)
    (case tx_NoPicture => k_is)
    (case xx_NoProgram => k_exc)
    (case kx_NoProgram => k_is)
    (case bx_NoProgram => k_is)
    (case tx_NoProgram => k_is)
    (case xx_NoRow => k_exc)
    (case kx_NoRow => k_is)
    (case bx_NoRow => k_is)
    (case tx_NoRow => k_is)
    (case xx_NoText => k_exc)
    (case kx_NoText => k_is)
    (case bx_NoText => k_is)
    (case tx_NoText => k_is)
    (case xx_NoWorth => k_exc)
    (case kx_NoWorth => k_is)
    (case bx_NoWorth => k_is)
    (case tx_NoWorth => k_is)
    (case xx_PileError => k_exc)
    (case kx_PileError => k_is)
    (case bx_PileError => k_is)
    (case tx_PileError => k_is)
    (case cb_NoText => k_is)
    (case ch_NoText => k_is)
    (case ct_NoText => k_is)
    (case cs_NoText_NoText => k_is)
    (case cs_NoText_ValueError => k_is)
    (case cb_NoPicture => k_is)
    (case ch_NoPicture => k_is)
    (case ct_NoPicture => k_is)
    (case cs_NoText_NoPicture => k_is)
    (case cb_NoProgram => k_is)
    (case ch_NoProgram => k_is)
    (case ct_NoProgram => k_is)
    (case cs_NoText_NoProgram => k_is)
    (case cb_NoRow => k_is)
    (case ch_NoRow => k_is)
    (case ct_NoRow => k_is)
    (case cs_NoText_NoRow => k_is)
    (case cb_NoWorth => k_is)
    (case ch_NoWorth => k_is)
    (case ct_NoWorth => k_is)
    (case cs_NoText_NoWorth => k_is)
    (case cb_PileError => k_is)
    (case ch_PileError => k_is)
    (case ct_PileError => k_is)
    (case cs_NoText_PileError => k_is)
    (case E1_NoText => k_is)
    (case E2_NoText => k_is)
    (case E3_NoText => k_is)
    (case E4_NoText => k_is)
    (case E5_NoText => k_is)
    (case E6_NoText => k_is)
    (case E7_NoText => k_is)
    (case E8_NoText => k_is)
    (case pD => rfl)
    (case vRe => rfl)
    (case vLe2 => rfl)
    (case vBa => rfl)
