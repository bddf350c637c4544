import PyProof.Rows.All
import Wide.All
import OpenK.AllK
import Wide.FinOn
import HandS.ForMost
import HandS.Wide
import HandS.IsInst
import HandS.EndBits
import HandS.Deep
import HandS.More
import HandS.Conv
import HandS.TupLen
import HandS.Style
import HandS.Walk
import HandS.SortKw
import PySem.Challenge.RW_manygoings_k07_right_papers
set_option Elab.async false
set_option linter.all false
set_option maxRecDepth 100000
set_option maxHeartbeats 4000000
namespace G
open PySem L2
/-! ### one's own defs, called by name -/
section
variable (P : Program) (w : World) (K : PySem.W.Frag) (mg : Str → Option Value) (base : Heap)
/-- the def that the module's name x holds keeps the promise sp -/
structure Cal (CX : CXT) (k : Nat) (x : Str) (ps : List Str) (sp : Sp) : Prop where
  ex : ∃ (f : Addr) (fd : FuncData), FnOk P w K mg base CX k f fd ps sp ∧ Binds K fd ps [] ∧ PySem.W.keepIn K (.ref f) = true ∧ mg x = some (.ref f)
end
section
variable {X : Cx} {e : Expr} {es : List Expr} {pos p : Pos} {t : TA} {CX : CXT} {k j : Nat} {x : Str} {ps : List Str} {sp : Sp} {E : XK}
def tCal (sp : Sp) (E : XK) (t : TA) : TE := fun σ H Q => t σ H fun vs H1 => sp vs H1 Q E
theorem pe_cal (C : Cal X.prog X.w X.K X.mg X.base CX j x ps sp) (hr : Room j X.A) (hg : Gl X x) (hx : Passes CX X E) (ha : PA X (e :: es) t)
    (hdb : (x == ("__debug__" : Str)) = false := by decide) (he : starEach (e :: es) X.env = (false, eval e X.env) :: starEach es X.env := by rfl) (hpl : (backTo pos (starEach es X.env)).any (·.1) = false := by rfl) :
    PE X (.Call (.Name x p) (e :: es) [] pos) (tCal sp E t) := by
  obtain ⟨f, fd, F, b, kp, hm⟩ := C.ex
  have q := pe_call (p := p) (pos := pos) F hr hg hm kp b .nil hx ha hdb he hpl
  have z : tCall sp [] E t = tCal sp E t := by
    funext σ H Q
    unfold tCall tCal
    simp only [List.append_nil]
  rw [z] at q
  exact q
theorem pe_cal0 (C : Cal X.prog X.w X.K X.mg X.base CX j x ps sp) (hr : Room j X.A) (hg : Gl X x) (hx : Passes CX X E)
    (hdb : (x == ("__debug__" : Str)) = false := by decide) : PE X (.Call (.Name x p) [] [] pos) (tCal sp E tNil) := by
  obtain ⟨f, fd, F, b, kp, hm⟩ := C.ex
  have q := pe_call0 (p := p) (pos := pos) F hr hg hm kp b .nil hx hdb
  have z : tCall sp [] E tNil = tCal sp E tNil := by
    funext σ H Q
    unfold tCall tCal
    simp only [List.append_nil]
  rw [z] at q
  exact q
theorem Cal.of {P : Program} {w : World} {K : PySem.W.Frag} {mg : Str → Option Value} {base : Heap} {f : Addr} {fd : FuncData} (F : FnOk P w K mg base CX j f fd ps sp) (b : Binds K fd ps []) (kp : PySem.W.keepIn K (.ref f) = true) (hm : mg x = some (.ref f)) :
    Cal P w K mg base CX j x ps sp := ⟨f, fd, F, b, kp, hm⟩
end
/-! ### a rule's reading told with another K that is the same -/
section
variable {X : Cx} {e : Expr} {tg : Expr}
theorem kPE {t : TE} (t' : TE) (h : PE X e t) (q : t = t') : PE X e t' := q ▸ h
theorem kPI {t : TI} (t' : TI) (h : PI X tg e t) (q : t = t') : PI X tg e t' := q ▸ h
theorem kPG {t : TG} (t' : TG) (h : PG X e t) (q : t = t') : PG X e t' := q ▸ h
theorem kPT {t : TT} (t' : TT) (h : PT X e t) (q : t = t') : PT X e t' := q ▸ h
theorem kIxR {r : V → V → Hp → VK → Prop} (r' : V → V → Hp → VK → Prop) (h : IxR X r) (q : r = r') : IxR X r' := q ▸ h
theorem kSlR {r : V → Option Int → Option Int → Hp → VK → Prop} (r' : V → Option Int → Option Int → Hp → VK → Prop) (h : SlR X r) (q : r = r') : SlR X r' := q ▸ h
theorem kOpR {o : Value → Value → Sem Value} {r : R2} (r' : R2) (h : OpR X o r) (q : r = r') : OpR X o r' := q ▸ h
theorem kCallR {f : Value} {r : List V → Hp → VK → Prop} (r' : List V → Hp → VK → Prop) (h : CallR X f r) (q : r = r') : CallR X f r' := q ▸ h
end
abbrev rLenK (K : PySem.W.Frag) : List V → Hp → VK → Prop := fun xs H Q => ∃ x n, xs = [x] ∧ LenV K x H n ∧ Q (.int ↑n) H
abbrev rListOf (K : PySem.W.Frag) : List V → Hp → VK → Prop := fun xs H Q => ∃ p ys, xs = [V.ref p] ∧ (SqL K H p ys ∨ SqT K H p ys) ∧ ∀ (l : Addr), H l = none → Q (V.ref l) (upd H l (HO.lst ys))
abbrev rTupOf (K : PySem.W.Frag) : List V → Hp → VK → Prop := fun xs H Q => ∃ p ys, xs = [V.ref p] ∧ ((SqL K H p ys ∧ ∀ (l : Addr), H l = none → Q (V.ref l) (upd H l (HO.tup ys))) ∨ SqT K H p ys ∧ Q (V.ref p) H)
abbrev tTru (K : PySem.W.Frag) (ta : TE) : TT := fun σ H Q => ta σ H fun x H' => ∃ k, TruV K x H' k ∧ Q k H'
/-- the built-in names that no module's name hides -/
structure Tx (mg : Str → Option Value) : Prop where
  n_len : mg "len" = none
  n_isinstance : mg "isinstance" = none
  range : mg "range" = none
  n_max : mg "max" = none
  n_min : mg "min" = none
  n_int : mg "int" = none
  n_bool : mg "bool" = none
  n_str : mg "str" = none
  n_list : mg "list" = none
  n_tuple : mg "tuple" = none
  n_dict : mg "dict" = none
  n_sorted : mg "sorted" = none
  n_sum : mg "sum" = none
  n_all : mg "all" = none
  n_any : mg "any" = none
  enumerate : mg "enumerate" = none
  zip : mg "zip" = none
  reversed : mg "reversed" = none

/-! ### readings, one step at a time -/
section
variable {σ : L2.St} {H : Hp} {Q : VK} {nx : L2.St → Hp → Prop} {rt : VK} {bk ct : L2.St → Hp → Prop} {t u : TS} {te ta tb tv : TE} {tt tc : TT} {tl : TA} {g : TG} {v x y : V} {i : Nat} {K : PySem.W.Frag}
theorem r_seq (h : t ⟨u ⟨nx, rt, bk, ct⟩, rt, bk, ct⟩ σ H) : tSeq t u ⟨nx, rt, bk, ct⟩ σ H := h
theorem r_asg (h : te σ H fun x H1 => g x σ H1 nx) : tAsg te g ⟨nx, rt, bk, ct⟩ σ H := h
theorem r_name {Q : L2.St → Hp → Prop} {σ' : L2.St} (e : σ.set i (some v) = σ') (h : Q σ' H) : gName i v σ H Q := by
  subst e
  exact h
theorem r_begin {D : Ends} {σ' : L2.St} (e : σ = σ') (h : t D σ' H) : t D σ H := by
  subst e
  exact h
theorem r_ret (h : te σ H rt) : tRet te ⟨nx, rt, bk, ct⟩ σ H := h
theorem r_retN (h : rt .non H) : tRetN ⟨nx, rt, bk, ct⟩ σ H := h
theorem r_next (h : nx σ H) : tNext ⟨nx, rt, bk, ct⟩ σ H := h
theorem r_brk (h : bk σ H) : tBreak ⟨nx, rt, bk, ct⟩ σ H := h
theorem r_cont (h : ct σ H) : tCont ⟨nx, rt, bk, ct⟩ σ H := h
theorem r_drop (h : te σ H fun _ H1 => nx σ H1) : tDrop te ⟨nx, rt, bk, ct⟩ σ H := h
theorem r_if (h : tc σ H fun b H1 => if b = true then t ⟨nx, rt, bk, ct⟩ σ H1 else u ⟨nx, rt, bk, ct⟩ σ H1) : tIfS tc t u ⟨nx, rt, bk, ct⟩ σ H := h
theorem r_var (e : σ[i]? = some (some v)) (h : Q v H) : tVar i σ H Q := ⟨v, e, h⟩
theorem r_c (h : Q v H) : tC v σ H Q := h
theorem r_op {r : R2} (h : ta σ H fun x H1 => tb σ H1 fun y H2 => r x y H2 Q) : tOp r ta tb σ H Q := h
theorem r_un {r : V → Hp → VK → Prop} (h : ta σ H fun x H1 => r x H1 Q) : tUn r ta σ H Q := h
theorem r_i0 {f : Int → Int → V} {a b : Int} (h : Q (f a b) H) : rI0 f (.int a) (.int b) H Q := ⟨a, b, rfl, rfl, h⟩
theorem r_i {C : Int → Int → Prop} {f : Int → Int → V} {a b : Int} (c : C a b) (h : Q (f a b) H) : rI C f (.int a) (.int b) H Q := ⟨a, b, rfl, rfl, c, h⟩
theorem r_u {f : Int → V} {a : Int} (h : Q (f a) H) : rU f (.int a) H Q := ⟨a, rfl, h⟩
theorem r_eq (s : scal x y = true) (h : Q (.bl (decide (x = y))) H) : rEq x y H Q := ⟨s, h⟩
theorem r_ne (s : scal x y = true) (h : Q (.bl (!decide (x = y))) H) : rNe x y H Q := ⟨s, h⟩
theorem r_test {Q : Bool → Hp → Prop} (h : te σ H fun x H' => ∃ k, x = .bl k ∧ Q k H') : tTest te σ H Q := h
theorem r_tB {Q : Bool → Hp → Prop} (h : te σ H fun x H' => ∃ k, x = .bl k ∧ Q k H') : tB te σ H Q := h
theorem r_bl {Q : Bool → Prop} {b : Bool} (h : Q b) : ∃ k, V.bl b = .bl k ∧ Q k := ⟨b, rfl, h⟩
theorem r_and {Q : Bool → Hp → Prop} (h : tt σ H fun c H1 => if c = true then tc σ H1 Q else Q false H1) : tAnd tt tc σ H Q := h
theorem r_or {Q : Bool → Hp → Prop} (h : tt σ H fun c H1 => if c = true then Q true H1 else tc σ H1 Q) : tOr tt tc σ H Q := h
theorem r_not {Q : Bool → Hp → Prop} (h : tt σ H fun c H1 => Q (!c) H1) : tNot tt σ H Q := h
theorem r_andV (h : ta σ H fun x H1 => ∃ c, x = .bl c ∧ if c = true then tb σ H1 Q else Q (.bl false) H1) : tAndV ta tb σ H Q := h
theorem r_orV (h : ta σ H fun x H1 => ∃ c, x = .bl c ∧ if c = true then Q (.bl true) H1 else tb σ H1 Q) : tOrV ta tb σ H Q := h
theorem r_notV (h : ta σ H fun x H1 => ∃ c, x = .bl c ∧ Q (.bl (!c)) H1) : tNotV ta σ H Q := h
theorem r_ifE (h : tt σ H fun c H1 => if c = true then ta σ H1 Q else tb σ H1 Q) : tIf tt ta tb σ H Q := h
theorem r_cb {r : List V → Hp → VK → Prop} (h : tl σ H fun vs H1 => r vs H1 Q) : tCB r tl σ H Q := h
theorem r_cbk {r : List V → List V → Hp → VK → Prop} {tk : TA} (h : tl σ H fun vs H1 => tk σ H1 fun zs H2 => r vs zs H2 Q) : tCKw r tl tk σ H Q := h
theorem r_cal {sp : Sp} {E : XK} (h : tl σ H fun vs H1 => sp vs H1 Q E) : tCal sp E tl σ H Q := h
theorem r_nil {Q : List V → Hp → Prop} (h : Q [] H) : tNil σ H Q := h
theorem r_cons {Q : List V → Hp → Prop} (h : te σ H fun x H1 => tl σ H1 fun xs H2 => Q (x :: xs) H2) : tCons te tl σ H Q := h
theorem r_tup (h : tl σ H fun xs H1 => xs.length ≤ sizeLine ∧ ∀ p, H1 p = none → Q (.ref p) (upd H1 p (.tup xs))) : tTup tl σ H Q := h
theorem r_lst (h : tl σ H fun xs H1 => xs.length ≤ sizeLine ∧ ∀ p, H1 p = none → Q (.ref p) (upd H1 p (.lst xs))) : tLst tl σ H Q := h
theorem r_ixL {p : Addr} {xs : List V} {i : Int} (hs : SqL K H p xs) (e : atI xs i = some v) (h : Q v H) : rIxL K (.ref p) (.int i) H Q := ⟨p, xs, i, v, rfl, rfl, hs, e, h⟩
theorem r_ixT {p : Addr} {xs : List V} {i : Int} (hs : SqT K H p xs) (e : atI xs i = some v) (h : Q v H) : rIxT K (.ref p) (.int i) H Q := ⟨p, xs, i, v, rfl, rfl, hs, e, h⟩
theorem r_ixl {p : Addr} {xs : List V} {i : Int} (hs : H p = some (.lst xs)) (e : atI xs i = some v) (h : Q v H) : rIxL K (.ref p) (.int i) H Q := ⟨p, xs, i, v, rfl, rfl, .inl (.inl hs), e, h⟩
theorem r_ixt {p : Addr} {xs : List V} {i : Int} (hs : H p = some (.tup xs)) (e : atI xs i = some v) (h : Q v H) : rIxT K (.ref p) (.int i) H Q := ⟨p, xs, i, v, rfl, rfl, .inl (.inl hs), e, h⟩
theorem r_ixS {z : Str} {i : Int} {c : Nat} (hz : z.length ≤ sizeLine) (e : atI z.cps.toList i = some c) (h : Q (.str ⟨#[c]⟩) H) : rIxS (.str z) (.int i) H Q := ⟨z, i, c, rfl, rfl, hz, e, h⟩
theorem r_ix {r : V → V → Hp → VK → Prop} (h : r x y H Q) : (fun x y H Q => r x y H Q) x y H Q := h
theorem r_sub {o j : TE} {ts : TSet} {Q : L2.St → Hp → Prop} (h : o σ H fun a H1 => j σ H1 fun b H2 => ts a b v H2 fun H3 => Q σ H3) : gSub o j ts v σ H Q := h
theorem r_setL {p : Addr} {xs ys : List V} {k : Int} {j : Nat} {Q : Hp → Prop} (hs : H p = some (.lst xs)) (e : ixN xs.length k = some j) (e2 : xs.set j v = ys) (h : Q (upd H p (.lst ys))) : rSetL (.ref p) (.int k) v H Q := by
  subst e2
  exact ⟨p, xs, k, j, rfl, rfl, hs, e, h⟩
theorem r_gtup {p : Addr} {xs : List V} {n : Nat} {ts : TGs} {Q : L2.St → Hp → Prop} (hs : H p = some (.tup xs)) (hn : xs.length = n) (h : ts xs σ H Q) : gTup K n ts (.ref p) σ H Q := ⟨p, xs, rfl, .inl (.inl hs), hn, h⟩
theorem r_gcons {ts : TGs} {vs : List V} {Q : L2.St → Hp → Prop} (h : g v σ H fun σ' H' => ts vs σ' H' Q) : gCons g ts (v :: vs) σ H Q := ⟨v, vs, rfl, h⟩
theorem r_gnil {Q : L2.St → Hp → Prop} (h : Q σ H) : gNil [] σ H Q := ⟨rfl, h⟩
theorem r_bm {T : String} {r : V → List V → Hp → VK → Prop} (h : ta σ H fun x H1 => tyV K T x H1 ∧ tl σ H1 fun xs H2 => r x xs H2 Q) : tBM K T r ta tl σ H Q := h
theorem r_bm0 {T : String} {r : V → List V → Hp → VK → Prop} (h : ta σ H fun x H1 => tyV K T x H1 ∧ r x [] H1 Q) : tBM0 K T r ta σ H Q := h
theorem r_tyL {p : Addr} {xs : List V} {R : Prop} (hs : H p = some (.lst xs)) (h : R) : tyV K "list" (.ref p) H ∧ R := ⟨.inl ⟨rfl, _, .inl (.inl hs)⟩, h⟩
theorem r_app {p : Addr} {xs : List V} (hs : H p = some (.lst xs)) (hz : xs.length < sizeLine) (h : Q .non (upd H p (.lst (xs ++ [v])))) : rAppend (.ref p) [v] H Q := ⟨p, xs, v, rfl, rfl, hs, hz, h⟩
theorem r_rev {p : Addr} {xs : List V} (hs : H p = some (.lst xs)) (h : Q .non (upd H p (.lst xs.reverse))) : rReverse (.ref p) [] H Q := ⟨p, xs, rfl, rfl, hs, h⟩
theorem r_cat {p q : Addr} {xs ys : List V} (h1 : H p = some (.lst xs)) (h2 : H q = some (.lst ys)) (hz : xs.length + ys.length ≤ sizeLine) (h : ∀ c, H c = none → Q (.ref c) (upd H c (.lst (xs ++ ys)))) : rCat (.ref p) (.ref q) H Q := ⟨p, q, xs, ys, rfl, rfl, h1, h2, hz, h⟩
theorem r_revL (h : te σ H fun x H1 => ∃ a xs, x = .ref a ∧ SqL K H1 a xs ∧ ∀ p, H1 p = none → Q (.ref p) (upd H1 p (.lst xs.reverse))) : tRevL K te σ H Q := h
theorem r_ext {p q : Addr} {xs ys : List V} (h1 : H p = some (.lst xs)) (h2 : H q = some (.lst ys)) (hz : xs.length + ys.length ≤ sizeLine) (h : Q .non (upd H p (.lst (xs ++ ys)))) : rExtend (.ref p) [.ref q] H Q := ⟨p, q, xs, ys, rfl, rfl, h1, h2, hz, h⟩
theorem r_dget {td ty : TE} (h : td σ H fun x H1 => ty σ H1 fun y H2 => ∃ a v, x = .ref a ∧ DGet H2 a y (some v) ∧ Q v H2) : tDGet td ty σ H Q := h
theorem r_din {td ty : TE} (h : ty σ H fun y H1 => td σ H1 fun x H2 => ∃ a o, x = .ref a ∧ DGet H2 a y o ∧ Q (.bl o.isSome) H2) : tDIn ty td σ H Q := h
theorem r_dnin {td ty : TE} (h : ty σ H fun y H1 => td σ H1 fun x H2 => ∃ a o, x = .ref a ∧ DGet H2 a y o ∧ Q (.bl (!o.isSome)) H2) : tDNotIn ty td σ H Q := h
theorem r_slc {r : V → Option Int → Option Int → Hp → VK → Prop} {to th : TO} (h : te σ H fun x H1 => to σ H1 fun l H2 => th σ H2 fun u H3 => r x l u H3 Q) : tSl r te to th σ H Q := h
theorem r_nop {Q : Option Int → Hp → Prop} (h : Q none H) : tNoPart σ H Q := h
theorem r_part {Q : Option Int → Hp → Prop} (h : te σ H fun x H1 => ∃ i, x = .int i ∧ Q (some i) H1) : tPart te σ H Q := h
theorem r_int {Q : Int → Prop} {a : Int} (h : Q a) : ∃ k, V.int a = .int k ∧ Q k := ⟨a, rfl, h⟩
theorem r_isi {T C : String} {b : Bool} (h : TyX K H x (.type T)) (e : kitB T C = some b) (q : Q (.bl b) H) : rIsi K [x, .ty C] H Q := ⟨x, .ty C, _, _, b, rfl, .ty C, h, kit_ty e, q⟩
theorem r_disp {trs : List (TE × TE)} (h : ∀ p, H p = none → tPairs trs σ (upd H p (.dK [])) fun ps H2 => H2 p = some (.dK []) ∧ ∃ kvs : List (Key × V), ps = kvs.map (fun kv => (kV kv.1, kv.2)) ∧ kvs.length ≤ 15 ∧ Q (.ref p) (upd H2 p (.dK (mergeK [] kvs)))) : tDisp trs σ H Q := h
theorem r_pcons {r : List (TE × TE)} {Q : List (V × V) → Hp → Prop} (h : ta σ H fun x H1 => tb σ H1 fun y H2 => tPairs r σ H2 fun ps H3 => Q ((x, y) :: ps) H3) : tPairs ((ta, tb) :: r) σ H Q := h
theorem r_pnil {Q : List (V × V) → Hp → Prop} (h : Q [] H) : tPairs [] σ H Q := h
theorem r_slS {z : Str} {lo hi : Option Int} (hz : z.length ≤ sizeLine) (q : Q (.str (cutS z lo hi)) H) : rSlS (.str z) lo hi H Q := ⟨z, rfl, hz, q⟩
theorem r_dput {td ty : TE} {tz : TE} (h : tz σ H fun v H1 => td σ H1 fun x H2 => ty σ H2 fun y H3 => ∃ a H4, x = .ref a ∧ DPut H3 a y v H4 ∧ nx σ H4) : sDPut td ty tz ⟨nx, rt, bk, ct⟩ σ H := h
theorem r_dki {R : Option V → Prop} {a : Addr} {kvs : List (Key × V)} {k : Int} (e : H a = some (.dK kvs)) (h : R (valV kvs (.inl k))) : ∃ b o, V.ref a = .ref b ∧ DGet H b (.int k) o ∧ R o := ⟨a, _, rfl, DGet.k (k := .inl k) e, h⟩
theorem r_gki {R : V → Prop} {a : Addr} {kvs : List (Key × V)} {k : Int} {v : V} (e : H a = some (.dK kvs)) (e2 : valV kvs (.inl k) = some v) (h : R v) : ∃ b v, V.ref a = .ref b ∧ DGet H b (.int k) (some v) ∧ R v := ⟨a, v, rfl, e2 ▸ DGet.k (k := .inl k) e, h⟩
theorem r_pki {R : Hp → Prop} {a : Addr} {kvs : List (Key × V)} {k : Int} {v : V} (e : H a = some (.dK kvs)) (hl : kvs.length < sizeLine) (h : R (upd H a (.dK (putK kvs (.inl k) v)))) : ∃ b H', V.ref a = .ref b ∧ DPut H b (.int k) v H' ∧ R H' := ⟨a, _, rfl, DPut.k (k := .inl k) e hl, h⟩
theorem r_gkR {R : V → Prop} {a : Addr} {kvs : List (Key × V)} {k : Key} {v y : V} (e : Rd H a (.dK kvs)) (ey : y = kV k) (e2 : valV kvs k = some v) (h : R v) : ∃ b v, V.ref a = .ref b ∧ DGet H b y (some v) ∧ R v := ⟨a, v, rfl, by rw [ey, ← e2]; exact .inl ⟨kvs, k, e, rfl, rfl⟩, h⟩
theorem r_lockE {t : TE} {d : Addr} {u : HO} (e : H d = some u) (m : Mut (some u)) (h : ∀ od, t σ (upd H d (.frz od u)) fun v H' => H' d = some (.frz od u) ∧ Q v (upd H' d u)) : tLockE t σ H Q := ⟨d, u, e, m, h⟩
theorem r_dks {R : Option V → Prop} {a : Addr} {kvs : List (Key × V)} {k : Str} (e : H a = some (.dK kvs)) (h : R (valV kvs (.inr k))) : ∃ b o, V.ref a = .ref b ∧ DGet H b (.str k) o ∧ R o := ⟨a, _, rfl, DGet.k (k := .inr k) e, h⟩
theorem r_gks {R : V → Prop} {a : Addr} {kvs : List (Key × V)} {k : Str} {v : V} (e : H a = some (.dK kvs)) (e2 : valV kvs (.inr k) = some v) (h : R v) : ∃ b v, V.ref a = .ref b ∧ DGet H b (.str k) (some v) ∧ R v := ⟨a, v, rfl, e2 ▸ DGet.k (k := .inr k) e, h⟩
theorem r_pks {R : Hp → Prop} {a : Addr} {kvs : List (Key × V)} {k : Str} {v : V} (e : H a = some (.dK kvs)) (hl : kvs.length < sizeLine) (h : R (upd H a (.dK (putK kvs (.inr k) v)))) : ∃ b H', V.ref a = .ref b ∧ DPut H b (.str k) v H' ∧ R H' := ⟨a, _, rfl, DPut.k (k := .inr k) e hl, h⟩
theorem r_lenl {R : Nat → Prop} {p : Addr} {xs : List V} (e : H p = some (.lst xs)) (h : R xs.length) : ∃ x n, [V.ref p] = [x] ∧ LenV K x H n ∧ R n := ⟨_, _, rfl, .inl ⟨xs, .inl (.inl e), rfl⟩, h⟩
theorem r_lent {R : Nat → Prop} {p : Addr} {xs : List V} (e : H p = some (.tup xs)) (h : R xs.length) : ∃ x n, [V.ref p] = [x] ∧ LenV K x H n ∧ R n := ⟨_, _, rfl, .inr ⟨xs, .inl (.inl e), rfl⟩, h⟩
theorem r_lenS {R : Nat → Prop} {y : Str} (e : y.length ≤ sizeLine) (h : R y.length) : ∃ x n, [V.str y] = [x] ∧ LenV K x H n ∧ R n := ⟨_, _, rfl, ⟨e, rfl⟩, h⟩
theorem r_yes {Q : Bool → Hp → Prop} (h : Q true H) : tYes σ H Q := h
theorem r_yes2 {A B : Hp → Prop} (h : A H) : tYes σ H (fun b H3 => if b = true then A H3 else B H3) := by
  show (if true = true then A H else B H)
  rw [if_pos rfl]
  exact h
theorem r_ite {b : Bool} {A B : Prop} (h1 : b = true → A) (h2 : b = false → B) : if b = true then A else B := by
  cases b with
  | true => exact (if_pos rfl).mpr (h1 rfl)
  | false => exact (if_neg Bool.false_ne_true).mpr (h2 rfl)
theorem r_itT {b : Bool} {A B : Prop} (e : b = true) (h : A) : if b = true then A else B := by rw [if_pos e]; exact h
theorem r_itF {b : Bool} {A B : Prop} (e : b = false) (h : B) : if b = true then A else B := by rw [e]; exact (if_neg Bool.false_ne_true).mpr h
/-! loops -/
def ForL (J : It) (g : TG) (tb : TS) (nx : L2.St → Hp → Prop) (rt : VK) (σ : L2.St) (H : Hp) : Prop := ∃ W : Nat → Nat → L2.St → Hp → Prop, (∃ m, W 0 m σ H) ∧ ∀ i m σ H, W i m σ H →
  (J.stop i H ∧ nx σ H) ∨ (J.go i H ∧ ∃ N : L2.St → Hp → Prop, (∀ σ' H', N σ' H' → ∃ m', m' < m ∧ W (i + 1) m' σ' H') ∧ ∀ x H', J.yld i H x H' → g x σ H' fun σ2 H2 => tb ⟨N, rt, nx, N⟩ σ2 H2)
theorem r_for {wi : TI} {tb : TS} (h : wi σ H fun J H1 => ForL J g tb nx rt σ H1) : tFor wi g tb ⟨nx, rt, bk, ct⟩ σ H := h
theorem r_rng1 {R : It → Hp → Prop} (h : tl σ H fun vs H1 => ∃ j : Int, vs = [.int j] ∧ -(2 ^ 62) ≤ j ∧ j < 2 ^ 62 ∧ R (Itr 0 j.toNat) H1) : iRng1 tl σ H R := h
theorem r_rngv {R : Int → Prop} {n : Int} (h0 : -1000000 ≤ n) (h1 : n ≤ 1000000) (h : R n) : ∃ j : Int, [V.int n] = [.int j] ∧ -(2 ^ 62) ≤ j ∧ j < 2 ^ 62 ∧ R j := ⟨n, rfl, by omega, by omega, h⟩
theorem r_rng2 {R : It → Hp → Prop} (h : tl σ H fun vs H1 => ∃ i j : Int, vs = [.int i, .int j] ∧ (-(2 ^ 62) ≤ i ∧ i < 2 ^ 62 ∧ -(2 ^ 62) ≤ j ∧ j < 2 ^ 62) ∧ R (Itr i (j - i).toNat) H1) : iRng2 tl σ H R := h
theorem r_rngw {R : Int → Int → Prop} {n m : Int} (h0 : -1000000 ≤ n) (h1 : n ≤ 1000000) (h2 : -1000000 ≤ m) (h3 : m ≤ 1000000) (h : R n m) : ∃ i j : Int, [V.int n, V.int m] = [.int i, .int j] ∧ (-(2 ^ 62) ≤ i ∧ i < 2 ^ 62 ∧ -(2 ^ 62) ≤ j ∧ j < 2 ^ 62) ∧ R i j := ⟨n, m, rfl, by omega, h⟩
theorem L_range {lo : Int} {n : Nat} {tb : TS} (Pv : Nat → L2.St → Hp → Prop) (h0 : Pv 0 σ H)
    (hs : ∀ i σ H, i < n → Pv i σ H → g (.int (lo + i)) σ H fun σ2 H2 => tb ⟨Pv (i + 1), rt, nx, Pv (i + 1)⟩ σ2 H2) (hd : ∀ σ H, Pv n σ H → nx σ H) : ForL (Itr lo n) g tb nx rt σ H :=
  for_range (D := ⟨nx, rt, nx, nx⟩) Pv h0 hs hd
theorem L_list {a : Addr} {xs : List V} {tb : TS} (Pv : Nat → L2.St → Hp → Prop) (h0 : Pv 0 σ H) (hl : ∀ i σ H, i ≤ xs.length → Pv i σ H → SqL K H a xs)
    (hs : ∀ i x σ H, xs[i]? = some x → Pv i σ H → g x σ H fun σ2 H2 => tb ⟨Pv (i + 1), rt, nx, Pv (i + 1)⟩ σ2 H2) (hd : ∀ σ H, Pv xs.length σ H → nx σ H) : ForL (Itl K a) g tb nx rt σ H :=
  for_list (D := ⟨nx, rt, nx, nx⟩) Pv h0 hl hs hd
theorem r_ilst {R : It → Hp → Prop} (h : te σ H fun x H1 => ∃ a, x = .ref a ∧ (∃ xs, SqL K H1 a xs) ∧ R (Itl K a) H1) : iList K te σ H R := h
theorem r_ilv {R : Addr → Prop} {a : Addr} {xs : List V} (hs : SqL K H a xs) (h : R a) : ∃ b, V.ref a = .ref b ∧ (∃ xs, SqL K H b xs) ∧ R b := ⟨a, rfl, ⟨xs, hs⟩, h⟩
theorem r_ilw {R : Addr → Prop} {a : Addr} {xs : List V} (hs : H a = some (.lst xs)) (h : R a) : ∃ b, V.ref a = .ref b ∧ (∃ xs, SqL K H b xs) ∧ R b := ⟨a, rfl, ⟨xs, .inl (.inl hs)⟩, h⟩
theorem r_ienum {R : It → Hp → Prop} (h : tl σ H fun vs H1 => ∃ a xs, vs = [.ref a] ∧ SqL K H1 a xs ∧ R (Ite K a) H1) : iEnum K tl σ H R := h
theorem r_irev {R : It → Hp → Prop} (h : tl σ H fun vs H1 => ∃ (a : Addr) (xs : List V), vs = [.ref a] ∧ SqL K H1 a xs ∧ R (Itv K a xs.length) H1) : iRev K tl σ H R := h
theorem r_itup {R : It → Hp → Prop} (h : te σ H fun x H1 => ∃ a, x = .ref a ∧ (∃ xs, SqT K H1 a xs) ∧ R (Itt K a) H1) : iTup K te σ H R := h
theorem r_ikeys {R : It → Hp → Prop} (h : te σ H fun x H1 => ∃ d o, x = .ref d ∧ ((∃ kvs, H1 d = some (.frz o (.dK kvs)) ∧ R (Itk d o kvs) H1) ∨ ∃ kvs, H1 d = some (.frz o (.dT kvs)) ∧ R (Itkt d o kvs) H1)) : iKeys te σ H R := h
theorem r_istr {R : It → Hp → Prop} (h : te σ H fun v H1 => ∃ x, v = .str x ∧ R (Its x) H1) : iStr te σ H R := h
/-! while -/
def Wh (W : Nat → L2.St → Hp → Prop) (m : Nat) (tb : TS) (nx : L2.St → Hp → Prop) (rt : VK) (σ : L2.St) (H : Hp) : Prop :=
  ∃ N : L2.St → Hp → Prop, (∀ σ' H', N σ' H' → ∃ m', m' < m ∧ W m' σ' H') ∧ tb ⟨N, rt, nx, N⟩ σ H
theorem r_while {tb : TS} (W : Nat → L2.St → Hp → Prop) (m0 : Nat) (h0 : W m0 σ H) (hs : ∀ m σ H, W m σ H → tc σ H fun b H1 => if b = true then Wh W m tb nx rt σ H1 else nx σ H1) : tWhile tc tb ⟨nx, rt, bk, ct⟩ σ H :=
  ⟨W, ⟨m0, h0⟩, hs⟩
theorem r_wh {tb : TS} {W : Nat → L2.St → Hp → Prop} {m : Nat} (h : tb ⟨fun σ' H' => ∃ m', m' < m ∧ W m' σ' H', rt, nx, fun σ' H' => ∃ m', m' < m ∧ W m' σ' H'⟩ σ H) : Wh W m tb nx rt σ H := ⟨_, fun _ _ h => h, h⟩
/-! comprehensions -/
def LcL (J : It) (g : TG) (tt : TT) (te : TE) (vs : List Nat) (σ : L2.St) (H1 : Hp) (Q : VK) : Prop := ∀ D, H1 D = none → ∃ W : Nat → Nat → Hp → Prop, (∃ m, W 0 m (upd H1 D (.lst []))) ∧ ∀ i m H, W i m H →
  (J.stop i H ∧ Q (.ref D) H) ∨ (J.go i H ∧ ∃ Nx : Hp → Prop, (∀ H', Nx H' → ∃ m', m' < m ∧ W (i + 1) m' H') ∧ ∀ x H', J.yld i H x H' → g x (wipe σ vs) H' fun σ2 H2 => wipe σ2 vs = wipe σ vs ∧ tt σ2 H2 fun b H3 =>
    if b = true then te σ2 H3 fun y H4 => ∃ acc, H4 D = some (.lst acc) ∧ acc.length < sizeLine ∧ Nx (upd H4 D (.lst (acc ++ [y]))) else Nx H3)
theorem r_lc {wi : TI} {vs : List Nat} (h : wi σ H fun J H1 => LcL J g tt te vs σ H1 Q) : tLc wi g tt te vs σ H Q := h
theorem C_range {lo : Int} {n : Nat} {vs : List Nat} (Pv : Addr → Nat → Hp → Prop) (h0 : ∀ D, H D = none → Pv D 0 (upd H D (.lst [])))
    (hs : ∀ D i H', i < n → Pv D i H' → g (.int (lo + i)) (wipe σ vs) H' fun σ2 H2 => wipe σ2 vs = wipe σ vs ∧ tt σ2 H2 fun b H3 =>
      if b = true then te σ2 H3 fun y H4 => ∃ acc, H4 D = some (.lst acc) ∧ acc.length < sizeLine ∧ Pv D (i + 1) (upd H4 D (.lst (acc ++ [y]))) else Pv D (i + 1) H3) (hd : ∀ D H', H D = none → Pv D n H' → Q (.ref D) H') : LcL (Itr lo n) g tt te vs σ H Q :=
  fun D hD => lc_range (Pv D) (h0 D hD) (hs D) (fun H' => hd D H' hD)
theorem C_list {a : Addr} {xs : List V} {vs : List Nat} (Pv : Addr → Nat → Hp → Prop) (h0 : ∀ D, H D = none → Pv D 0 (upd H D (.lst []))) (hl : ∀ D i H, i ≤ xs.length → Pv D i H → SqL K H a xs)
    (hs : ∀ D i x H', xs[i]? = some x → Pv D i H' → g x (wipe σ vs) H' fun σ2 H2 => wipe σ2 vs = wipe σ vs ∧ tt σ2 H2 fun b H3 =>
      if b = true then te σ2 H3 fun y H4 => ∃ acc, H4 D = some (.lst acc) ∧ acc.length < sizeLine ∧ Pv D (i + 1) (upd H4 D (.lst (acc ++ [y]))) else Pv D (i + 1) H3) (hd : ∀ D H', H D = none → Pv D xs.length H' → Q (.ref D) H') : LcL (Itl K a) g tt te vs σ H Q :=
  fun D hD => lc_list (K := K) (a := a) (xs := xs) (Pv D) (h0 D hD) (hl D) (hs D) (fun H' => hd D H' hD)
/-- a for, a comprehension over what is walked as w says -/
theorem L_it {J : It} {n : Nat} {Gd : Hp → Prop} {Y : Nat → Hp → V → Hp → Prop} (w : L2.Walk J n Gd Y) {tb : TS} (Pv : Nat → L2.St → Hp → Prop) (h0 : Pv 0 σ H) (hG : ∀ i σ H, i ≤ n → Pv i σ H → Gd H)
    (hs : ∀ i x σ H H', i < n → Pv i σ H → Y i H x H' → g x σ H' fun σ2 H2 => tb ⟨Pv (i + 1), rt, nx, Pv (i + 1)⟩ σ2 H2) (hd : ∀ σ H, Pv n σ H → nx σ H) : ForL J g tb nx rt σ H :=
  for_it w (D := ⟨nx, rt, nx, nx⟩) Pv h0 hG hs hd
theorem C_it {J : It} {n : Nat} {Gd : Hp → Prop} {Y : Nat → Hp → V → Hp → Prop} (w : L2.Walk J n Gd Y) {vs : List Nat} (Pv : Addr → Nat → Hp → Prop) (h0 : ∀ D, H D = none → Pv D 0 (upd H D (.lst []))) (hG : ∀ D i H, i ≤ n → Pv D i H → Gd H)
    (hs : ∀ D i x H1 H', i < n → Pv D i H1 → Y i H1 x H' → g x (wipe σ vs) H' fun σ2 H2 => wipe σ2 vs = wipe σ vs ∧ tt σ2 H2 fun b H3 =>
      if b = true then te σ2 H3 fun y H4 => ∃ acc, H4 D = some (.lst acc) ∧ acc.length < sizeLine ∧ Pv D (i + 1) (upd H4 D (.lst (acc ++ [y]))) else Pv D (i + 1) H3) (hd : ∀ D H', H D = none → Pv D n H' → Q (.ref D) H') : LcL J g tt te vs σ H Q :=
  fun D hD => lc_it w (Pv D) (h0 D hD) (hG D) (hs D) (fun H' => hd D H' hD)
theorem r_wip {vs : List Nat} {σ2 : L2.St} {B : Prop} (e : wipe σ2 vs = wipe σ vs) (h : B) : wipe σ2 vs = wipe σ vs ∧ B := ⟨e, h⟩
theorem r_d {c A B : Prop} [Decidable c] (h1 : c → A) (h2 : ¬ c → B) : if decide c = true then A else B := r_ite (fun h => h1 (of_decide_eq_true h)) (fun h => h2 (of_decide_eq_false h))
theorem r_nd {c A B : Prop} [Decidable c] (h1 : ¬ c → A) (h2 : c → B) : if (!decide c) = true then A else B := r_ite (fun h => h1 (of_decide_eq_false (by simpa using h))) (fun h => h2 (of_decide_eq_true (by simpa using h)))
theorem mulL {a b : Int} (h1 : -(2 ^ 64) < a) (h2 : a < 2 ^ 64) : CMul a b := .inl ⟨h1, h2⟩
theorem mulR {a b : Int} (h1 : -(2 ^ 64) < b) (h2 : b < 2 ^ 64) : CMul a b := .inr ⟨h1, h2⟩
theorem powS {a b : Int} (h0 : 0 ≤ b) (h1 : b ≤ 1000000) (h2 : a.natAbs < 2 ^ 64) : CPow a b := ⟨h0, h1, h2⟩
theorem divS {a b : Int} (h0 : 0 < b) (h1 : b.natAbs < 2 ^ 220) : CDivW a b := wide_div h0 h1 (by decide) (by decide)
end
theorem dint' {a b : Int} : decide (V.int a = V.int b) = decide (a = b) := decide_eq_decide.mpr ⟨fun h => V.int.inj h, fun h => by rw [h]⟩
theorem hu65_of {A : Around} {k : Nat} (hr : Room k A) : A.units + 65 < cLine := by
  have := hr.un
  omega
theorem sz {n : Nat} (h : n ≤ 100000) : n ≤ sizeLine := Nat.le_trans h (by decide)
theorem szl {n : Nat} (h : n < 100000) : n < sizeLine := Nat.lt_of_lt_of_le h (by decide)
/-! ### heaps -/
/-- all that was tracked but at p is as it was -/
def But (p : Addr) (H H' : Hp) : Prop := ∀ b o, H b = some o → b ≠ p → H' b = some o
theorem But.refl {p : Addr} {H : Hp} : But p H H := fun _ _ h _ => h
theorem But.trans {p : Addr} {H H1 H2 : Hp} (a : But p H H1) (b : But p H1 H2) : But p H H2 := fun c o h n => b c o (a c o h n) n
theorem But.of {p : Addr} {H H' : Hp} (s : Same H H') : But p H H' := fun b o h _ => s b o h
theorem But.upd {p : Addr} {H : Hp} {o : HO} : But p H (upd H p o) := fun b u h n => by rw [upd_ne n]; exact h
theorem But.upd' {p q : Addr} {H H' : Hp} {o : HO} (h : But p H H') (n : H q = none) : But p H (L2.upd H' q o) := fun b u e k => by
  rw [upd_ne (ne_of_none e n)]
  exact h b u e k
theorem But.back1 {p : Addr} {H H' : Hp} {u : HO} (h : But p H H') (e : H p = some u) : Same H (L2.upd H' p u) := fun b o eb => by
  by_cases z : b = p
  · rw [z] at eb ⊢
    rw [L2.upd_same, ← eb, e]
  · rw [upd_ne z]
    exact h b o eb z
theorem atI_last {xs : List V} {v : V} : atI (xs ++ [v]) (-1) = some v := by
  have l : (xs ++ [v]).length = xs.length + 1 := by simp
  unfold atI ixN
  rw [l, if_neg (by decide), if_pos (by omega)]
  show (xs ++ [v])[((-1 : Int) + ((xs.length + 1 : Nat) : Int)).toNat]? = some v
  have : ((-1 : Int) + ((xs.length + 1 : Nat) : Int)).toNat = xs.length := by omega
  rw [this, List.getElem?_append_right (Nat.le_refl _), Nat.sub_self]
  rfl
theorem But.free {p q : Addr} {H H' : Hp} (b : But p H H') (hq : H' q = none) (hp' : H' p ≠ none) : H q = none := by
  cases e : H q with
  | none => rfl
  | some u =>
    by_cases z : q = p
    · rw [z] at hq
      exact absurd hq hp'
    · rw [b q u e z] at hq
      cases hq
theorem same_new {H : Hp} {p : Addr} {o : HO} (h : H p = none) : Same H (upd H p o) := fun b x e => by
  rw [upd_ne (ne_of_none e h)]
  exact e
theorem Same.upd' {q : Addr} {H H' : Hp} {o : HO} (h : Same H H') (n : H q = none) : Same H (L2.upd H' q o) := fun b u e => by
  rw [upd_ne (ne_of_none e n)]
  exact h b u e
/-- what is new since H may be changed -/
theorem Same.own {q : Addr} {H H' : Hp} {o : HO} (h : Same H H') (n : H q = none) : Same H (L2.upd H' q o) := Same.upd' h n
theorem ne_at {H : Hp} {a b : Addr} {o u : HO} (h : H a = some o) (h' : H b = some u) (n : o ≠ u) : a ≠ b := by
  intro e
  subst e
  rw [h] at h'
  exact n (Option.some.inj h')
theorem Same.free' {H H' : Hp} {q : Addr} (h : Same H H') (n : H' q = none) : H q = none := h.free n
theorem But.back {p : Addr} {H H1 H2 : Hp} (s : Same H H1) (n : H p = none) (b : But p H1 H2) : Same H H2 := fun c o e => b c o (s c o e) (ne_of_none e n)
/-- the bag: three whole numbers; the second one stays below 2 ^ 62, the third one counts -/
def BagAt (H : Hp) (p : Addr) (n : Nat) : Prop := ∃ a b c : Int, H p = some (.lst [.int a, .int b, .int c]) ∧ 0 ≤ b ∧ b < 4611686018427387904 ∧ 0 ≤ c ∧ c ≤ n
theorem BagAt.mono {H : Hp} {p : Addr} {n m : Nat} (h : BagAt H p n) (l : n ≤ m) : BagAt H p m := by
  obtain ⟨a, b, c, e, h1, h2, h3, h4⟩ := h
  exact ⟨a, b, c, e, h1, h2, h3, by omega⟩
theorem BagAt.there {H : Hp} {p : Addr} {n : Nat} (h : BagAt H p n) : H p ≠ none := by
  obtain ⟨a, b, c, e, _⟩ := h
  rw [e]
  simp
theorem BagAt.same {H H' : Hp} {p : Addr} {n : Nat} (h : BagAt H p n) (s : Same H H') : BagAt H' p n := by
  obtain ⟨a, b, c, e, r⟩ := h
  exact ⟨a, b, c, s _ _ e, r⟩
theorem BagAt.upd {H : Hp} {p q : Addr} {n : Nat} {o : HO} (h : BagAt H p n) (hq : H q = none) : BagAt (upd H q o) p n := h.same (same_new hq)
/-- what stood at another address is the bag no more -/
theorem BagAt.ne {H : Hp} {p q : Addr} {n : Nat} (h : BagAt H p n) {xs : List V} (e : H q = some (.tup xs)) : q ≠ p := by
  intro z
  subst z
  obtain ⟨a, b, c, e', _⟩ := h
  rw [e] at e'
  cases e'
end G
local macro_rules | `(tactic| walk_at "r1") => `(tactic| first
  | with_reducible refine G.r_seq ?_ | with_reducible refine G.r_asg ?_ | ((with_reducible refine' G.r_name ?r_h ?_); (case r_h => (simp only [List.map_cons, List.map_nil, L2.wipe, List.set_cons_zero, List.set_cons_succ]; exact rfl))) | with_reducible refine G.r_ret ?_ | with_reducible refine G.r_if ?_
  | ((with_reducible refine' G.r_var ?r_h ?_); (case r_h => rfl)) | with_reducible refine G.r_c ?_ | with_reducible refine G.r_op ?_ | with_reducible refine G.r_i0 ?_
  | with_reducible refine G.r_cons ?_ | with_reducible refine G.r_nil ?_ | with_reducible refine G.r_cal ?_ | with_reducible refine G.r_cb ?_ | with_reducible refine G.r_cbk ?_ | with_reducible refine G.r_test ?_ | with_reducible refine G.r_tB ?_
  | with_reducible refine G.r_bl ?_ | with_reducible refine G.r_next ?_ | ((with_reducible refine' G.r_eq ?r_h ?_); (case r_h => rfl)) | ((with_reducible refine' G.r_ne ?r_h ?_); (case r_h => rfl))
  | with_reducible refine G.r_u ?_ | with_reducible refine G.r_un ?_ | with_reducible refine G.r_and ?_ | with_reducible refine G.r_or ?_ | with_reducible refine G.r_not ?_ | with_reducible refine G.r_andV ?_ | with_reducible refine G.r_orV ?_
  | with_reducible refine G.r_notV ?_ | with_reducible refine G.r_ifE ?_ | with_reducible refine G.r_tup ?_ | with_reducible refine G.r_lst ?_ | with_reducible refine G.r_drop ?_ | with_reducible refine G.r_retN ?_
  | with_reducible refine G.r_brk ?_ | with_reducible refine G.r_cont ?_ | with_reducible refine G.r_sub ?_ | with_reducible refine G.r_gcons ?_ | with_reducible refine G.r_gnil ?_ | with_reducible refine G.r_bm ?_ | with_reducible refine G.r_bm0 ?_
  | with_reducible refine G.r_slc ?_ | with_reducible refine G.r_nop ?_ | with_reducible refine G.r_part ?_ | with_reducible refine G.r_int ?_ | with_reducible refine G.r_yes2 ?_ | with_reducible refine G.r_revL ?_ | with_reducible refine G.r_dget ?_ | with_reducible refine G.r_din ?_ | with_reducible refine G.r_dnin ?_ | with_reducible refine G.r_dput ?_ | with_reducible refine G.r_yes ?_
  | with_reducible refine G.r_for ?_ | with_reducible refine G.r_rng1 ?_ | with_reducible refine G.r_rng2 ?_ | with_reducible refine G.r_ilst ?_ | with_reducible refine G.r_ienum ?_ | with_reducible refine G.r_irev ?_ | with_reducible refine G.r_itup ?_ | with_reducible refine G.r_ikeys ?_ | with_reducible refine G.r_istr ?_ | with_reducible refine G.r_lc ?_ | with_reducible refine G.r_wh ?_ | with_reducible refine G.r_pcons ?_ | with_reducible refine G.r_pnil ?_
  | ((with_reducible refine' G.r_rngv ?r_h ?r_e ?_); (case r_h => omega); (case r_e => omega))
  | ((with_reducible refine' G.r_wip ?r_h ?_); (case r_h => rfl))
  | ((with_reducible refine' G.r_ixl ?r_h ?r_e ?_); (case r_h => assumption); (case r_e => rfl))
  | ((with_reducible refine' G.r_ixt ?r_h ?r_e ?_); (case r_h => assumption); (case r_e => rfl))
  | ((with_reducible refine' G.r_gtup ?r_h ?r_e ?_); (case r_h => assumption); (case r_e => rfl))
  | ((with_reducible refine' G.r_i ?r_h ?_); (case r_h => first
      | (with_reducible exact G.mulL (by omega) (by omega)) | (with_reducible exact G.mulR (by omega) (by omega)) | (with_reducible exact G.mulR (by decide) (by decide)) | (with_reducible exact G.mulL (by decide) (by decide)) | (with_reducible exact G.powS (by omega) (by omega) (by omega)) | (with_reducible exact G.divS (by omega) (by omega)) | (with_reducible exact G.divS (by assumption) (by assumption)) | (with_reducible assumption) | (show (0 : Int) < _; omega))))
local macro_rules | `(tactic| walk_at "rr") => `(tactic| repeat (walk_at "r1"))

namespace G
open PySem L2
/-! ### what kind of thing a value is -/
def kinds7 : List String := ["NoneType", "bool", "int", "str", "list", "tuple", "dict"]
theorem kit_tuple : ∀ T ∈ kinds7, kitB T "tuple" = some (T == "tuple") := by decide +kernel
theorem kit_list : ∀ T ∈ kinds7, kitB T "list" = some (T == "list") := by decide +kernel
theorem kit_str : ∀ T ∈ kinds7, kitB T "str" = some (T == "str") := by decide +kernel
theorem kit_bool : ∀ T ∈ kinds7, kitB T "bool" = some (T == "bool") := by decide +kernel
theorem kit_int : ∀ T ∈ kinds7, kitB T "int" = some (T == "int" || T == "bool") := by decide +kernel
theorem whole_of : ∀ T ∈ kinds7, ((T == "int" || T == "bool") && !(T == "bool")) = (T == "int") := by decide +kernel
section
variable {K : PySem.W.Frag} {H H' : Hp} {v : V} {t : Value}
theorem ty_tup {a : Addr} {xs : List V} (h : H a = some (.tup xs)) : TyX K H (.ref a) (.type "tuple") := .base (.tup h)
theorem ty_lst {a : Addr} {xs : List V} (h : H a = some (.lst xs)) : TyX K H (.ref a) (.type "list") := .base (.lst h)
theorem ty_dK {a : Addr} {xs : List (Key × V)} (h : H a = some (.dK xs)) : TyX K H (.ref a) (.type "dict") := .base (.dK h)
theorem ty_int {i : Int} : TyX K H (.int i) (.type "int") := .base (.int i)
theorem ty_str {i : Str} : TyX K H (.str i) (.type "str") := .base (.str i)
theorem ty_bl {i : Bool} : TyX K H (.bl i) (.type "bool") := .base (.bl i)
theorem ty_non : TyX K H .non (.type "NoneType") := .base .non
theorem TyOf.same (s : Same H H') (h : TyOf K H v t) : TyOf K H' v t := by
  cases h with
  | non => exact .non
  | bl x => exact .bl x
  | int x => exact .int x
  | str x => exact .str x
  | flt x => exact .flt x
  | lst e => exact .lst (s _ _ e)
  | frz e => exact .frz (s _ _ e)
  | tup e => exact .tup (s _ _ e)
  | dK e => exact .dK (s _ _ e)
  | dT e => exact .dT (s _ _ e)
  | ins e a b c d f => exact .ins (s _ _ e) a b c d f
theorem TyX.same (s : Same H H') (h : TyX K H v t) : TyX K H' v t := by
  cases h with
  | base h => exact .base (TyOf.same s h)
  | byt b => exact .byt b
  | set e => exact .set (s _ _ e)
  | kList e c => exact .kList e c
  | kTuple e c => exact .kTuple e c
  | kDict e c => exact .kDict e c
  | fTuple e => exact .fTuple (s _ _ e)
  | fDict e => exact .fDict (s _ _ e)
end
/-- v is something of one of the seven kinds -/
def Some7 (K : PySem.W.Frag) (H : Hp) (v : V) : Prop := ∃ T, TyX K H v (.type T) ∧ T ∈ kinds7
theorem Some7.same {K : PySem.W.Frag} {H H' : Hp} {v : V} (s : Same H H') (h : Some7 K H v) : Some7 K H' v := by
  obtain ⟨T, a, b⟩ := h
  exact ⟨T, TyX.same s a, b⟩
theorem any_non {K : PySem.W.Frag} {H : Hp} : Some7 K H .non := ⟨_, ty_non, by decide⟩
theorem any_bl {K : PySem.W.Frag} {H : Hp} {b : Bool} : Some7 K H (.bl b) := ⟨_, ty_bl, by decide⟩
theorem any_int {K : PySem.W.Frag} {H : Hp} {b : Int} : Some7 K H (.int b) := ⟨_, ty_int, by decide⟩
theorem any_str {K : PySem.W.Frag} {H : Hp} {b : Str} : Some7 K H (.str b) := ⟨_, ty_str, by decide⟩
theorem any_tup {K : PySem.W.Frag} {H : Hp} {a : Addr} {xs : List V} (h : H a = some (.tup xs)) : Some7 K H (.ref a) := ⟨_, ty_tup h, by decide⟩
theorem any_lst {K : PySem.W.Frag} {H : Hp} {a : Addr} {xs : List V} (h : H a = some (.lst xs)) : Some7 K H (.ref a) := ⟨_, ty_lst h, by decide⟩
theorem any_dK {K : PySem.W.Frag} {H : Hp} {a : Addr} {xs : List (Key × V)} (h : H a = some (.dK xs)) : Some7 K H (.ref a) := ⟨_, ty_dK h, by decide⟩
/-- a worth by its word and number -/
def isW (s : Str) (n : Int) : Bool := s == "num" || ((s == "at" || s == "box" || s == "go") && decide (0 ≤ n))
/-- v is a thing, and b says whether it is a worth -/
inductive Th (K : PySem.W.Frag) (H : Hp) : V → Bool → Prop
  | other {v : V} {T : String} (h : TyX K H v (.type T)) (m : T ∈ kinds7) (n : (T == "tuple") = false) : Th K H v false
  | tupN {a : Addr} {xs : List V} (h : H a = some (.tup xs)) (n : xs.length ≠ 2) : Th K H (.ref a) false
  | tupX {a : Addr} {x y : V} {T : String} (h : H a = some (.tup [x, y])) (hx : TyX K H x (.type T)) (m : T ∈ kinds7) (n : (T == "str") = false) : Th K H (.ref a) false
  | tupY {a : Addr} {s : Str} {y : V} {T : String} (h : H a = some (.tup [.str s, y])) (hy : TyX K H y (.type T)) (m : T ∈ kinds7) (n : (T == "int") = false) : Th K H (.ref a) false
  | tupW {a : Addr} {s : Str} {n : Int} (h : H a = some (.tup [.str s, .int n])) : Th K H (.ref a) (isW s n)
/-- only a whole number is of the kind int -/
theorem ty_is_int' {K : PySem.W.Frag} {H : Hp} {v : V} {t : Value} (h : TyX K H v t) (e : t = .type "int") : ∃ n, v = .int n := by
  cases h with
  | base h =>
    cases h with
    | int i => exact ⟨i, rfl⟩
    | _ => first | (cases e; done) | (injection e with e; exact absurd e (by decide))
  | _ => first | (cases e; done) | (injection e with e; exact absurd e (by decide))
theorem ty_is_str' {K : PySem.W.Frag} {H : Hp} {v : V} {t : Value} (h : TyX K H v t) (e : t = .type "str") : ∃ n, v = .str n := by
  cases h with
  | base h =>
    cases h with
    | str i => exact ⟨i, rfl⟩
    | _ => first | (cases e; done) | (injection e with e; exact absurd e (by decide))
  | _ => first | (cases e; done) | (injection e with e; exact absurd e (by decide))
theorem ty_is_int {K : PySem.W.Frag} {H : Hp} {v : V} (h : TyX K H v (.type "int")) : ∃ n, v = .int n := ty_is_int' h rfl
theorem ty_is_str {K : PySem.W.Frag} {H : Hp} {v : V} (h : TyX K H v (.type "str")) : ∃ n, v = .str n := ty_is_str' h rfl
/-- any tuple of two, of any kinds, is a thing -/
theorem Th.pair {K : PySem.W.Frag} {H : Hp} {a : Addr} {x y : V} (h : H a = some (.tup [x, y])) (hx : Some7 K H x) (hy : Some7 K H y) : ∃ b, Th K H (.ref a) b := by
  obtain ⟨T, tx, mx⟩ := hx
  obtain ⟨U, tu, mu⟩ := hy
  cases e : T == "str" with
  | false => exact ⟨_, .tupX h tx mx e⟩
  | true =>
    have e' := eq_of_beq e
    subst e'
    obtain ⟨s, rfl⟩ := ty_is_str tx
    cases e2 : U == "int" with
    | false => exact ⟨_, .tupY h tu mu e2⟩
    | true =>
      have e' := eq_of_beq e2
      subst e'
      obtain ⟨n, rfl⟩ := ty_is_int tu
      exact ⟨_, .tupW h⟩
theorem atI_there {α : Type} {xs : List α} {i : Int} (h0 : 0 ≤ i) (h1 : i < xs.length) : ∃ c, atI xs i = some c := by
  obtain ⟨j, rfl⟩ : ∃ j : Nat, i = (j : Int) := ⟨i.toNat, by omega⟩
  have hj : j < xs.length := by omega
  exact ⟨xs[j], atI_nat (List.getElem?_eq_getElem hj)⟩
theorem r_ixS' {H : Hp} {Q : VK} {z : Str} {i : Int} (hz : z.length ≤ sizeLine) (h0 : 0 ≤ i) (h1 : i < z.length) (h : ∀ c, Q (.str ⟨#[c]⟩) H) : rIxS (.str z) (.int i) H Q := by
  obtain ⟨c, e⟩ : ∃ c, atI z.cps.toList i = some c := atI_there h0 (by rw [Array.length_toList]; exact h1)
  exact ⟨z, i, c, rfl, rfl, hz, e, h c⟩
theorem Th.same {K : PySem.W.Frag} {H H' : Hp} {v : V} {b : Bool} (s : Same H H') (h : Th K H v b) : Th K H' v b := by
  cases h with
  | other h m n => exact .other (TyX.same s h) m n
  | tupN h n => exact .tupN (s _ _ h) n
  | tupX h hx m n => exact .tupX (s _ _ h) (TyX.same s hx) m n
  | tupY h hy m n => exact .tupY (s _ _ h) (TyX.same s hy) m n
  | tupW h => exact .tupW (s _ _ h)
/-- one of the odd things: no tuple, or one of none or two -/
inductive Odd (K : PySem.W.Frag) (H : Hp) : V → Prop
  | other {v : V} {T : String} (h : TyX K H v (.type T)) (m : T ∈ kinds7) (n : (T == "tuple") = false) : Odd K H v
  | tup0 {a : Addr} (h : H a = some (.tup [])) : Odd K H (.ref a)
  | tup2 {a : Addr} {s : Str} {n : Int} (h : H a = some (.tup [.str s, .int n])) : Odd K H (.ref a)
theorem Odd.some7 {K : PySem.W.Frag} {H : Hp} {v : V} (h : Odd K H v) : Some7 K H v := by
  cases h with
  | other h m n => exact ⟨_, h, m⟩
  | tup0 h => exact any_tup h
  | tup2 h => exact any_tup h
theorem Odd.thing {K : PySem.W.Frag} {H : Hp} {v : V} (h : Odd K H v) : ∃ b, Th K H v b := by
  cases h with
  | other h m n => exact ⟨_, .other h m n⟩
  | tup0 h => exact ⟨_, .tupN h (by decide)⟩
  | tup2 h => exact ⟨_, .tupW h⟩
end G

namespace G
open PySem L2
/-! ### worths, as they stand in the heap -/
abbrev Wo := Str × Int
def wv (w : Wo) : List V := [.str w.1, .int w.2]
/-- v is a tuple of w's text and number -/
def WoAt (H : Hp) (v : V) (w : Wo) : Prop := ∃ a, v = .ref a ∧ H a = some (.tup (wv w)) ∧ PyData.strOk w.1 = true
theorem WoAt.mk {H : Hp} {a : Addr} {s : Str} {n : Int} (h : H a = some (.tup [.str s, .int n])) (o : PyData.strOk s = true) : WoAt H (.ref a) (s, n) := ⟨a, rfl, h, o⟩
abbrev Wos (H : Hp) := Paired (WoAt H)
def wd (w : Wo) : PyData := .tuple [.str w.1, .int w.2]
section
variable {K : PySem.W.Frag} {H H' : Hp} {v : V} {w : Wo} {xs : List V} {ws : List Wo} {p : Addr} {n : Nat}
theorem WoAt.same (s : Same H H') (h : WoAt H v w) : WoAt H' v w := by
  obtain ⟨a, e, h, o⟩ := h
  exact ⟨a, e, s _ _ h, o⟩
theorem Wos.same (s : Same H H') (h : Wos H xs ws) : Wos H' xs ws := Paired.mapP h fun _ _ => WoAt.same s
theorem WoAt.but (b : But p H H') (B : BagAt H p n) (h : WoAt H v w) : WoAt H' v w := by
  obtain ⟨a, e, h, o⟩ := h
  exact ⟨a, e, b _ _ h (B.ne h), o⟩
theorem Wos.but (b : But p H H') (B : BagAt H p n) (h : Wos H xs ws) : Wos H' xs ws := Paired.mapP h fun _ _ => WoAt.but b B
/-- another list at l -/
theorem WoAt.upd {l : Addr} {o : HO} {ys : List V} (hl : H l = some (.lst ys)) (h : WoAt H v w) : WoAt (upd H l o) v w := by
  obtain ⟨a, e, h, k⟩ := h
  exact ⟨a, e, by rw [upd_ne (ne_of h hl (by intro q; cases q))]; exact h, k⟩
theorem Wos.upd {l : Addr} {o : HO} {ys : List V} (hl : H l = some (.lst ys)) (h : Wos H xs ws) : Wos (L2.upd H l o) xs ws := Paired.mapP h fun _ _ => WoAt.upd hl
theorem WoAt.dp (h : WoAt H v w) : Dp K H v (wd w) := by
  obtain ⟨a, rfl, h, _⟩ := h
  exact .tup (.inl (.inl h)) (.cons (.str _) (.cons (.int _) .nil))
theorem Wos.dp : ∀ {xs : List V} {ws : List Wo}, Wos H xs ws → DpAll K H xs (ws.map wd)
  | _, _, .nil => .nil
  | _, _, .cons a b => .cons a.dp (Wos.dp b)
theorem Wos.len : ∀ {xs : List V} {ws : List Wo}, Wos H xs ws → xs.length = ws.length
  | _, _, .nil => rfl
  | _, _, .cons _ b => by rw [List.length_cons, List.length_cons, Wos.len b]
theorem Wos.app {ys : List V} {us : List Wo} (h : Wos H xs ws) (g : Wos H ys us) : Wos H (xs ++ ys) (ws ++ us) := by
  induction h with
  | nil => exact g
  | cons a _ ih => exact .cons a ih
theorem Wos.one (h : WoAt H v w) : Wos H [v] [w] := .cons h .nil
theorem Wos.get : ∀ {xs : List V} {ws : List Wo} {i : Nat} {v : V}, Wos H xs ws → xs[i]? = some v → ∃ w, ws[i]? = some w ∧ WoAt H v w
  | _, _, _, _, .nil, e => by cases e
  | _, _, 0, _, .cons a _, e => ⟨_, rfl, by rw [← Option.some.inj e]; exact a⟩
  | _, _, i + 1, _, .cons _ b, e => Wos.get (i := i) b e
theorem Wos.at : ∀ {xs : List V} {ws : List Wo} {i : Nat} {w : Wo}, Wos H xs ws → ws[i]? = some w → ∃ v, xs[i]? = some v ∧ WoAt H v w
  | _, _, _, _, .nil, e => by cases e
  | _, _, 0, _, .cons a _, e => ⟨_, rfl, by rw [← Option.some.inj e]; exact a⟩
  | _, _, i + 1, _, .cons _ b, e => Wos.at (i := i) b e
theorem Wos.take : ∀ {xs : List V} {ws : List Wo} (n : Nat), Wos H xs ws → Wos H (xs.take n) (ws.take n)
  | _, _, 0, _ => .nil
  | _, _, _ + 1, .nil => .nil
  | _, _, n + 1, .cons a b => .cons a (Wos.take n b)
theorem Wos.drop : ∀ {xs : List V} {ws : List Wo} (n : Nat), Wos H xs ws → Wos H (xs.drop n) (ws.drop n)
  | _, _, 0, h => h
  | _, _, _ + 1, .nil => .nil
  | _, _, n + 1, .cons _ b => Wos.drop n b
theorem Wos.rev {xs : List V} {ws : List Wo} (h : Wos H xs ws) : Wos H xs.reverse ws.reverse := by
  induction h with
  | nil => exact .nil
  | cons a _ ih =>
    rw [List.reverse_cons, List.reverse_cons]
    exact ih.app (.one a)
theorem eqv_wd (a b : Wo) : PyData.eqv (wd a) (wd b) = decide (a = b) := by
  obtain ⟨x, i⟩ := a
  obtain ⟨y, j⟩ := b
  show (x == y && (i == j && true)) = _
  rw [Bool.eq_iff_iff]
  simp
theorem eqvAll_wds : ∀ a b : List Wo, PyData.eqvAll (a.map wd) (b.map wd) = decide (a = b)
  | [], [] => rfl
  | [], _ :: _ => rfl
  | _ :: _, [] => rfl
  | x :: r, y :: s => by
    show (PyData.eqv (wd x) (wd y) && PyData.eqvAll (r.map wd) (s.map wd)) = _
    rw [eqv_wd, eqvAll_wds r s, Bool.eq_iff_iff]
    simp
theorem eqv_wds (a b : List Wo) : PyData.eqv (.list (a.map wd)) (.list (b.map wd)) = decide (a = b) := eqvAll_wds a b
theorem WoAt.ok (h : WoAt H v w) : PyData.strOk w.1 = true := by
  obtain ⟨_, _, _, k⟩ := h
  exact k
theorem Wos.ok : ∀ {xs : List V} {ws : List Wo}, Wos H xs ws → ∀ w ∈ ws, PyData.strOk w.1 = true
  | _, _, .nil, _, h => by cases h
  | _, _, .cons a b, w, h => by
    rcases List.mem_cons.mp h with e | e
    · rw [e]
      exact a.ok
    · exact Wos.ok b w e
theorem shaped_wd {a : Wo} (h : PyData.strOk a.1 = true) : SeqAt.shaped (wd a) = true := by
  simp [SeqAt.shaped, wd, PyData.canLay0, PyData.canLayAll0, PyData.depth, PyData.depthAll, h]
theorem lay_wds : ∀ a : List Wo, (∀ w ∈ a, PyData.strOk w.1 = true) → PyData.canLayAll0 (a.map wd) = true ∧ PyData.depthAll (a.map wd) ≤ 1
  | [], _ => ⟨by simp [PyData.canLayAll0], by simp [PyData.depthAll]⟩
  | x :: r, h => by
    obtain ⟨h1, h2⟩ := lay_wds r fun w m => h w (List.mem_cons_of_mem _ m)
    constructor
    · simp [PyData.canLayAll0, wd, PyData.canLay0, h1, h x List.mem_cons_self]
    · have e : PyData.depthAll ((x :: r).map wd) = max 1 (PyData.depthAll (r.map wd)) := by
        simp [PyData.depthAll, wd, PyData.depth]
      rw [e]
      omega
theorem shaped_wds {a : List Wo} (h : ∀ w ∈ a, PyData.strOk w.1 = true) : SeqAt.shaped (.list (a.map wd)) = true := by
  obtain ⟨h1, h2⟩ := lay_wds a h
  simp [SeqAt.shaped, PyData.canLay0, h1, PyData.depth]
  omega
theorem any_wds (w : Wo) (ws : List Wo) : ((ws.map wd).any fun z => PyData.eqv z (wd w)) = decide (w ∈ ws) := by
  rw [List.any_map, Bool.eq_iff_iff, List.any_eq_true]
  simp only [Function.comp, decide_eq_true_eq, eqv_wd]
  exact ⟨fun ⟨x, h1, h2⟩ => h2 ▸ h1, fun h => ⟨w, h, rfl⟩⟩
end
/-- a list of worths at a -/
def PileAt (H : Hp) (a : Addr) (ws : List Wo) : Prop := ∃ xs, H a = some (.lst xs) ∧ Wos H xs ws
theorem PileAt.same {H H' : Hp} {a : Addr} {ws : List Wo} (s : Same H H') (h : PileAt H a ws) : PileAt H' a ws := by
  obtain ⟨xs, e, h⟩ := h
  exact ⟨xs, s _ _ e, h.same s⟩
theorem PileAt.dp {K : PySem.W.Frag} {H : Hp} {a : Addr} {ws : List Wo} (h : PileAt H a ws) : Dp K H (.ref a) (.list (ws.map wd)) := by
  obtain ⟨xs, e, h⟩ := h
  exact .lst (.inl (.inl e)) h.dp
theorem PileAt.app {H : Hp} {l : Addr} {xs : List V} {ws us : List Wo} {ys : List V} (hl : H l = some (.lst ys)) (h : Wos H xs ws) (g : ws = us) : PileAt (upd H l (.lst xs)) l us := by
  subst g
  exact ⟨xs, upd_same, h.upd hl⟩
theorem paired_dp {K : PySem.W.Frag} {H : Hp} {v : V} {w : Wo} (h : WoAt H v w) : Dp K H v (wd w) := h.dp
theorem r_eqD {K : PySem.W.Frag} {H : Hp} {Q : VK} {x y : V} {d e : PyData} (h1 : Dp K H x d) (h2 : Dp K H y e) (s1 : SeqAt.shaped d = true) (s2 : SeqAt.shaped e = true) (q : Q (.bl (PyData.eqv d e)) H) : rEqD K x y H Q := ⟨d, e, h1, h2, s1, s2, q⟩
theorem r_neD {K : PySem.W.Frag} {H : Hp} {Q : VK} {x y : V} {d e : PyData} (h1 : Dp K H x d) (h2 : Dp K H y e) (s1 : SeqAt.shaped d = true) (s2 : SeqAt.shaped e = true) (q : Q (.bl (!PyData.eqv d e)) H) : rNeD K x y H Q := ⟨d, e, h1, h2, s1, s2, q⟩
theorem r_slL {K : PySem.W.Frag} {H : Hp} {Q : VK} {a : Addr} {xs : List V} {lo hi : Option Int} (h : SqL K H a xs) (q : ∀ p, H p = none → Q (.ref p) (upd H p (.lst (cutV xs lo hi)))) : rSlL K (.ref a) lo hi H Q := ⟨a, xs, rfl, h, q⟩
theorem cut_to (xs : List V) (n : Nat) : cutV xs none (some (n : Int)) = xs.take n := by
  unfold cutV
  rw [HT.sIx_none, HT.sIx_nat, List.drop_zero, Nat.sub_zero]
  by_cases h : n ≤ xs.length
  · rw [Nat.min_eq_left h]
  · rw [Nat.min_eq_right (by omega), List.take_of_length_le (Nat.le_refl _), List.take_of_length_le (by omega)]
end G

namespace G
open PySem L2
/-! ### papers of pieces, as they stand in the heap -/
/-- the heap without the addresses ns: what stands there may change -/
def del (ns : List Addr) (H : Hp) : Hp := fun a => if a ∈ ns then none else H a
section
variable {ns : List Addr} {H H' : Hp} {a p : Addr} {o : HO}
theorem del_at (h : H a = some o) (n : a ∉ ns) : del ns H a = some o := by
  unfold del
  rw [if_neg n]
  exact h
theorem of_del (h : del ns H a = some o) : H a = some o ∧ a ∉ ns := by
  unfold del at h
  by_cases m : a ∈ ns
  · rw [if_pos m] at h
    cases h
  · rw [if_neg m] at h
    exact ⟨h, m⟩
theorem del_sub : Same (del ns H) H := fun b u e => (of_del e).1
theorem del_keep (h : ∀ b u, H b = some u → b ∉ ns → H' b = some u) : Same (del ns H) (del ns H') := fun b u e => by
  obtain ⟨h1, h2⟩ := of_del e
  exact del_at (h b u h1 h2) h2
theorem del_same (h : Same H H') : Same (del ns H) (del ns H') := del_keep fun b u e _ => h b u e
theorem del_but (h : But p H H') (m : p ∈ ns) : Same (del ns H) (del ns H') := del_keep fun b u e n => h b u e fun q => n (q ▸ m)
theorem del_upd (m : p ∈ ns) : Same (del ns H) (del ns (upd H p o)) := del_but But.upd m
/-- a new object whose address is to be left out from now on -/
theorem del_more (h : H a = none) : Same (del ns H) (del (a :: ns) H) := fun b u e => by
  obtain ⟨h1, h2⟩ := of_del e
  exact del_at h1 fun m => by
    rcases List.mem_cons.mp m with q | q
    · subst q
      rw [h] at h1
      cases h1
    · exact h2 q
theorem del_less : Same (del (a :: ns) H) (del ns H) := fun b u e => by
  obtain ⟨h1, h2⟩ := of_del e
  exact del_at h1 fun m => h2 (List.mem_cons_of_mem _ m)
end
/-- a list of lists of worths -/
def PileV (H : Hp) (v : V) (ws : List Wo) : Prop := ∃ l, v = .ref l ∧ PileAt H l ws
theorem vint {a b : Int} : (V.int a = V.int b) ↔ a = b := ⟨fun h => V.int.inj h, fun h => by rw [h]⟩
theorem dint {a b : Int} : decide (V.int a = V.int b) = decide (a = b) := decide_eq_decide.mpr vint
abbrev Pc := Int × List Wo
/-- a piece: a tuple of what it lies on and its worths -/
def PcAt (H : Hp) (v : V) (pc : Pc) : Prop := ∃ t l, v = .ref t ∧ H t = some (.tup [.int pc.1, .ref l]) ∧ PileAt H l pc.2
def PcsAt (H : Hp) (a : Addr) (pcs : List Pc) : Prop := ∃ xs, H a = some (.lst xs) ∧ Paired (PcAt H) xs pcs
def PilesAt (H : Hp) (a : Addr) (ps : List (List Wo)) : Prop := ∃ xs, H a = some (.lst xs) ∧ Paired (PileV H) xs ps
def IntsAt (H : Hp) (a : Addr) (ns : List Int) : Prop := H a = some (.lst (ns.map V.int))
def PaperAt (H : Hp) (v : V) (pcs : List Pc) (tops : List Int) : Prop := ∃ t a b, v = .ref t ∧ H t = some (.tup [.ref a, .ref b]) ∧ PcsAt H a pcs ∧ IntsAt H b tops
section
variable {H H' : Hp} {v : V} {a : Addr}
theorem PileV.same {ws : List Wo} (s : Same H H') (h : PileV H v ws) : PileV H' v ws := by
  obtain ⟨l, e, h⟩ := h
  exact ⟨l, e, h.same s⟩
theorem PcAt.same {pc : Pc} (s : Same H H') (h : PcAt H v pc) : PcAt H' v pc := by
  obtain ⟨t, l, e, h1, h2⟩ := h
  exact ⟨t, l, e, s _ _ h1, h2.same s⟩
theorem PcsAt.same {pcs : List Pc} (s : Same H H') (h : PcsAt H a pcs) : PcsAt H' a pcs := by
  obtain ⟨xs, e, h⟩ := h
  exact ⟨xs, s _ _ e, Paired.mapP h fun _ _ => PcAt.same s⟩
theorem PilesAt.same {pcs : List (List Wo)} (s : Same H H') (h : PilesAt H a pcs) : PilesAt H' a pcs := by
  obtain ⟨xs, e, h⟩ := h
  exact ⟨xs, s _ _ e, Paired.mapP h fun _ _ => PileV.same s⟩
theorem IntsAt.same {ns : List Int} (s : Same H H') (h : IntsAt H a ns) : IntsAt H' a ns := s _ _ h
theorem PaperAt.same {pcs : List Pc} {tops : List Int} (s : Same H H') (h : PaperAt H v pcs tops) : PaperAt H' v pcs tops := by
  obtain ⟨t, a, b, e, h1, h2, h3⟩ := h
  exact ⟨t, a, b, e, s _ _ h1, h2.same s, h3.same s⟩
end
theorem paired_len {α β : Type} {F : α → β → Prop} {xs : List α} {ys : List β} (h : Paired F xs ys) : xs.length = ys.length := by
  induction h with
  | nil => rfl
  | cons _ _ ih => rw [List.length_cons, List.length_cons, ih]
theorem paired_app {α β : Type} {F : α → β → Prop} {xs zs : List α} {ys us : List β} (h : Paired F xs ys) (g : Paired F zs us) : Paired F (xs ++ zs) (ys ++ us) := by
  induction h with
  | nil => exact g
  | cons a _ ih => exact .cons a ih
theorem paired_get {α β : Type} {F : α → β → Prop} : ∀ {xs : List α} {ys : List β} {i : Nat} {v : α}, Paired F xs ys → xs[i]? = some v → ∃ w, ys[i]? = some w ∧ F v w
  | _, _, _, _, .nil, e => by cases e
  | _, _, 0, _, .cons a _, e => ⟨_, rfl, by rw [← Option.some.inj e]; exact a⟩
  | _, _, i + 1, _, .cons _ b, e => paired_get (i := i) b e
theorem paired_at {α β : Type} {F : α → β → Prop} : ∀ {xs : List α} {ys : List β} {i : Nat} {w : β}, Paired F xs ys → ys[i]? = some w → ∃ v, xs[i]? = some v ∧ F v w
  | _, _, _, _, .nil, e => by cases e
  | _, _, 0, _, .cons a _, e => ⟨_, rfl, by rw [← Option.some.inj e]; exact a⟩
  | _, _, i + 1, _, .cons _ b, e => paired_at (i := i) b e
/-- the pile of the piece u, by the piles up to each piece -/
def pileAt (piles : List (List Wo)) (u : Int) : List Wo := if 0 ≤ u then piles.getD u.toNat [] else []
/-- what the law draws: pieces that lie on earlier ones, the piles up to each, tops -/
structure Raw (size : Int) (most : Nat) (raw : List Pc) (piles : List (List Wo)) (tops : List Int) : Prop where
  len : raw.length ≤ most
  plen : piles.length = raw.length
  pc : ∀ (i : Nat) (x : Pc), raw[i]? = some x → -1 ≤ x.1 ∧ x.1 < i ∧ 1 ≤ x.2.length ∧ (x.2.length : Int) ≤ size
  pile : ∀ (i : Nat) (x : Pc), raw[i]? = some x → piles[i]? = some (pileAt piles x.1 ++ x.2)
  tlen : tops.length ≤ 100
  top : ∀ t ∈ tops, -1 ≤ t ∧ t < raw.length
/-- as far as the pieces go -/
structure Raw0 (size : Int) (raw : List Pc) (piles : List (List Wo)) : Prop where
  plen : piles.length = raw.length
  pc : ∀ (i : Nat) (x : Pc), raw[i]? = some x → -1 ≤ x.1 ∧ x.1 < i ∧ 1 ≤ x.2.length ∧ (x.2.length : Int) ≤ size
  pile : ∀ (i : Nat) (x : Pc), raw[i]? = some x → piles[i]? = some (pileAt piles x.1 ++ x.2)
  hi : ∀ (i : Nat) (ws : List Wo), piles[i]? = some ws → (ws.length : Int) ≤ size * (i + 1)
theorem Raw0.nil (size : Int) : Raw0 size [] [] := ⟨rfl, fun i x h => by simp at h, fun i x h => by simp at h, fun i x h => by simp at h⟩
theorem pileAt_snoc {piles : List (List Wo)} {u : Int} (ws : List Wo) (h : u < piles.length) : pileAt (piles ++ [ws]) u = pileAt piles u := by
  unfold pileAt
  by_cases h0 : 0 ≤ u
  · rw [if_pos h0, if_pos h0, List.getD_eq_getElem?_getD, List.getD_eq_getElem?_getD, List.getElem?_append_left (by omega)]
  · rw [if_neg h0, if_neg h0]
theorem Raw0.snoc {size : Int} {raw : List Pc} {piles : List (List Wo)} (h : Raw0 size raw piles) {u : Int} {ws : List Wo} (h0 : -1 ≤ u) (h1 : u < raw.length) (h2 : 1 ≤ ws.length) (h3 : (ws.length : Int) ≤ size) (hs : 0 ≤ size) :
    Raw0 size (raw ++ [(u, ws)]) (piles ++ [pileAt piles u ++ ws]) := by
  have pl := h.plen
  have at0 : ∀ {i : Nat} {x : Pc}, (raw ++ [(u, ws)])[i]? = some x → (raw[i]? = some x ∧ i < raw.length) ∨ (i = raw.length ∧ x = (u, ws)) := by
    intro i x e
    by_cases c : i < raw.length
    · rw [List.getElem?_append_left c] at e
      exact .inl ⟨e, c⟩
    · rw [List.getElem?_append_right (by omega)] at e
      have z : i - raw.length = 0 := by
        cases q : i - raw.length with
        | zero => rfl
        | succ k =>
          rw [q] at e
          simp at e
      rw [z] at e
      exact .inr ⟨by omega, (Option.some.inj e).symm⟩
  refine ⟨by rw [List.length_append, List.length_append, pl]; rfl, fun i x e => ?_, fun i x e => ?_, fun i zs e => ?_⟩
  · rcases at0 e with ⟨e, _⟩ | ⟨rfl, rfl⟩
    · exact h.pc i x e
    · exact ⟨h0, h1, h2, h3⟩
  · rcases at0 e with ⟨e, c⟩ | ⟨rfl, rfl⟩
    · have q := h.pc i x e
      rw [List.getElem?_append_left (by omega), pileAt_snoc _ (by omega)]
      exact h.pile i x e
    · rw [← pl, List.getElem?_append_right (Nat.le_refl _), Nat.sub_self, pileAt_snoc _ (by omega)]
      rfl
  · by_cases c : i < piles.length
    · rw [List.getElem?_append_left c] at e
      exact h.hi i zs e
    · rw [List.getElem?_append_right (by omega)] at e
      have z : i - piles.length = 0 := by
        cases q : i - piles.length with
        | zero => rfl
        | succ k =>
          rw [q] at e
          simp at e
      rw [z] at e
      have e := Option.some.inj e
      subst e
      rw [List.length_append]
      have ei : i = piles.length := by omega
      have key : ((pileAt piles u).length : Int) ≤ size * i := by
        unfold pileAt
        by_cases c0 : 0 ≤ u
        · rw [if_pos c0, List.getD_eq_getElem?_getD]
          have lt : u.toNat < piles.length := by omega
          rw [List.getElem?_eq_getElem lt]
          have q := h.hi u.toNat _ (List.getElem?_eq_getElem lt)
          refine Int.le_trans q ?_
          exact Int.mul_le_mul_of_nonneg_left (by omega) hs
        · rw [if_neg c0]
          have := Int.mul_nonneg hs (show (0 : Int) ≤ i by omega)
          simpa using this
      have e3 : size * ((i : Int) + 1) = size * i + size := by rw [Int.mul_add, Int.mul_one]
      rw [e3]
      omega
theorem wos_del {ns : List Addr} {H : Hp} {xs : List V} {ws : List Wo} (h : Wos H xs ws) (k : ∀ a ∈ ns, ∃ ys, H a = some (.lst ys)) : Wos (del ns H) xs ws :=
  Paired.mapP h fun v w ⟨a, e, q, o⟩ => ⟨a, e, del_at q (fun m => by
    obtain ⟨ys, z⟩ := k a m
    rw [q] at z
    exact absurd z (by simp)), o⟩
theorem BagAt.lst {H : Hp} {p : Addr} {n : Nat} (h : BagAt H p n) : ∃ ys, H p = some (.lst ys) := by
  obtain ⟨a, b, c, e, _⟩ := h
  exact ⟨_, e⟩
end G

namespace G
open PySem L2
/-! ### data that can be laid, no deeper than n -/
def Ok (n : Nat) (d : PyData) : Prop := PyData.canLay0 d = true ∧ d.depth ≤ n
theorem Ok.int {n : Nat} (i : Int) : Ok n (.int i) := ⟨rfl, by simp [PyData.depth]⟩
theorem Ok.str {n : Nat} {s : Str} (h : PyData.strOk s = true) : Ok n (.str s) := ⟨by simp [PyData.canLay0, h], by simp [PyData.depth]⟩
def OkAll (n : Nat) (ds : List PyData) : Prop := PyData.canLayAll0 ds = true ∧ PyData.depthAll ds ≤ n
theorem OkAll.nil {n : Nat} : OkAll n [] := ⟨by simp [PyData.canLayAll0], by simp [PyData.depthAll]⟩
theorem OkAll.cons {n : Nat} {d : PyData} {ds : List PyData} (h : Ok n d) (g : OkAll n ds) : OkAll n (d :: ds) := ⟨by simp [PyData.canLayAll0, h.1, g.1], by
  have := h.2
  have := g.2
  simp only [PyData.depthAll]
  omega⟩
theorem OkAll.map {α : Type} {n : Nat} {f : α → PyData} : ∀ {l : List α}, (∀ x ∈ l, Ok n (f x)) → OkAll n (l.map f)
  | [], _ => .nil
  | _ :: _, h => .cons (h _ List.mem_cons_self) (OkAll.map fun y m => h y (List.mem_cons_of_mem _ m))
theorem Ok.list {n : Nat} {ds : List PyData} (h : OkAll n ds) : Ok (n + 1) (.list ds) := ⟨by simp [PyData.canLay0, h.1], by
  have := h.2
  simp only [PyData.depth]
  omega⟩
theorem Ok.tuple {n : Nat} {ds : List PyData} (h : OkAll n ds) : Ok (n + 1) (.tuple ds) := ⟨by simp [PyData.canLay0, h.1], by
  have := h.2
  simp only [PyData.depth]
  omega⟩
theorem Ok.shaped {n : Nat} {d : PyData} (h : Ok n d) (l : n ≤ 64) : SeqAt.shaped d = true := by
  unfold SeqAt.shaped
  rw [h.1, Bool.true_and]
  exact decide_eq_true (Nat.le_trans h.2 l)
theorem Ok.refl {n : Nat} {d : PyData} (h : Ok n d) : PyData.eqv d d = true := PySem.SeqAt.eqv_refl d h.1
theorem ok_wd {w : Wo} (h : PyData.strOk w.1 = true) : Ok 1 (wd w) := .tuple (.cons (.str h) (.cons (.int _) .nil))
/-- two readings of the same data -/
theorem r_neSelf {K : PySem.W.Frag} {H : Hp} {Q : VK} {x y : V} {d : PyData} {n : Nat} (h1 : Dp K H x d) (h2 : Dp K H y d) (o : Ok n d) (l : n ≤ 64) (q : Q (.bl false) H) : rNeD K x y H Q :=
  ⟨d, d, h1, h2, o.shaped l, o.shaped l, by rw [o.refl]; exact q⟩
theorem r_eqSelf {K : PySem.W.Frag} {H : Hp} {Q : VK} {x y : V} {d : PyData} {n : Nat} (h1 : Dp K H x d) (h2 : Dp K H y d) (o : Ok n d) (l : n ≤ 64) (q : Q (.bl true) H) : rEqD K x y H Q :=
  ⟨d, d, h1, h2, o.shaped l, o.shaped l, by rw [o.refl]; exact q⟩
end G

namespace G
open PySem L2
/-! ### pieces numbered as they are come to -/
def under (raw : List Pc) (a : Int) : Int := (raw.getD a.toNat (-1, [])).1
def worthsOf (raw : List Pc) (a : Int) : List Wo := (raw.getD a.toNat (-1, [])).2
/-- each piece lies on an earlier one, or on nothing -/
def Low (raw : List Pc) : Prop := ∀ (i : Nat) (x : Pc), raw[i]? = some x → -1 ≤ x.1 ∧ x.1 < i
theorem Low.under {raw : List Pc} (h : Low raw) {a : Int} (h0 : 0 ≤ a) (h1 : a < raw.length) : -1 ≤ under raw a ∧ under raw a < a := by
  have lt : a.toNat < raw.length := by omega
  have q := h a.toNat _ (List.getElem?_eq_getElem lt)
  unfold G.under
  rw [List.getD_eq_getElem?_getD, List.getElem?_eq_getElem lt]
  have : ((a.toNat : Nat) : Int) = a := by omega
  rw [this] at q
  exact q
theorem pc_at {raw : List Pc} {a : Int} (h0 : 0 ≤ a) (h1 : a < raw.length) : raw[a.toNat]? = some (under raw a, worthsOf raw a) := by
  have lt : a.toNat < raw.length := by omega
  unfold under worthsOf
  rw [List.getD_eq_getElem?_getD, List.getElem?_eq_getElem lt]
  rfl
def visit (raw : List Pc) : Nat → List Int → Int → List Int
  | 0, ord, _ => ord
  | f + 1, ord, a => if a = -1 ∨ a ∈ ord then ord else visit raw f (ord ++ [a]) (under raw a)
def vis (raw : List Pc) (ord : List Int) (a : Int) : List Int := visit raw (a + 1).toNat ord a
theorem visit_more {raw : List Pc} (h : Low raw) : ∀ (n f : Nat) (ord : List Int) (a : Int), (a + 1).toNat = n → n ≤ f → -1 ≤ a → a < raw.length → visit raw f ord a = visit raw n ord a := by
  intro n
  induction n using Nat.strongRecOn with
  | _ n ih =>
    intro f ord a e hf h0 h1
    cases n with
    | zero =>
      have ea : a = -1 := by omega
      cases f with
      | zero => rfl
      | succ f =>
        show (if a = -1 ∨ a ∈ ord then ord else _) = ord
        rw [if_pos (.inl ea)]
    | succ n =>
      cases f with
      | zero => omega
      | succ f =>
        show (if a = -1 ∨ a ∈ ord then ord else visit raw f (ord ++ [a]) (under raw a)) = (if a = -1 ∨ a ∈ ord then ord else visit raw n (ord ++ [a]) (under raw a))
        by_cases c : a = -1 ∨ a ∈ ord
        · rw [if_pos c, if_pos c]
        · rw [if_neg c, if_neg c]
          have u := h.under (a := a) (by omega) h1
          have e1 := ih (under raw a + 1).toNat (by omega) f (ord ++ [a]) (under raw a) rfl (by omega) u.1 (by omega)
          have e2 := ih (under raw a + 1).toNat (by omega) n (ord ++ [a]) (under raw a) rfl (by omega) u.1 (by omega)
          rw [e1, e2]
theorem vis_stop {raw : List Pc} {ord : List Int} {a : Int} (c : a = -1 ∨ a ∈ ord) : vis raw ord a = ord := by
  unfold vis
  cases (a + 1).toNat with
  | zero => rfl
  | succ f =>
    show (if a = -1 ∨ a ∈ ord then ord else _) = ord
    rw [if_pos c]
theorem vis_step {raw : List Pc} (h : Low raw) {ord : List Int} {a : Int} (h0 : 0 ≤ a) (h1 : a < raw.length) (n : ¬ a ∈ ord) : vis raw ord a = vis raw (ord ++ [a]) (under raw a) := by
  have u := h.under h0 h1
  unfold vis
  obtain ⟨f, e⟩ : ∃ f, (a + 1).toNat = f + 1 := ⟨a.toNat, by omega⟩
  rw [e]
  show (if a = -1 ∨ a ∈ ord then ord else visit raw f (ord ++ [a]) (under raw a)) = _
  rw [if_neg (by simp [n]; omega)]
  exact visit_more h _ f _ _ rfl (by omega) u.1 (by omega)
def order (raw : List Pc) (tops : List Int) : List Int := tops.foldl (vis raw) []
/-- what is true of the numbers so far -/
structure Ord (raw : List Pc) (ord : List Int) : Prop where
  nd : ord.Nodup
  rng : ∀ a ∈ ord, 0 ≤ a ∧ a < (raw.length : Int)
theorem Ord.snoc {raw : List Pc} {ord : List Int} (o : Ord raw ord) {a : Int} (h0 : 0 ≤ a) (h1 : a < raw.length) (n : ¬ a ∈ ord) : Ord raw (ord ++ [a]) :=
  ⟨L2.nd_snoc o.nd n, fun b m => by
    rcases List.mem_append.mp m with m | m
    · exact o.rng b m
    · rw [List.mem_singleton.mp m]
      exact ⟨h0, h1⟩⟩
/-- by the walk down from a -/
theorem vis_ind {raw : List Pc} (h : Low raw) {P : List Int → Int → Prop} {R : List Int → Prop} (stop : ∀ ord a, P ord a → (a = -1 ∨ a ∈ ord) → R ord)
    (step : ∀ ord a, P ord a → 0 ≤ a → a < raw.length → ¬ a ∈ ord → P (ord ++ [a]) (under raw a)) : ∀ (n : Nat) (ord : List Int) (a : Int), (a + 1).toNat = n → -1 ≤ a → a < raw.length → P ord a → R (vis raw ord a) := by
  intro n
  induction n using Nat.strongRecOn with
  | _ n ih =>
    intro ord a e h0 h1 p
    by_cases c : a = -1 ∨ a ∈ ord
    · rw [vis_stop c]
      exact stop ord a p c
    · have n1 : a ≠ -1 := fun e => c (.inl e)
      have n2 : ¬ a ∈ ord := fun e => c (.inr e)
      have u := h.under (a := a) (by omega) h1
      rw [vis_step h (by omega) h1 n2]
      exact ih _ (by omega) _ _ rfl u.1 (by omega) (step ord a p (by omega) h1 n2)
theorem nodup_len : ∀ (n : Nat) (l : List Int), l.Nodup → (∀ a ∈ l, 0 ≤ a ∧ a < (n : Int)) → l.length ≤ n
  | 0, l, _, h => by
    cases l with
    | nil => exact Nat.le_refl 0
    | cons a r =>
      have := h a List.mem_cons_self
      omega
  | n + 1, l, d, h => by
    have ih := nodup_len n (l.erase (n : Int)) (d.erase _) fun a m => by
      have q := h a (List.mem_of_mem_erase m)
      have : a ≠ n := fun e => d.not_mem_erase (e ▸ m)
      omega
    rw [List.length_erase] at ih
    by_cases m : (n : Int) ∈ l
    · rw [if_pos m] at ih
      omega
    · rw [if_neg m] at ih
      omega
theorem Ord.len {raw : List Pc} {ord : List Int} (o : Ord raw ord) : ord.length ≤ raw.length := nodup_len _ _ o.nd o.rng
theorem vis_ord {raw : List Pc} (h : Low raw) {ord : List Int} {a : Int} (o : Ord raw ord) (h0 : -1 ≤ a) (h1 : a < raw.length) : Ord raw (vis raw ord a) :=
  vis_ind h (P := fun ord _ => Ord raw ord) (R := Ord raw) (fun _ _ p _ => p) (fun _ _ p a b c => p.snoc a b c) _ ord a rfl h0 h1 o
theorem vis_pre {raw : List Pc} (h : Low raw) {ord : List Int} {a : Int} (h0 : -1 ≤ a) (h1 : a < raw.length) : ∃ more, vis raw ord a = ord ++ more :=
  vis_ind h (P := fun o _ => ∃ m, o = ord ++ m) (R := fun o => ∃ m, o = ord ++ m) (fun _ _ p _ => p) (fun o b ⟨m, e⟩ _ _ _ => ⟨m ++ [b], by rw [e, List.append_assoc]⟩) _ ord a rfl h0 h1 ⟨[], by simp⟩
theorem vis_mem {raw : List Pc} (h : Low raw) {ord : List Int} {a : Int} (h0 : -1 ≤ a) (h1 : a < raw.length) : a = -1 ∨ a ∈ vis raw ord a := by
  by_cases c : a = -1 ∨ a ∈ ord
  · rw [vis_stop c]
    exact c
  · have n1 : a ≠ -1 := fun e => c (.inl e)
    have n2 : ¬ a ∈ ord := fun e => c (.inr e)
    have u := h.under (a := a) (by omega) h1
    rw [vis_step h (by omega) h1 n2]
    obtain ⟨m, e⟩ := vis_pre h (ord := ord ++ [a]) u.1 (by omega)
    right
    rw [e]
    simp
/-- what a numbered piece lies on is numbered -/
def Clo (raw : List Pc) (ord : List Int) : Prop := ∀ b ∈ ord, under raw b = -1 ∨ under raw b ∈ ord
theorem vis_clo {raw : List Pc} (h : Low raw) {ord : List Int} {a : Int} (c : Clo raw ord) (h0 : -1 ≤ a) (h1 : a < raw.length) : Clo raw (vis raw ord a) := by
  refine vis_ind h (P := fun o a => ∀ b ∈ o, under raw b = -1 ∨ under raw b ∈ o ∨ under raw b = a) (R := Clo raw) (fun o a p s b m => ?_) (fun o a p _ _ _ b m => ?_) _ ord a rfl h0 h1 (fun b m => (c b m).elim .inl fun z => .inr (.inl z))
  · rcases p b m with e | e | e
    · exact .inl e
    · exact .inr e
    · rw [e]
      exact s
  · rcases List.mem_append.mp m with m | m
    · rcases p b m with e | e | e
      · exact .inl e
      · exact .inr (.inl (List.mem_append_left _ e))
      · exact .inr (.inl (by rw [e]; simp))
    · rw [List.mem_singleton.mp m]
      exact .inr (.inr rfl)
/-- the whole numbering -/
theorem order_ok {raw : List Pc} (h : Low raw) {tops : List Int} (ht : ∀ t ∈ tops, -1 ≤ t ∧ t < (raw.length : Int)) : Ord raw (order raw tops) ∧ Clo raw (order raw tops) ∧ ∀ t ∈ tops, t = -1 ∨ t ∈ order raw tops := by
  have key : ∀ (l : List Int) (o : List Int), (∀ t ∈ l, -1 ≤ t ∧ t < (raw.length : Int)) → Ord raw o → Clo raw o → Ord raw (l.foldl (vis raw) o) ∧ Clo raw (l.foldl (vis raw) o) ∧ (∀ b ∈ o, b ∈ l.foldl (vis raw) o) ∧ ∀ t ∈ l, t = -1 ∨ t ∈ l.foldl (vis raw) o := by
    intro l
    induction l with
    | nil => intro o _ a b; exact ⟨a, b, fun _ m => m, fun _ m => by cases m⟩
    | cons x r ih =>
      intro o hl a b
      have hx := hl x List.mem_cons_self
      obtain ⟨m, em⟩ := vis_pre h (ord := o) hx.1 hx.2
      obtain ⟨q1, q2, q3, q4⟩ := ih (vis raw o x) (fun t mt => hl t (List.mem_cons_of_mem _ mt)) (vis_ord h a hx.1 hx.2) (vis_clo h b hx.1 hx.2)
      refine ⟨q1, q2, fun b mb => q3 b (by rw [em]; exact List.mem_append_left _ mb), fun t mt => ?_⟩
      rcases List.mem_cons.mp mt with e | mt
      · subst e
        exact (vis_mem h hx.1 hx.2).elim .inl fun z => .inr (q3 _ z)
      · exact q4 t mt
  obtain ⟨a, b, _, d⟩ := key tops [] ht ⟨List.nodup_nil, fun _ m => by cases m⟩ fun _ m => by cases m
  exact ⟨a, b, d⟩
def place (ord : List Int) (a : Int) : Int := if a = -1 then -1 else (ord.idxOf a : Int)
def paperPcs (raw : List Pc) (ord : List Int) : List Pc := ord.map fun a => (place ord (under raw a), worthsOf raw a)
def paperTops (ord : List Int) (tops : List Int) : List Int := tops.map (place ord)
/-! the dict of the places -/
def pd (ord : List Int) : List (Key × V) := (.inl (-1), .int (-1)) :: ord.zipIdx.map fun p => (.inl p.1, .int (p.2 : Int))
theorem pd_len (ord : List Int) : (pd ord).length = ord.length + 1 := by
  unfold pd
  simp
theorem valV_zip (a : Int) : ∀ (ord : List Int) (k : Nat), valV ((ord.zipIdx k).map fun p => ((.inl p.1 : Key), V.int (p.2 : Int))) (.inl a) = if a ∈ ord then some (.int ((k + ord.idxOf a : Nat) : Int)) else none
  | [], _ => by simp [valV]
  | b :: r, k => by
    rw [List.zipIdx_cons, List.map_cons]
    by_cases e : b = a
    · rw [valV_pos (by rw [e])]
      subst e
      simp
    · rw [valV_neg (fun q => e (Sum.inl.inj q)), valV_zip a r (k + 1)]
      by_cases m : a ∈ r
      · rw [if_pos m, if_pos (List.mem_cons_of_mem _ m), List.idxOf_cons]
        have : (b == a) = false := beq_eq_false_iff_ne.mpr e
        rw [this]
        show some (V.int ((k + 1 + r.idxOf a : Nat) : Int)) = some (V.int ((k + (r.idxOf a + 1) : Nat) : Int))
        rw [Nat.add_assoc, Nat.add_comm 1]
      · rw [if_neg m, if_neg (fun q => (List.mem_cons.mp q).elim (fun z => e z.symm) m)]
theorem pd_val (ord : List Int) (a : Int) : valV (pd ord) (.inl a) = if a = -1 ∨ a ∈ ord then some (.int (place ord a)) else none := by
  unfold pd place
  by_cases e : a = -1
  · rw [valV_pos (by rw [e]), if_pos (.inl e), if_pos e]
  · rw [valV_neg (fun q => e (Sum.inl.inj q).symm), valV_zip, if_neg e]
    by_cases m : a ∈ ord
    · rw [if_pos m, if_pos (.inr m), Nat.zero_add]
    · rw [if_neg m, if_neg (by simp [e, m])]
theorem pd_put {ord : List Int} {a : Int} (h : ¬ (a = -1 ∨ a ∈ ord)) : putK (pd ord) (.inl a) (.int (ord.length : Int)) = pd (ord ++ [a]) := by
  have e := pd_val ord a
  rw [if_neg h] at e
  rw [putK_new _ e]
  unfold pd
  rw [List.zipIdx_append, List.map_append]
  simp
/-! walking a paper down -/
inductive Down (pcs : List Pc) : Int → List Int → Prop
  | nil : Down pcs (-1) []
  | cons {j : Nat} {x : Pc} {js : List Int} (h : pcs[j]? = some x) (w : Down pcs x.1 js) : Down pcs (j : Int) ((j : Int) :: js)
def layers (pcs : List Pc) (js : List Int) : List Wo := (js.reverse.map (worthsOf pcs)).flatten
theorem layers_cons (pcs : List Pc) (j : Int) (js : List Int) : layers pcs (j :: js) = layers pcs js ++ worthsOf pcs j := by
  unfold layers
  rw [List.reverse_cons, List.map_append, List.flatten_append]
  simp
theorem idx_get {ord : List Int} {a : Int} (m : a ∈ ord) : ord[ord.idxOf a]? = some a := by
  rw [List.getElem?_eq_getElem (List.idxOf_lt_length_of_mem m)]
  exact congrArg some (List.getElem_idxOf (List.idxOf_lt_length_of_mem m))
theorem paper_at {raw : List Pc} {ord : List Int} {a : Int} (m : a ∈ ord) : (paperPcs raw ord)[ord.idxOf a]? = some (place ord (under raw a), worthsOf raw a) := by
  unfold paperPcs
  rw [List.getElem?_map, idx_get m]
  rfl
/-- the numbered paper lays open what the pieces do -/
theorem paper_walk {size : Int} {most : Nat} {raw : List Pc} {piles : List (List Wo)} {tops : List Int} (R : Raw size most raw piles tops) {ord : List Int} (c : Clo raw ord) (o : Ord raw ord) : ∀ (n : Nat) (a : Int), (a + 1).toNat = n → (a = -1 ∨ a ∈ ord) →
    ∃ js, Down (paperPcs raw ord) (place ord a) js ∧ layers (paperPcs raw ord) js = pileAt piles a ∧ js.length ≤ n := by
  have low : Low raw := fun i x e => ⟨(R.pc i x e).1, (R.pc i x e).2.1⟩
  intro n
  induction n using Nat.strongRecOn with
  | _ n ih =>
    intro a e h
    by_cases c1 : a = -1
    · subst c1
      refine ⟨[], ?_, ?_, Nat.zero_le _⟩
      · unfold place
        rw [if_pos rfl]
        exact .nil
      · show layers _ [] = pileAt piles (-1)
        unfold layers pileAt
        rw [if_neg (by decide)]
        rfl
    · have m := h.resolve_left c1
      have r := o.rng a m
      have u := low.under r.1 r.2
      obtain ⟨js, w, l, lj⟩ := ih (under raw a + 1).toNat (by omega) (under raw a) rfl (c a m)
      have pe := R.pile a.toNat _ (pc_at r.1 r.2)
      have epa : pileAt piles a = pileAt piles (under raw a) ++ worthsOf raw a := by
        have : pileAt piles a = piles.getD a.toNat [] := by
          unfold pileAt
          rw [if_pos r.1]
        rw [this, List.getD_eq_getElem?_getD, pe]
        rfl
      refine ⟨(ord.idxOf a : Int) :: js, ?_, ?_, by rw [List.length_cons]; omega⟩
      · have : place ord a = (ord.idxOf a : Int) := by
          unfold place
          rw [if_neg c1]
        rw [this]
        exact .cons (paper_at m) w
      · rw [layers_cons, l, epa]
        congr 1
        show ((paperPcs raw ord).getD (ord.idxOf a : Int).toNat (-1, [])).2 = _
        rw [List.getD_eq_getElem?_getD, Int.toNat_natCast, paper_at m]
        rfl
theorem pile_len {size : Int} {most : Nat} {raw : List Pc} {piles : List (List Wo)} {tops : List Int} (R : Raw size most raw piles tops) (hs : size ≤ 64) : ∀ (n : Nat) (a : Int), (a + 1).toNat = n → a < raw.length → (pileAt piles a).length ≤ 64 * n := by
  intro n
  induction n using Nat.strongRecOn with
  | _ n ih =>
    intro a e h
    by_cases c : 0 ≤ a
    · have low : Low raw := fun i x e => ⟨(R.pc i x e).1, (R.pc i x e).2.1⟩
      have u := low.under c h
      have pe := R.pile a.toNat _ (pc_at c h)
      have pc := R.pc a.toNat _ (pc_at c h)
      have epa : pileAt piles a = pileAt piles (under raw a) ++ worthsOf raw a := by
        have : pileAt piles a = piles.getD a.toNat [] := by
          unfold pileAt
          rw [if_pos c]
        rw [this, List.getD_eq_getElem?_getD, pe]
        rfl
      have q := ih (under raw a + 1).toNat (by omega) (under raw a) rfl (by omega)
      rw [epa, List.length_append]
      have := pc.2.2.2
      have e2 : (under raw a + 1).toNat ≤ n - 1 := by omega
      have : 64 * (under raw a + 1).toNat ≤ 64 * (n - 1) := Nat.mul_le_mul_left _ e2
      have : (worthsOf raw a).length ≤ 64 := by
        have := pc.2.2.2
        dsimp only at this
        omega
      omega
    · unfold pileAt
      rw [if_neg c]
      exact Nat.zero_le _
theorem Down.mem {pcs : List Pc} {a : Int} {js : List Int} (w : Down pcs a js) : ∀ j ∈ js, 0 ≤ j ∧ ∃ u, pcs[j.toNat]? = some (u, worthsOf pcs j) := by
  induction w with
  | nil => intro j m; cases m
  | @cons j x js h w ih =>
    intro i m
    rcases List.mem_cons.mp m with e | m
    · subst e
      refine ⟨by omega, x.1, ?_⟩
      unfold worthsOf
      rw [List.getD_eq_getElem?_getD, Int.toNat_natCast, h]
      rfl
    · exact ih i m
theorem layers_le {pcs : List Pc} {js done rest : List Int} (e : js.reverse = done ++ rest) : ((done.map (worthsOf pcs)).flatten).length ≤ (layers pcs js).length := by
  unfold layers
  rw [e, List.map_append, List.flatten_append, List.length_append]
  omega
/-! papers told as data -/
def pcd (p : Pc) : PyData := .tuple [.int p.1, .list (p.2.map wd)]
def paperd (pcs : List Pc) (tops : List Int) : PyData := .tuple [.list (pcs.map pcd), .list (tops.map PyData.int)]
section
variable {K : PySem.W.Frag} {H : Hp}
theorem PcAt.dp {v : V} {p : Pc} (h : PcAt H v p) : Dp K H v (pcd p) := by
  obtain ⟨t, l, rfl, e, h⟩ := h
  exact .tup (.inl (.inl e)) (.cons (.int _) (.cons h.dp .nil))
theorem pcs_dp : ∀ {xs : List V} {ps : List Pc}, Paired (PcAt H) xs ps → DpAll K H xs (ps.map pcd)
  | _, _, .nil => .nil
  | _, _, .cons a b => .cons a.dp (pcs_dp b)
theorem ints_dp : ∀ ns : List Int, DpAll K H (ns.map V.int) (ns.map PyData.int)
  | [] => .nil
  | _ :: r => .cons (.int _) (ints_dp r)
theorem PaperAt.dp {v : V} {pcs : List Pc} {tops : List Int} (h : PaperAt H v pcs tops) : Dp K H v (paperd pcs tops) := by
  obtain ⟨t, a, b, rfl, e, ⟨xs, ea, wa⟩, eb⟩ := h
  exact .tup (.inl (.inl e)) (.cons (.lst (.inl (.inl ea)) (pcs_dp wa)) (.cons (.lst (.inl (.inl eb)) (ints_dp _)) .nil))
theorem pcs_ok : ∀ {xs : List V} {ps : List Pc}, Paired (PcAt H) xs ps → ∀ p ∈ ps, Ok 3 (pcd p)
  | _, _, .nil, p, m => by cases m
  | _, _, .cons a b, p, m => by
    rcases List.mem_cons.mp m with e | m
    · subst e
      obtain ⟨t, l, rfl, e, xs, el, h⟩ := a
      exact .tuple (.cons (.int _) (.cons (.list (.map fun w m => ok_wd (h.ok w m))) .nil))
    · exact pcs_ok b p m
theorem PaperAt.ok {v : V} {pcs : List Pc} {tops : List Int} (h : PaperAt H v pcs tops) : Ok 5 (paperd pcs tops) := by
  obtain ⟨t, a, b, rfl, e, ⟨xs, ea, wa⟩, eb⟩ := h
  exact .tuple (.cons (.list (.map (pcs_ok wa))) (.cons (.list (.map fun i _ => .int i)) .nil))
end
end G

namespace G
open PySem L2
/-! ### how many hold each piece -/
def bump1 (xs : List Int) (a : Int) : List Int := if 0 ≤ a then xs.set a.toNat (xs.getD a.toNat 0 + 1) else xs
theorem bump_len (xs : List Int) (a : Int) : (bump1 xs a).length = xs.length := by
  unfold bump1
  split
  · exact List.length_set
  · rfl
theorem bumps_len : ∀ (l : List Int) (xs : List Int), (l.foldl bump1 xs).length = xs.length
  | [], _ => rfl
  | a :: r, xs => by rw [List.foldl_cons, bumps_len r, bump_len]
def zeros (n : Nat) : List Int := List.replicate n 0
def holds (pcs : List Pc) (tops : List Int) : List Int := (pcs.map (·.1) ++ tops).foldl bump1 (zeros pcs.length)
theorem holds_len (pcs : List Pc) (tops : List Int) : (holds pcs tops).length = pcs.length := by
  unfold holds
  rw [bumps_len]
  exact List.length_replicate
def keptOf (pcs : List Pc) : Int := (pcs.map fun p => (p.2.length : Int)).sum
/-- each number is a piece's, or -1 -/
def In (n : Nat) (l : List Int) : Prop := ∀ a ∈ l, -1 ≤ a ∧ a < (n : Int)
theorem place_in {raw : List Pc} {ord : List Int} {a : Int} (h : a = -1 ∨ a ∈ ord) : -1 ≤ place ord a ∧ place ord a < (ord.length : Int) := by
  unfold place
  by_cases e : a = -1
  · rw [if_pos e]
    omega
  · rw [if_neg e]
    have := List.idxOf_lt_length_of_mem (h.resolve_left e)
    omega
theorem paper_in {raw : List Pc} {ord tops : List Int} (c : Clo raw ord) (t : ∀ x ∈ tops, x = -1 ∨ x ∈ ord) :
    In (paperPcs raw ord).length ((paperPcs raw ord).map (·.1)) ∧ In (paperPcs raw ord).length (paperTops ord tops) := by
  have e : (paperPcs raw ord).length = ord.length := by
    unfold paperPcs
    exact List.length_map ..
  constructor
  · intro a m
    rw [e]
    obtain ⟨p, mp, rfl⟩ := List.mem_map.mp m
    obtain ⟨b, mb, rfl⟩ := List.mem_map.mp mp
    exact place_in (raw := raw) (c b mb)
  · intro a m
    rw [e]
    obtain ⟨b, mb, rfl⟩ := List.mem_map.mp m
    exact place_in (raw := raw) (t b mb)
theorem paper_len {raw : List Pc} {ord : List Int} : (paperPcs raw ord).length = ord.length := by
  unfold paperPcs
  exact List.length_map ..
theorem tops_len {ord tops : List Int} : (paperTops ord tops).length = tops.length := by
  unfold paperTops
  exact List.length_map ..
theorem take_fold {β : Type} (f : β → Int → β) (b : β) {l : List Int} {i : Nat} {a : Int} (e : l[i]? = some a) : (l.take (i + 1)).foldl f b = f ((l.take i).foldl f b) a := by
  rw [List.take_add_one, e, List.foldl_append]
  rfl
theorem ixN_in {n : Nat} {k : Int} (h0 : 0 ≤ k) (h1 : k < n) : ixN n k = some k.toNat := by
  unfold ixN
  rw [if_pos h0, if_pos h1]
theorem bump_at {xs : List Int} {a : Int} (h : a < xs.length) (h0 : 0 ≤ a) : (xs.map V.int)[a.toNat]? = some (.int (xs.getD a.toNat 0)) ∧ (xs.map V.int).set a.toNat (.int (xs.getD a.toNat 0 + 1)) = (bump1 xs a).map V.int := by
  have lt : a.toNat < xs.length := by omega
  constructor
  · rw [List.getElem?_map, List.getD_eq_getElem?_getD, List.getElem?_eq_getElem lt]
    rfl
  · unfold bump1
    rw [if_pos h0, List.map_set]
end G

namespace G
open PySem L2
/-! ### papers whose pieces stand as they are come to: two ways to tell -/
def okP (size : Int) (n : Nat) (p : Pc) : Bool := decide (-1 ≤ p.1) && decide (p.1 < (n : Int)) && decide (1 ≤ p.2.length) && decide ((p.2.length : Int) ≤ size)
def okT (n : Nat) (t : Int) : Bool := decide (-1 ≤ t) && decide (t < (n : Int))
/-- numbered on from a -/
def goOn (pcs : List Pc) (k : Int) : Nat → List Int → Int → Option (List Int × Int)
  | 0, _, _ => none
  | f + 1, cs, a => if a = -1 ∨ (0 ≤ a ∧ a < (cs.length : Int)) then some (cs, a) else if a = (cs.length : Int) then goOn pcs k f (cs ++ [k]) (under pcs a) else none
def oneTop (pcs : List Pc) (k : Int) (cs : List Int) (t : Int) : Option (List Int) :=
  (goOn pcs k (pcs.length + 1 - cs.length) cs t).bind fun r => if r.2 ≠ -1 ∧ r.1.getD r.2.toNat 0 = k then none else some r.1
def comeTo (pcs : List Pc) : List Int → Nat → List Int → Option (List Int)
  | [], _, cs => some cs
  | t :: r, k, cs => (oneTop pcs k cs t).bind (comeTo pcs r (k + 1))
def isCome (pcs : List Pc) (tops : List Int) : Bool := (comeTo pcs tops 0 []).any fun cs => decide (cs.length = pcs.length)
def isPaper (size : Int) (pcs : List Pc) (tops : List Int) : Bool := pcs.all (okP size pcs.length) && (tops.all (okT pcs.length) && isCome pcs tops)
/-- down to the end -/
def chain (pcs : List Pc) : Nat → Int → Option (List Int)
  | 0, a => if a = -1 then some [] else none
  | f + 1, a => if a = -1 then some [] else (chain pcs f (under pcs a)).map (a :: ·)
def first1 (os : List Int) (a : Int) : List Int := if a ∈ os then os else os ++ [a]
def firsts (os : List Int) (l : List Int) : List Int := l.foldl first1 os
def rightTo (pcs : List Pc) : List Int → List Int → Option (List Int)
  | [], os => some os
  | t :: r, os => if okT pcs.length t then (chain pcs pcs.length t).bind fun l => rightTo pcs r (firsts os l) else none
def idn (c : Nat) : List Int := (List.range c).map Int.ofNat
def isRight (size : Int) (pcs : List Pc) (tops : List Int) : Bool := pcs.all (okP size pcs.length) && (rightTo pcs tops []).any fun os => decide (os = idn pcs.length)
theorem idn_len (c : Nat) : (idn c).length = c := by simp [idn]
theorem idn_succ (c : Nat) : idn (c + 1) = idn c ++ [(c : Int)] := by
  unfold idn
  rw [List.range_succ, List.map_append]
  rfl
theorem mem_idn {c : Nat} {a : Int} : a ∈ idn c ↔ 0 ≤ a ∧ a < (c : Int) := by
  unfold idn
  rw [List.mem_map]
  constructor
  · rintro ⟨i, h, rfl⟩
    have := List.mem_range.mp h
    simp
    omega
  · rintro ⟨h1, h2⟩
    exact ⟨a.toNat, List.mem_range.mpr (by omega), by simp; omega⟩
theorem idn_get {c i : Nat} (h : i < c) : (idn c)[i]? = some (i : Int) := by
  unfold idn
  rw [List.getElem?_map, List.getElem?_range h]
  rfl
theorem firsts_pre (l : List Int) : ∀ os, ∃ m, firsts os l = os ++ m := by
  induction l with
  | nil => intro os; exact ⟨[], by simp [firsts]⟩
  | cons a r ih =>
    intro os
    obtain ⟨m, e⟩ := ih (first1 os a)
    show ∃ m, firsts (first1 os a) r = os ++ m
    rw [e]
    unfold first1
    split
    · exact ⟨m, rfl⟩
    · exact ⟨a :: m, by rw [List.append_assoc]; rfl⟩
theorem right_pre {pcs : List Pc} : ∀ (ts os os' : List Int), rightTo pcs ts os = some os' → ∃ m, os' = os ++ m
  | [], os, os', h => ⟨[], by cases h; simp⟩
  | t :: r, os, os', h => by
    unfold rightTo at h
    by_cases c : okT pcs.length t = true
    · rw [if_pos c] at h
      cases e : chain pcs pcs.length t with
      | none => rw [e] at h; cases h
      | some l =>
        rw [e] at h
        obtain ⟨m, e1⟩ := right_pre r _ _ h
        obtain ⟨m2, e2⟩ := firsts_pre l os
        exact ⟨m2 ++ m, by rw [e1, e2, List.append_assoc]⟩
    · rw [if_neg c] at h
      cases h
/-- what has gone wrong stays wrong -/
theorem right_bad {pcs : List Pc} {ts os : List Int} {n j : Nat} {a : Int} (h : os[j]? = some a) (n1 : a ≠ (j : Int)) : (rightTo pcs ts os).any (fun os => decide (os = idn n)) = false := by
  cases e : rightTo pcs ts os with
  | none => rfl
  | some os' =>
    obtain ⟨m, rfl⟩ := right_pre _ _ _ e
    show decide (os ++ m = idn n) = false
    refine decide_eq_false fun z => ?_
    have g : (os ++ m)[j]? = some a := by
      rw [List.getElem?_append_left (List.getElem?_eq_some_iff.mp h).1]
      exact h
    rw [z] at g
    have lt : j < n := by
      have := (List.getElem?_eq_some_iff.mp g).1
      rwa [idn_len] at this
    rw [idn_get lt] at g
    exact n1 (Option.some.inj g).symm
theorem chain_more {pcs : List Pc} : ∀ (f : Nat) (a : Int) (l : List Int), chain pcs f a = some l → l.length ≤ f ∧ ∀ g, l.length ≤ g → chain pcs g a = some l
  | 0, a, l, h => by
    unfold chain at h
    by_cases c : a = -1
    · rw [if_pos c] at h
      cases h
      refine ⟨Nat.le_refl _, fun g _ => ?_⟩
      cases g <;> (unfold chain; rw [if_pos c])
    · rw [if_neg c] at h
      cases h
  | f + 1, a, l, h => by
    unfold chain at h
    by_cases c : a = -1
    · rw [if_pos c] at h
      cases h
      refine ⟨Nat.zero_le _, fun g _ => ?_⟩
      cases g <;> (unfold chain; rw [if_pos c])
    · rw [if_neg c] at h
      obtain ⟨r, hr, rfl⟩ := Option.map_eq_some_iff.mp h
      obtain ⟨h1, h2⟩ := chain_more f _ _ hr
      refine ⟨by rw [List.length_cons]; omega, fun g hg => ?_⟩
      rw [List.length_cons] at hg
      obtain ⟨g', rfl⟩ : ∃ g', g = g' + 1 := ⟨g - 1, by omega⟩
      unfold chain
      rw [if_neg c, h2 g' (by omega)]
      rfl
/-- what stood among the first c is closed -/
def Closed (pcs : List Pc) (c : Nat) : Prop := ∀ i : Int, 0 ≤ i → i < (c : Int) → ∃ l, chain pcs pcs.length i = some l ∧ l.length ≤ c ∧ ∀ x ∈ l, 0 ≤ x ∧ x < (c : Int)
theorem firsts_old {os : List Int} : ∀ (l : List Int), (∀ x ∈ l, x ∈ os) → firsts os l = os
  | [], _ => rfl
  | a :: r, h => by
    show firsts (first1 os a) r = os
    have : first1 os a = os := if_pos (h a List.mem_cons_self)
    rw [this]
    exact firsts_old r fun x m => h x (List.mem_cons_of_mem _ m)
theorem firsts_app (os l m : List Int) : firsts os (l ++ m) = firsts (firsts os l) m := List.foldl_append ..
/-- the numbers from c on, j of them -/
def upto (c j : Nat) : List Int := (List.range j).map fun i => ((c + i : Nat) : Int)
theorem upto_succ (c j : Nat) : upto c (j + 1) = upto c j ++ [((c + j : Nat) : Int)] := by
  unfold upto
  rw [List.range_succ, List.map_append]
  rfl
theorem firsts_upto (c : Nat) : ∀ j, firsts (idn c) (upto c j) = idn (c + j)
  | 0 => rfl
  | j + 1 => by
    rw [upto_succ, firsts_app, firsts_upto c j, ← Nat.add_assoc, idn_succ]
    show first1 (idn (c + j)) ((c + j : Nat) : Int) = _
    unfold first1
    rw [if_neg (fun m => by have := mem_idn.mp m; omega)]
theorem ring_none {pcs : List Pc} {c c' : Nat} (h : ∀ b : Int, (c : Int) ≤ b → b < (c' : Int) → (c : Int) ≤ under pcs b ∧ under pcs b < (c' : Int)) : ∀ (f : Nat) (b : Int), (c : Int) ≤ b → b < (c' : Int) → chain pcs f b = none
  | 0, b, h1, h2 => by
    unfold chain
    rw [if_neg (by omega)]
  | f + 1, b, h1, h2 => by
    unfold chain
    rw [if_neg (by omega), ring_none h f _ (h b h1 h2).1 (h b h1 h2).2]
    rfl
theorem upto_cons (c j : Nat) : upto c (j + 1) = (c : Int) :: upto (c + 1) j := by
  unfold upto
  rw [List.range_succ_eq_map, List.map_cons, List.map_map]
  congr 1
  refine List.map_congr_left fun i _ => ?_
  show ((c + (i + 1) : Nat) : Int) = ((c + 1 + i : Nat) : Int)
  omega
theorem mem_upto {c j : Nat} {x : Int} (h : x ∈ upto c j) : (c : Int) ≤ x ∧ x < ((c + j : Nat) : Int) := by
  obtain ⟨i, m, rfl⟩ := List.mem_map.mp h
  have := List.mem_range.mp m
  omega
theorem upto_len (c j : Nat) : (upto c j).length = j := by simp [upto]
/-- c, c + 1, .. up to the j-th, and then a -/
def Links (pcs : List Pc) (c j : Nat) (a : Int) : Prop := ∀ i, i < j → under pcs ((c + i : Nat) : Int) = if i + 1 = j then a else ((c + i + 1 : Nat) : Int)
theorem links_chain {pcs : List Pc} {c j : Nat} {a : Int} (L : Links pcs c j a) {rest : List Int} {g : Nat} (hr : chain pcs g a = some rest) : ∀ d, 1 ≤ d → d ≤ j → chain pcs (d + rest.length) ((c + (j - d) : Nat) : Int) = some (upto (c + (j - d)) d ++ rest)
  | 0, h, _ => by omega
  | d + 1, _, h => by
    have l := L (j - (d + 1)) (by omega)
    have ne : ((c + (j - (d + 1)) : Nat) : Int) ≠ -1 := by omega
    have e1 : d + 1 + rest.length = (d + rest.length) + 1 := by omega
    rw [e1]
    unfold chain
    rw [if_neg ne, l]
    by_cases c0 : d = 0
    · subst c0
      rw [if_pos (by omega), (chain_more _ _ _ hr).2 _ (by omega)]
      rfl
    · rw [if_neg (by omega)]
      have ih := links_chain L hr d (by omega) (by omega)
      have e2 : c + (j - (d + 1)) + 1 = c + (j - d) := by omega
      rw [e2, ih, upto_cons, e2]
      rfl
theorem getD_app_old {cs : List Int} {j : Nat} {k : Int} {i : Nat} (h : i < cs.length) : (cs ++ List.replicate j k).getD i 0 = cs.getD i 0 := by
  rw [List.getD_eq_getElem?_getD, List.getD_eq_getElem?_getD, List.getElem?_append_left h]
theorem getD_app_new {cs : List Int} {j : Nat} {k : Int} {i : Nat} (h : cs.length ≤ i) (h2 : i < cs.length + j) : (cs ++ List.replicate j k).getD i 0 = k := by
  rw [List.getD_eq_getElem?_getD, List.getElem?_append_right h, List.getElem?_replicate, if_pos (by omega)]
  rfl
theorem getD_mem {cs : List Int} {i : Nat} (h : i < cs.length) : cs.getD i 0 ∈ cs := by
  rw [List.getD_eq_getElem?_getD, List.getElem?_eq_getElem h]
  exact List.getElem_mem h
def endTop (k : Int) (r : List Int × Int) : Option (List Int) := if r.2 ≠ -1 ∧ r.1.getD r.2.toNat 0 = k then none else some r.1
/-- one top: both ways come on alike, or both say no -/
theorem top_step {pcs : List Pc} (hin : ∀ a : Int, 0 ≤ a → a < (pcs.length : Int) → -1 ≤ under pcs a ∧ under pcs a < (pcs.length : Int)) {c : Nat} (cl : Closed pcs c) {k : Int} {cs : List Int} (hc : cs.length = c) (hk : ∀ x ∈ cs, x < k) {t : Int} :
    ∀ (m j : Nat) (a : Int), pcs.length - (c + j) = m → c + j ≤ pcs.length → -1 ≤ a → a < (pcs.length : Int) →
      chain pcs pcs.length t = (chain pcs (pcs.length - j) a).map (upto c j ++ ·) → Links pcs c j a → ∀ (f : Nat), m + 1 ≤ f →
      (∃ c' : Nat, (goOn pcs k f (cs ++ List.replicate j k) a).bind (endTop k) = some (cs ++ List.replicate (c' - c) k) ∧ c ≤ c' ∧ c' ≤ pcs.length ∧ Closed pcs c' ∧ ∃ l, chain pcs pcs.length t = some l ∧ firsts (idn c) l = idn c') ∨
      ((goOn pcs k f (cs ++ List.replicate j k) a).bind (endTop k) = none ∧ ∀ l, chain pcs pcs.length t = some l → ∃ (i : Nat) (x : Int), (firsts (idn c) l)[i]? = some x ∧ x ≠ (i : Int)) := by
  intro m
  induction m using Nat.strongRecOn with
  | _ m ih =>
    intro j a em hj a0 a1 ec L f hf
    obtain ⟨f', rfl⟩ : ∃ f', f = f' + 1 := ⟨f - 1, by omega⟩
    have ln : (cs ++ List.replicate j k).length = c + j := by rw [List.length_append, List.length_replicate, hc]
    by_cases hA : a = -1 ∨ (0 ≤ a ∧ a < (c : Int))
    · -- the end, or what stood there ahead of this top
      obtain ⟨rest, hr, lr, mr⟩ : ∃ rest, chain pcs pcs.length a = some rest ∧ rest.length ≤ c ∧ ∀ x ∈ rest, 0 ≤ x ∧ x < (c : Int) := by
        rcases hA with e | ⟨h1, h2⟩
        · refine ⟨[], ?_, Nat.zero_le _, fun x m => by cases m⟩
          unfold chain
          split <;> rw [if_pos e]
        · exact cl a h1 h2
      refine .inl ⟨c + j, ?_, by omega, hj, ?_, upto c j ++ rest, ?_, ?_⟩
      · unfold goOn
        rw [if_pos (by rw [ln]; rcases hA with e | h; exact .inl e; exact .inr (by omega))]
        show endTop k _ = _
        unfold endTop
        rw [if_neg, Nat.add_sub_cancel_left]
        rintro ⟨n1, e⟩
        have h := hA.resolve_left n1
        have lt : a.toNat < cs.length := by omega
        dsimp only at e
        rw [getD_app_old lt] at e
        have := hk _ (getD_mem lt)
        omega
      · intro i i0 i1
        by_cases ic : i < (c : Int)
        · obtain ⟨l, h1, h2, h3⟩ := cl i i0 ic
          exact ⟨l, h1, by omega, fun x m => by have := h3 x m; omega⟩
        · have q := links_chain L hr (c + j - i.toNat) (by omega) (by omega)
          have e1 : ((c + (j - (c + j - i.toNat)) : Nat) : Int) = i := by omega
          rw [e1] at q
          refine ⟨_, (chain_more _ _ _ q).2 _ ?_, ?_, ?_⟩
          · rw [List.length_append, upto_len]
            omega
          · rw [List.length_append, upto_len]
            omega
          · intro x m
            rcases List.mem_append.mp m with m | m
            · have := mem_upto m
              omega
            · have := mr x m
              omega
      · rw [ec, (chain_more _ _ _ hr).2 _ (by omega)]
        rfl
      · rw [firsts_app, firsts_upto]
        exact firsts_old _ fun x m => mem_idn.mpr (by have := mr x m; omega)
    · have hA1 : a ≠ -1 := fun e => hA (.inl e)
      have hA2 : (c : Int) ≤ a := by
        by_cases q : (c : Int) ≤ a
        · exact q
        · exact absurd (.inr ⟨by omega, by omega⟩) hA
      by_cases hC : a < ((c + j : Nat) : Int)
      · -- a ring
        refine .inr ⟨?_, ?_⟩
        · unfold goOn
          rw [if_pos (by rw [ln]; exact .inr (by omega))]
          show endTop k _ = _
          unfold endTop
          rw [if_pos ⟨hA1, getD_app_new (by omega) (by omega)⟩]
        · intro l hl
          exfalso
          rw [ec, ring_none (c := c) (c' := c + j) (fun b b0 b1 => ?_) _ _ hA2 hC] at hl
          · cases hl
          · have l := L (b.toNat - c) (by omega)
            have e1 : ((c + (b.toNat - c) : Nat) : Int) = b := by omega
            rw [e1] at l
            rw [l]
            split <;> omega
      · by_cases hE : a = ((c + j : Nat) : Int)
        · -- on to the next
          have un := hin a (by omega) a1
          have q := ih (m - 1) (by omega) (j + 1) (under pcs a) (by omega) (by omega) un.1 un.2 ?_ ?_ f' (by omega)
          · have e1 : goOn pcs k (f' + 1) (cs ++ List.replicate j k) a = goOn pcs k f' (cs ++ List.replicate (j + 1) k) (under pcs a) := by
              show (if a = -1 ∨ (0 ≤ a ∧ a < ((cs ++ List.replicate j k).length : Int)) then _ else _) = _
              rw [if_neg (by rw [ln]; omega), if_pos (by rw [ln]; exact hE), List.replicate_succ', List.append_assoc]
            rw [e1]
            exact q
          · rw [ec]
            have e2 : pcs.length - j = (pcs.length - (j + 1)) + 1 := by omega
            rw [e2]
            show (if a = -1 then some [] else (chain pcs (pcs.length - (j + 1)) (under pcs a)).map (a :: ·)).map _ = _
            rw [if_neg hA1, Option.map_map, upto_succ]
            congr 1
            funext l
            show upto c j ++ a :: l = upto c j ++ [((c + j : Nat) : Int)] ++ l
            rw [List.append_assoc, hE]
            rfl
          · intro i hi
            by_cases ij : i = j
            · subst ij
              rw [if_pos rfl, ← hE]
            · rw [if_neg (by omega), L i (by omega)]
              split
              · omega
              · rfl
        · -- out of turn
          refine .inr ⟨?_, ?_⟩
          · unfold goOn
            rw [if_neg (by rw [ln]; omega), if_neg (by rw [ln]; exact hE)]
            rfl
          · intro l hl
            rw [ec] at hl
            obtain ⟨r, hr, rfl⟩ := Option.map_eq_some_iff.mp hl
            obtain ⟨r', rfl⟩ : ∃ r', r = a :: r' := by
              cases g : pcs.length - j with
              | zero =>
                rw [g] at hr
                unfold chain at hr
                rw [if_neg hA1] at hr
                cases hr
              | succ g' =>
                rw [g] at hr
                unfold chain at hr
                rw [if_neg hA1] at hr
                obtain ⟨r', _, e⟩ := Option.map_eq_some_iff.mp hr
                exact ⟨r', e.symm⟩
            have e1 : firsts (idn c) (upto c j ++ a :: r') = firsts (idn (c + j) ++ [a]) r' := by
              rw [firsts_app, firsts_upto]
              show firsts (first1 (idn (c + j)) a) r' = _
              unfold first1
              rw [if_neg (fun m => by have := mem_idn.mp m; omega)]
            obtain ⟨mm, e2⟩ := firsts_pre r' (idn (c + j) ++ [a])
            refine ⟨c + j, a, ?_, hE⟩
            show (firsts (idn c) (upto c j ++ a :: r'))[c + j]? = some a
            rw [e1, e2, List.append_assoc, List.getElem?_append_right (by rw [idn_len]; exact Nat.le_refl _), idn_len, Nat.sub_self]
            rfl
theorem tops_alike {pcs : List Pc} (hin : ∀ a : Int, 0 ≤ a → a < (pcs.length : Int) → -1 ≤ under pcs a ∧ under pcs a < (pcs.length : Int)) : ∀ (ts : List Int) (k c : Nat) (cs : List Int), cs.length = c → c ≤ pcs.length → (∀ x ∈ cs, x < (k : Int)) → Closed pcs c → (∀ t ∈ ts, okT pcs.length t = true) →
    (comeTo pcs ts k cs).any (fun cs => decide (cs.length = pcs.length)) = (rightTo pcs ts (idn c)).any (fun os => decide (os = idn pcs.length))
  | [], k, c, cs, hc, hn, hk, cl, ht => by
    show decide (cs.length = pcs.length) = decide (idn c = idn pcs.length)
    refine decide_eq_decide.mpr ⟨fun e => by rw [← e, hc], fun e => ?_⟩
    have := congrArg List.length e
    rw [idn_len, idn_len] at this
    omega
  | t :: r, k, c, cs, hc, hn, hk, cl, ht => by
    have ot := ht t List.mem_cons_self
    have rt : -1 ≤ t ∧ t < (pcs.length : Int) := by
      unfold okT at ot
      simpa using ot
    have q := top_step hin cl hc hk (t := t) (pcs.length - c) 0 t (by omega) (by omega) rt.1 rt.2 (by cases chain pcs pcs.length t <;> rfl) (fun i h => by omega) (pcs.length + 1 - cs.length) (by omega)
    have e1 : comeTo pcs (t :: r) k cs = ((goOn pcs (k : Int) (pcs.length + 1 - cs.length) (cs ++ List.replicate 0 (k : Int)) t).bind (endTop (k : Int))).bind (comeTo pcs r (k + 1)) := by
      show (oneTop pcs (k : Int) cs t).bind _ = _
      rw [List.replicate_zero, List.append_nil]
      rfl
    have e2 : rightTo pcs (t :: r) (idn c) = (chain pcs pcs.length t).bind fun l => rightTo pcs r (firsts (idn c) l) := by
      show (if okT pcs.length t then _ else none) = _
      rw [if_pos ot]
    rw [e1, e2]
    rcases q with ⟨c', h1, h2, h3, h4, l, h5, h6⟩ | ⟨h1, h2⟩
    · rw [h1, h5]
      show (comeTo pcs r (k + 1) _).any _ = (rightTo pcs r (firsts (idn c) l)).any _
      rw [h6]
      refine tops_alike hin r (k + 1) c' _ ?_ h3 ?_ h4 fun t m => ht t (List.mem_cons_of_mem _ m)
      · rw [List.length_append, List.length_replicate, hc]
        omega
      · intro x m
        rcases List.mem_append.mp m with m | m
        · have := hk x m
          omega
        · rw [(List.mem_replicate.mp m).2]
          omega
    · rw [h1]
      show false = _
      cases e : chain pcs pcs.length t with
      | none => rfl
      | some l =>
        obtain ⟨i, x, h3, h4⟩ := h2 l e
        exact (right_bad h3 h4).symm
theorem right_out {pcs : List Pc} : ∀ (ts os : List Int), ts.all (okT pcs.length) = false → rightTo pcs ts os = none
  | [], os, h => by cases h
  | t :: r, os, h => by
    unfold rightTo
    rw [List.all_cons] at h
    by_cases c : okT pcs.length t = true
    · rw [if_pos c]
      rw [c, Bool.true_and] at h
      cases chain pcs pcs.length t with
      | none => rfl
      | some l => exact right_out r _ h
    · rw [if_neg c]
/-- both ways tell alike -/
theorem paper_right (size : Int) (pcs : List Pc) (tops : List Int) : isPaper size pcs tops = isRight size pcs tops := by
  unfold isPaper isRight
  cases hp : pcs.all (okP size pcs.length) with
  | false => rfl
  | true =>
    rw [Bool.true_and, Bool.true_and]
    cases ht : tops.all (okT pcs.length) with
    | false => rw [right_out tops [] ht]; rfl
    | true =>
      rw [Bool.true_and]
      refine tops_alike (fun a a0 a1 => ?_) tops 0 0 [] rfl (Nat.zero_le _) (fun x m => by cases m) (fun i i0 i1 => by omega) fun t m => List.all_eq_true.mp ht t m
      have q := List.all_eq_true.mp hp _ (List.mem_of_getElem? (pc_at a0 a1))
      unfold okP at q
      simp at q
      omega
/-! the dict of what came with which top -/
def kd (cs : List Int) : List (Key × V) := cs.zipIdx.map fun p => (.inl (p.2 : Int), .int p.1)
theorem kd_len (cs : List Int) : (kd cs).length = cs.length := by
  unfold kd
  simp
theorem kd_val' (a : Int) : ∀ (cs : List Int) (k : Nat), valV ((cs.zipIdx k).map fun p => ((.inl (p.2 : Int) : Key), V.int p.1)) (.inl a) = if (k : Int) ≤ a ∧ a < ((k + cs.length : Nat) : Int) then some (.int (cs.getD (a.toNat - k) 0)) else none
  | [], k => by
    rw [if_neg (by simp <;> omega)]
    rfl
  | b :: r, k => by
    rw [List.zipIdx_cons, List.map_cons]
    by_cases e : (k : Int) = a
    · rw [valV_pos (by rw [e]), if_pos (by simp; omega)]
      have : a.toNat - k = 0 := by omega
      rw [this]
      rfl
    · rw [valV_neg (fun q => e (Sum.inl.inj q)), kd_val' a r (k + 1)]
      by_cases c : (k : Int) ≤ a ∧ a < ((k + (b :: r).length : Nat) : Int)
      · rw [if_pos c, if_pos (by simp at c ⊢; omega)]
        have : a.toNat - k = (a.toNat - (k + 1)) + 1 := by omega
        rw [this]
        rfl
      · rw [if_neg c, if_neg (by simp at c ⊢; omega)]
theorem kd_val (cs : List Int) (a : Int) : valV (kd cs) (.inl a) = if 0 ≤ a ∧ a < (cs.length : Int) then some (.int (cs.getD a.toNat 0)) else none := by
  have h := kd_val' a cs 0
  simp only [Nat.zero_add, Nat.sub_zero, Int.natCast_zero] at h
  exact h
theorem kd_put {cs : List Int} {k : Int} : putK (kd cs) (.inl (cs.length : Int)) (.int k) = kd (cs ++ [k]) := by
  have e := kd_val cs (cs.length : Int)
  rw [if_neg (by omega)] at e
  rw [putK_new _ e]
  unfold kd
  rw [List.zipIdx_append, List.map_append]
  simp
/-! the dict of the places in the order of coming -/
def zd (os : List Int) : List (Key × V) := os.zipIdx.map fun p => (.inl p.1, .int (p.2 : Int))
theorem zd_len (os : List Int) : (zd os).length = os.length := by
  unfold zd
  simp
theorem zd_val (os : List Int) (a : Int) : valV (zd os) (.inl a) = if a ∈ os then some (.int (os.idxOf a : Int)) else none := by
  have h := valV_zip a os 0
  rw [Nat.zero_add] at h
  exact h
theorem zd_put {os : List Int} {a : Int} (h : ¬ a ∈ os) : putK (zd os) (.inl a) (.int (os.length : Int)) = zd (os ++ [a]) := by
  have e := zd_val os a
  rw [if_neg h] at e
  rw [putK_new _ e]
  unfold zd
  rw [List.zipIdx_append, List.map_append]
  simp
theorem zd_at {os : List Int} {i : Nat} {k : Key} {v : V} (h : (zd os)[i]? = some (k, v)) : ∃ a, os[i]? = some a ∧ k = .inl a := by
  unfold zd at h
  rw [List.getElem?_map] at h
  obtain ⟨p, hp, e⟩ := Option.map_eq_some_iff.mp h
  rw [List.getElem?_zipIdx] at hp
  obtain ⟨a, ha, e2⟩ := Option.map_eq_some_iff.mp hp
  cases e2
  cases e
  exact ⟨a, ha, rfl⟩
def wrong (os : List Int) (a : Int) : Bool := !decide ((os.idxOf a : Int) = a)
theorem idn_idx {n : Nat} {i : Nat} (h : i < n) : (idn n).idxOf (i : Int) = i := by
  have nd : (idn n).Nodup := by
    unfold idn
    exact List.pairwise_map.mpr (List.nodup_range.imp fun h e => h (Int.ofNat.inj e))
  have := List.Nodup.idxOf_getElem nd i (by rw [idn_len]; exact h)
  have e : (idn n)[i]'(by rw [idn_len]; exact h) = (i : Int) := by
    have := idn_get h
    rw [List.getElem?_eq_getElem (by rw [idn_len]; exact h)] at this
    exact Option.some.inj this
  rw [e] at this
  exact this
theorem told_right {os : List Int} (nd : os.Nodup) (n : Nat) : ((os.filter (wrong os)).isEmpty && decide (os.length = n)) = decide (os = idn n) := by
  rw [Bool.eq_iff_iff, Bool.and_eq_true, decide_eq_true_eq, decide_eq_true_eq, List.isEmpty_iff]
  constructor
  · rintro ⟨h1, h2⟩
    refine List.ext_getElem (by rw [idn_len, h2]) fun i hi hi2 => ?_
    have h3 := List.filter_eq_nil_iff.mp h1 os[i] (List.getElem_mem hi)
    unfold wrong at h3
    rw [List.Nodup.idxOf_getElem nd] at h3
    have e := idn_get (c := n) (i := i) (by omega)
    rw [List.getElem?_eq_getElem hi2] at e
    rw [Option.some.inj e]
    have h4 : (i : Int) = os[i] := by simpa using h3
    exact h4.symm
  · intro e
    subst e
    refine ⟨List.filter_eq_nil_iff.mpr fun a m => ?_, idn_len n⟩
    obtain ⟨a0, a1⟩ := mem_idn.mp m
    unfold wrong
    have := idn_idx (n := n) (i := a.toNat) (by omega)
    have e : ((a.toNat : Nat) : Int) = a := by omega
    rw [e] at this
    rw [this]
    simp
    omega
theorem first1_ok {n : Nat} {os : List Int} (nd : os.Nodup) (r : ∀ x ∈ os, 0 ≤ x ∧ x < (n : Int)) {a : Int} (h0 : 0 ≤ a) (h1 : a < (n : Int)) : (first1 os a).Nodup ∧ ∀ x ∈ first1 os a, 0 ≤ x ∧ x < (n : Int) := by
  unfold first1
  split
  · exact ⟨nd, r⟩
  · rename_i h
    refine ⟨L2.nd_snoc nd h, fun x m => ?_⟩
    rcases List.mem_append.mp m with m | m
    · exact r x m
    · rw [List.mem_singleton.mp m]
      exact ⟨h0, h1⟩
theorem chain_mem {pcs : List Pc} {n : Nat} (hin : ∀ a : Int, 0 ≤ a → a < (n : Int) → -1 ≤ under pcs a ∧ under pcs a < (n : Int)) : ∀ (f : Nat) (a : Int) (l : List Int), -1 ≤ a → a < (n : Int) → chain pcs f a = some l → ∀ x ∈ l, 0 ≤ x ∧ x < (n : Int)
  | 0, a, l, h0, h1, h => by
    unfold chain at h
    by_cases c : a = -1
    · rw [if_pos c] at h
      cases h
      intro x m
      cases m
    · rw [if_neg c] at h
      cases h
  | f + 1, a, l, h0, h1, h => by
    unfold chain at h
    by_cases c : a = -1
    · rw [if_pos c] at h
      cases h
      intro x m
      cases m
    · rw [if_neg c] at h
      obtain ⟨r, hr, rfl⟩ := Option.map_eq_some_iff.mp h
      have un := hin a (by omega) h1
      intro x m
      rcases List.mem_cons.mp m with e | m
      · omega
      · exact chain_mem hin f _ r un.1 un.2 hr x m
theorem cut_last (xs : List V) (v : V) : cutV (xs ++ [v]) none (some (-1)) = xs := by
  unfold cutV
  have l : (xs ++ [v]).length = xs.length + 1 := by simp
  rw [HT.sIx_none, l]
  have : HT.sIx (xs.length + 1) (xs.length + 1) (some (-1)) = xs.length := by
    unfold HT.sIx
    simp
    omega
  rw [this]
  simp
end G

namespace G
open PySem L2
/-! ### max(xs, default=d) of a list of ints -/
section
variable {pg : Program} {wd0 : World} {AA : Around} {Z : Result → Shared → Prop} {it : Addr} {used own : List Addr} {len : Nat} {At : Nat → Value → Prop} {Now : Nat → Heap → Prop}
abbrev mxLoop (it S : Addr) (d : Value) : Code := .builtin "max.loop" ⟨[.ref it, .none, .ref S], [("default", d)]⟩
/-- what is promised of the one found -/
abbrev MxEnd (Z : Result → Shared → Prop) (own : List Addr) (S : Addr) (good : Value → Prop) (s : Shared) : Prop :=
  ∀ v hp tk, good v → (∀ b o, b ∉ own → b ≠ S → s.heap.get? b = some o → hp.get? b = some o) → Z (.ok (.ret v)) { s with heap := hp, toks := tk }
theorem mx_on (W : Walks pg wd0 AA.in1 it used own len At Now) (bt : Nat → Nat → Bool) (cmp : CmpOf pg wd0 AA.in1 .Gt At bt) (S : Addr) (nS : S ∉ used) (d : Value) :
    ∀ (left j : Nat) (s : Shared) (best : Value) (c : Nat), len - (j + 1) = left → j + 1 ≤ len → Now (j + 1) s.heap → At (argBest bt j) best →
      s.heap.get? S = some { cls := .type "list", dict := none, data := .seq #[best, best] c, slots := #[] } → MxEnd Z own S (At (argBest bt (len - 1))) s →
      codeAny (model pg wd0) AA (mxLoop it S d) Z s := by
  have nO : S ∉ own := fun h => nS (W.sub _ h)
  have nm : (toString "max" ++ toString ".loop" : String) = "max.loop" := by decide
  intro left
  induction left with
  | zero =>
    intro j s best c e1 e2 now ab hS fin
    have e3 : j + 1 = len := by omega
    refine codeAny_builtin F.entry_max_loop ?_
    rw [Around.under_plainId F.plain_max_loop _]
    show wpAny _ AA.in1 (seqItems? (.ref S) >>= _) _ _ s
    refine wpAny_bind (wpAny_seqItems hS rfl ?_)
    show wpAny _ AA.in1 (tryCatch (pyNext (.ref it)) _ >>= _) _ _ s
    refine wpAny_bind (wpAny_tryCatch (W.done s _ _ (e3 ▸ now) fun hp tk kp => ?_))
    have hS2 := kp S _ nO hS
    show wpAny _ AA.in1 (updateSeq S (fun _ => #[]) >>= _) _ _ _
    refine wpAny_bind (wpAny_updateSeq hS2 rfl (wpAny_bind (wpAny_letGo (wpAny_pure ?_))))
    exact fin best _ tk (by rw [← e3]; exact ab) fun b o n1 n2 e => (Heap.get?_update_other _ _ (Ne.symm n2)).trans (kp b o n1 e)
  | succ left ih =>
    intro j s best c e1 e2 now ab hS fin
    have lt : j + 1 < len := by omega
    refine codeAny_builtin F.entry_max_loop ?_
    rw [Around.under_plainId F.plain_max_loop _]
    show wpAny _ AA.in1 (seqItems? (.ref S) >>= _) _ _ s
    refine wpAny_bind (wpAny_seqItems hS rfl ?_)
    show wpAny _ AA.in1 (tryCatch (pyNext (.ref it)) _ >>= _) _ _ s
    refine wpAny_bind (wpAny_tryCatch (W.item (j + 1) s _ _ lt now fun v hp tk av now2 kp => ?_))
    have hS2 := kp S _ nO hS
    show wpAny _ AA.in1 (tryCatch (holding [v, v] (richCompare .Gt v best >>= _)) _ >>= _) _ _ _
    refine wpAny_bind (wpAny_tryCatch (wpAny_holding (wpAny_bind (cmp (j + 1) (argBest bt j) v best _ _ _ av ab ?_))))
    refine wpAny_bind (wpAny_holding (wpAny_truthy_bool (wpAny_bind (wpAny_letGo (wpAny_pure ?_)))))
    cases more : bt (j + 1) (argBest bt j) with
    | true =>
      rw [if_pos rfl]
      refine wpAny_bind (wpAny_updateSeq hS2 rfl (wpAny_bind (wpAny_letGo ?_)))
      rw [nm]
      refine wpAny_pure ⟨plainId_quiet F.plain_max_loop _, ih (j + 1) _ v _ (by omega) lt (W.frame _ _ _ now2 fun b mb o e => ?_) ?_ (Heap.get?_update_self _ hS2 rfl) fun u hq tq au kq => ?_⟩
      · exact (Heap.get?_update_other _ _ (fun z : S = b => nS (z ▸ mb))).trans e
      · simp only [argBest, more, if_true]
        exact av
      · exact fin u hq tq au fun b o n1 n2 e => kq b o n1 n2 ((Heap.get?_update_other _ _ (Ne.symm n2)).trans (kp b o n1 e))
    | false =>
      rw [if_neg Bool.false_ne_true]
      refine wpAny_bind (wpAny_letGo ?_)
      rw [nm]
      refine wpAny_pure ⟨plainId_quiet F.plain_max_loop _, ih (j + 1) _ best c (by omega) lt now2 ?_ hS2 fun u hq tq au kq => ?_⟩
      · simp only [argBest, more, Bool.false_eq_true, if_false]
        exact ab
      · exact fin u hq tq au fun b o n1 n2 e => kq b o n1 n2 (kp b o n1 e)
theorem mx_first (W : Walks pg wd0 AA.in1 it used own len At Now) (bt : Nat → Nat → Bool) (cmp : CmpOf pg wd0 AA.in1 .Gt At bt) (S : Addr) (nS : S ∉ used) (d : Value) (pos : 0 < len) {s : Shared} {c : Nat} (now : Now 0 s.heap)
    (hS : s.heap.get? S = some { cls := .type "list", dict := none, data := .seq #[] c, slots := #[] }) (fin : MxEnd Z own S (At (argBest bt (len - 1))) s) : codeAny (model pg wd0) AA (mxLoop it S d) Z s := by
  have nO : S ∉ own := fun h => nS (W.sub _ h)
  have nm : (toString "max" ++ toString ".loop" : String) = "max.loop" := by decide
  refine codeAny_builtin F.entry_max_loop ?_
  rw [Around.under_plainId F.plain_max_loop _]
  show wpAny _ AA.in1 (seqItems? (.ref S) >>= _) _ _ s
  refine wpAny_bind (wpAny_seqItems hS rfl ?_)
  show wpAny _ AA.in1 (tryCatch (pyNext (.ref it)) _ >>= _) _ _ s
  refine wpAny_bind (wpAny_tryCatch (W.item 0 s _ _ pos now fun v hp tk av now2 kp => ?_))
  have hS2 := kp S _ nO hS
  show wpAny _ AA.in1 (updateSeq S (fun _ => #[v, v]) >>= _) _ _ _
  refine wpAny_bind (wpAny_updateSeq hS2 rfl ?_)
  rw [nm]
  refine wpAny_pure ⟨plainId_quiet F.plain_max_loop _, mx_on W bt cmp S nS d _ 0 _ v _ rfl pos (W.frame _ _ _ now2 fun b mb o e => ?_) av (Heap.get?_update_self _ hS2 rfl) fun u hq tq au kq => ?_⟩
  · exact (Heap.get?_update_other _ _ (fun z : S = b => nS (z ▸ mb))).trans e
  · exact fin u hq tq au fun b o n1 n2 e => kq b o n1 n2 ((Heap.get?_update_other _ _ (Ne.symm n2)).trans (kp b o n1 e))
theorem mx_none (W : Walks pg wd0 AA.in1 it used own 0 At Now) (S : Addr) (nS : S ∉ used) (d : Value) {s : Shared} {c : Nat} (now : Now 0 s.heap)
    (hS : s.heap.get? S = some { cls := .type "list", dict := none, data := .seq #[] c, slots := #[] }) (fin : MxEnd Z own S (fun v => v = d) s) : codeAny (model pg wd0) AA (mxLoop it S d) Z s := by
  have nO : S ∉ own := fun h => nS (W.sub _ h)
  refine codeAny_builtin F.entry_max_loop ?_
  rw [Around.under_plainId F.plain_max_loop _]
  show wpAny _ AA.in1 (seqItems? (.ref S) >>= _) _ _ s
  refine wpAny_bind (wpAny_seqItems hS rfl ?_)
  show wpAny _ AA.in1 (tryCatch (pyNext (.ref it)) _ >>= _) _ _ s
  refine wpAny_bind (wpAny_tryCatch (W.done s _ _ now fun hp tk kp => ?_))
  refine wpAny_bind (wpAny_rule (wpAny_pure ?_))
  exact fin d hp tk rfl fun b o n1 _ e => kp b o n1 e
end
section
variable {pg : Program} {wd0 : World} {AA : Around} {Ex : Value → Shared → Prop} {s : Shared} {l : Addr}
theorem args_maxd (a d : Value) : argsOk "max" ⟨[a], [("default", d)]⟩ := by unfold argsOk; kernel_rfl
theorem call_maxd {its : Array (Int × Tok)} {d : Value} {Q : Value → Shared → Prop} (hh : AA.handled = none) (hl : s.heap.IsList l (intItems its))
    (fin : ∀ v hp tk, ((its.size = 0 ∧ v = d) ∨ (0 < its.size ∧ (intItems its)[argBest (fun i j => decide (numAt its i > numAt its j)) (its.size - 1)]? = some v)) → (∀ b o, s.heap.get? b = some o → hp.get? b = some o) → Q v { s with heap := hp, toks := tk }) :
    wpAny (model pg wd0) AA (call (.builtin "max") [.ref l] [("default", d)]) Q Ex s := by
  have nm : (toString "max" ++ toString ".loop" : String) = "max.loop" := by decide
  refine wpAny_call (codeAny_call_builtin F.plain_max F.entry_max ?_)
  have main : wpAny (model pg wd0) AA.in1 (Builtin.«max» ⟨[.ref l], [("default", d)]⟩) (fun e s' => match e with
      | .done f => (match (Except.ok f : Result) with | .ok (.ret v) => Q v s' | .ok _ => False | .error e => Ex e s')
      | .again c' => c'.quiet = true ∧ codeAny (model pg wd0) AA c' (fun r s' => match r with | .ok (.ret v) => Q v s' | .ok _ => False | .error e => Ex e s') s') Ex s := by
    show wpAny _ AA.in1 (Builtin.Builtins.bindParams "max" ["key", "default"] 0 ⟨[], [("default", d)]⟩ >>= _) _ _ s
    refine wpAny_bind (wpAny_of_eq (show Builtin.Builtins.bindParams "max" ["key", "default"] 0 ⟨[], [("default", d)]⟩ = pure [none, some d] from rfl) ?_)
    refine wpAny_bind (wpAny_pure ?_)
    refine wpAny_bind (iter_intList hl fun s2 e st out ne => ?_)
    subst e
    refine wpAny_bind (wpAny_newObj_type ?_)
    have nS : (s.heap.push { cls := .type "list_iterator", data := .fields #[.ref l, .int 0 0] }).objs.size ∉ [s.heap.objs.size, l] := fun m => Nat.lt_irrefl _ (out _ m)
    have W := Walks.list (prog := pg) (w := wd0) (A := AA.in1) hh s.heap.objs.size l ne (intItems its)
    rw [nm]
    refine wpAny_pure ⟨plainId_quiet F.plain_max_loop _, ?_⟩
    have st2 := W.frame 0 _ ((s.heap.push { cls := .type "list_iterator", data := .fields #[.ref l, .int 0 0] }).push { cls := .type "list", data := .seq #[] }) st fun b _ o e => Heap.get?_push_of_some _ e
    by_cases z : its.size = 0
    · have z2 : (intItems its).size = 0 := by simpa [intItems] using z
      rw [z2] at W
      refine mx_none W _ nS d st2 (Heap.get?_push_size _ rfl) fun v hp tk g k => ?_
      exact fin v hp tk (.inl ⟨z, g⟩) (old_kept fun b o nb e => k b o nb (Nat.ne_of_lt (Heap.lt_size e)) (Heap.get?_push_of_some _ e))
    · have z1 : 0 < its.size := by omega
      refine mx_first W _ (CmpOf.ints_gt (numAt its) (fun _ _ => intItems_at)) _ nS d (by simpa [intItems] using z1) st2 (Heap.get?_push_size _ rfl) fun v hp tk g k => ?_
      exact fin v hp tk (.inr ⟨z1, by simpa [intItems] using g⟩) (old_kept fun b o nb e => k b o nb (Nat.ne_of_lt (Heap.lt_size e)) (Heap.get?_push_of_some _ e))
  simp only [checkBuiltinCall, F.kind_max]
  cases hs : Manifest.signature? "max" with
  | none => exact wpAny_pure main
  | some sg =>
    have ok : Bind.checkArgs "max" sg ⟨[.ref l], [("default", d)]⟩ = pure () := by simpa only [argsOk, hs] using args_maxd (.ref l) d
    simp only [ok]
    exact wpAny_pure main
end
def rMaxD (K : PySem.W.Frag) : List V → List V → Hp → VK → Prop := fun vs zs H Q => ∃ (a : Addr) (ns : List Int) (d : Int), vs = [V.ref a] ∧ zs = [V.int d] ∧ SqL K H a (ns.map V.int) ∧
  ∀ m, ((ns = [] ∧ m = d) ∨ (m ∈ ns ∧ ∀ y, y ∈ ns → y ≤ m)) → Q (.int m) H
theorem ck_maxd {X : Cx} (hc : X.calm = true) : CallRK X (.builtin "max") ["default"] (rMaxD X.K) := by
  intro pins s σ H xs zs us ws Q I r1 r2 h
  obtain ⟨a, ns, d, rfl, rfl, hs, q⟩ := h
  obtain ⟨its, rv, hl, _⟩ := I.list hs
  rw [Vals.ref1 r1]
  obtain ⟨t0, rfl⟩ : ∃ t0, ws = [Value.int d t0] := by
    cases r2 with
    | cons h t =>
      cases t
      obtain ⟨t0, rfl⟩ := h
      exact ⟨t0, rfl⟩
  have hi := rv.ints
  obtain ⟨arr, e⟩ := hi.allInts.items
  have hn : numsOf (intItems arr).toList = ns := by rw [← e]; exact hi.numsOf
  rw [nums_intItems] at hn
  subst hn
  have hl2 := hl.isList
  rw [e] at hl2
  refine call_maxd (I.ok.hd hc) hl2 fun v hp tk g k => ?_
  rcases g with ⟨g0, rfl⟩ | ⟨g1, g2⟩
  · refine ⟨.int d, H, I.kept k, ⟨_, rfl⟩, q d (.inl ⟨?_, rfl⟩)⟩
    have : arr.toList.length = 0 := by rw [Array.length_toList]; exact g0
    rw [List.eq_nil_of_length_eq_zero this]
    rfl
  · obtain ⟨t1, rfl⟩ := intItems_at g2
    obtain ⟨h1, h2⟩ := argBest_gt (numAt arr) (arr.size - 1)
    refine ⟨.int _, H, I.kept k, ⟨_, rfl⟩, q _ (.inr ⟨?_, fun y my => ?_⟩)⟩
    · rw [numAt_eq]
      exact PySem.getD_mem (by rw [List.length_map, Array.length_toList]; omega)
    · obtain ⟨j, hj, rfl⟩ := mem_getD my
      rw [List.length_map, Array.length_toList] at hj
      rw [← numAt_eq]
      exact h2 j (by omega)
end G

namespace G
open PySem L2
/-! ### a paper numbered as its pieces are come to is one as they are come to -/
theorem fold_pre {raw : List Pc} (low : Low raw) : ∀ (ts cur : List Int), (∀ t ∈ ts, -1 ≤ t ∧ t < (raw.length : Int)) → ∃ m, ts.foldl (vis raw) cur = cur ++ m
  | [], cur, _ => ⟨[], by simp⟩
  | t :: r, cur, h => by
    have ht := h t List.mem_cons_self
    obtain ⟨m1, e1⟩ := vis_pre low (ord := cur) ht.1 ht.2
    obtain ⟨m2, e2⟩ := fold_pre low r (vis raw cur t) fun x m => h x (List.mem_cons_of_mem _ m)
    exact ⟨m1 ++ m2, by rw [List.foldl_cons, e2, e1, List.append_assoc]⟩
theorem idx_pre {cur m : List Int} {a : Int} (h : a ∈ cur) : (cur ++ m).idxOf a = cur.idxOf a := by
  rw [List.idxOf_append, if_pos h]
theorem idx_next {cur m : List Int} {a : Int} (h : ¬ a ∈ cur) : (cur ++ [a] ++ m).idxOf a = cur.length := by
  rw [List.append_assoc, List.idxOf_append, if_neg h]
  simp
theorem place_walk {raw : List Pc} (low : Low raw) {ord cur0 cs0 : List Int} {k : Int} (oo : Ord raw ord) (hl : cs0.length = cur0.length) (hk : ∀ x ∈ cs0, x < k) :
    ∀ (n : Nat) (a : Int) (new : List Int), (a + 1).toNat = n → -1 ≤ a → a < (raw.length : Int) → (∀ x ∈ new, a < x) → (∃ m, ord = vis raw (cur0 ++ new) a ++ m) → ∀ f, ord.length + 1 - (cur0 ++ new).length ≤ f →
      (goOn (paperPcs raw ord) k f (cs0 ++ List.replicate new.length k) (place ord a)).bind (endTop k) = some (cs0 ++ List.replicate ((vis raw (cur0 ++ new) a).length - cur0.length) k) := by
  intro n
  induction n using Nat.strongRecOn with
  | _ n ih =>
    intro a new en a0 a1 hn hpre f hf
    obtain ⟨m, em⟩ := hpre
    obtain ⟨mv, ev⟩ := vis_pre low (ord := cur0 ++ new) a0 a1
    have lo : (cur0 ++ new).length ≤ ord.length := by
      rw [em, ev]
      simp only [List.length_append]
      omega
    obtain ⟨f', rfl⟩ : ∃ f', f = f' + 1 := ⟨f - 1, by omega⟩
    have lc : (cs0 ++ List.replicate new.length k).length = (cur0 ++ new).length := by simp [hl]
    by_cases c : a = -1 ∨ a ∈ cur0 ++ new
    · rw [vis_stop c] at em ⊢
      have e3 : (cur0 ++ new).length - cur0.length = new.length := by simp
      rw [e3]
      have h0 : a = -1 ∨ a ∈ cur0 := by
        rcases c with c | c
        · exact .inl c
        · rcases List.mem_append.mp c with c | c
          · exact .inr c
          · exact absurd (hn a c) (by omega)
      have hp : place ord a = -1 ∨ (0 ≤ place ord a ∧ place ord a < (cur0.length : Int)) := by
        rcases h0 with e | m0
        · left
          unfold place
          rw [if_pos e]
        · by_cases e : a = -1
          · left
            unfold place
            rw [if_pos e]
          · right
            unfold place
            rw [if_neg e, em, List.append_assoc, idx_pre m0]
            have := List.idxOf_lt_length_of_mem m0
            omega
      have e1 : goOn (paperPcs raw ord) k (f' + 1) (cs0 ++ List.replicate new.length k) (place ord a) = some (cs0 ++ List.replicate new.length k, place ord a) := by
        show (if _ then _ else _) = _
        refine if_pos ?_
        rw [lc, List.length_append]
        rcases hp with e | e
        · exact .inl e
        · exact .inr (by omega)
      rw [e1]
      show endTop k _ = _
      unfold endTop
      refine if_neg ?_
      rintro ⟨n1, e⟩
      have hq := hp.resolve_left n1
      have lt : (place ord a).toNat < cs0.length := by omega
      dsimp only at e
      rw [getD_app_old lt] at e
      have := hk _ (getD_mem lt)
      omega
    · have n1 : a ≠ -1 := fun e => c (.inl e)
      have n2 : ¬ a ∈ cur0 ++ new := fun e => c (.inr e)
      have un := low.under (a := a) (by omega) a1
      have evs := vis_step low (by omega) a1 n2
      obtain ⟨m2, e2⟩ := vis_pre low (ord := cur0 ++ new ++ [a]) un.1 (by omega)
      have eo : ord = cur0 ++ new ++ [a] ++ (m2 ++ m) := by rw [em, evs, e2]; simp
      have ep : place ord a = ((cur0 ++ new).length : Int) := by
        unfold place
        rw [if_neg n1, eo, idx_next n2]
      have ma : a ∈ ord := by rw [eo]; simp
      have eu : under (paperPcs raw ord) ((cur0 ++ new).length : Int) = place ord (under raw a) := by
        have h1 := paper_at (raw := raw) ma
        have h2 : ord.idxOf a = (cur0 ++ new).length := by rw [eo, idx_next n2]
        rw [h2] at h1
        show ((paperPcs raw ord).getD ((cur0 ++ new).length : Int).toNat (-1, [])).1 = _
        rw [Int.toNat_natCast, List.getD_eq_getElem?_getD, h1]
        rfl
      have lt : (cur0 ++ new).length < ord.length := by
        rw [eo]
        simp
      have e1 : goOn (paperPcs raw ord) k (f' + 1) (cs0 ++ List.replicate new.length k) (place ord a) = goOn (paperPcs raw ord) k f' (cs0 ++ List.replicate (new ++ [a]).length k) (place ord (under raw a)) := by
        show (if place ord a = -1 ∨ (0 ≤ place ord a ∧ place ord a < ((cs0 ++ List.replicate new.length k).length : Int)) then _ else _) = _
        rw [if_neg (by rw [ep, lc]; omega), if_pos (by rw [ep, lc]), ep, eu]
        congr 1
        rw [List.length_append, List.append_assoc]
        show cs0 ++ (List.replicate new.length k ++ [k]) = cs0 ++ List.replicate (new.length + 1) k
        rw [List.replicate_succ']
      rw [e1, evs, List.append_assoc cur0 new [a]]
      refine ih (under raw a + 1).toNat (by omega) (under raw a) (new ++ [a]) rfl un.1 (by omega) (fun x mx => ?_) ⟨m, ?_⟩ f' ?_
      · rcases List.mem_append.mp mx with mx | mx
        · have := hn x mx
          omega
        · rw [List.mem_singleton.mp mx]
          omega
      · rw [← List.append_assoc, ← evs]
        exact em
      · rw [← List.append_assoc, List.length_append (as := cur0 ++ new)]
        simp only [List.length_singleton]
        omega
theorem come_num {raw : List Pc} (low : Low raw) {ord : List Int} (oo : Ord raw ord) : ∀ (ts cur cs : List Int) (k : Nat), (∀ t ∈ ts, -1 ≤ t ∧ t < (raw.length : Int)) → ts.foldl (vis raw) cur = ord → cs.length = cur.length → (∀ x ∈ cs, x < (k : Int)) →
    (comeTo (paperPcs raw ord) (ts.map (place ord)) k cs).any (fun cs => decide (cs.length = (paperPcs raw ord).length)) = true
  | [], cur, cs, k, _, e, hl, hk => by
    show decide (cs.length = (paperPcs raw ord).length) = true
    have e : cur = ord := e
    rw [hl, e, paper_len]
    exact decide_eq_true rfl
  | t :: r, cur, cs, k, ht, e, hl, hk => by
    have t1 := ht t List.mem_cons_self
    have hr : ∀ x ∈ r, -1 ≤ x ∧ x < (raw.length : Int) := fun x m => ht x (List.mem_cons_of_mem _ m)
    rw [List.foldl_cons] at e
    obtain ⟨m, em⟩ := fold_pre low r (vis raw cur t) hr
    rw [e] at em
    obtain ⟨mv, ev⟩ := vis_pre low (ord := cur) t1.1 t1.2
    have w := place_walk low (cur0 := cur) oo hl hk _ t [] rfl t1.1 t1.2 (fun x m => by cases m) ⟨m, by rw [List.append_nil]; exact em⟩ ((paperPcs raw ord).length + 1 - cs.length) (by rw [paper_len, List.append_nil, hl]; exact Nat.le_refl _)
    rw [List.append_nil] at w
    have e1 : comeTo (paperPcs raw ord) ((t :: r).map (place ord)) k cs = ((goOn (paperPcs raw ord) (k : Int) ((paperPcs raw ord).length + 1 - cs.length) (cs ++ List.replicate 0 (k : Int)) (place ord t)).bind (endTop (k : Int))).bind (comeTo (paperPcs raw ord) (r.map (place ord)) (k + 1)) := by
      show (oneTop _ (k : Int) cs _).bind _ = _
      rw [List.replicate_zero, List.append_nil]
      rfl
    have w : (goOn (paperPcs raw ord) (k : Int) ((paperPcs raw ord).length + 1 - cs.length) (cs ++ List.replicate 0 (k : Int)) (place ord t)).bind (endTop (k : Int)) = _ := w
    rw [e1, w]
    refine come_num low oo r (vis raw cur t) _ (k + 1) hr e ?_ ?_
    · rw [List.length_append, List.length_replicate, ev, List.length_append, hl]
      omega
    · intro x mx
      rcases List.mem_append.mp mx with mx | mx
      · have := hk x mx
        omega
      · rw [(List.mem_replicate.mp mx).2]
        omega
theorem isCome_num {raw : List Pc} (low : Low raw) {tops : List Int} (ht : ∀ t ∈ tops, -1 ≤ t ∧ t < (raw.length : Int)) : isCome (paperPcs raw (order raw tops)) (paperTops (order raw tops) tops) = true :=
  come_num low (order_ok low ht).1 tops [] [] 0 ht rfl rfl fun x m => by cases m
/-- the numbered paper is right for each size that its pieces fit in -/
theorem isPaper_num {raw : List Pc} (low : Low raw) {tops : List Int} (ht : ∀ t ∈ tops, -1 ≤ t ∧ t < (raw.length : Int)) (h1 : ∀ p ∈ raw, 1 ≤ p.2.length) (size m : Int)
    (hm : (((paperPcs raw (order raw tops)).map fun p => (p.2.length : Int)) = [] ∧ m = 0) ∨ (m ∈ ((paperPcs raw (order raw tops)).map fun p => (p.2.length : Int)) ∧ ∀ y ∈ ((paperPcs raw (order raw tops)).map fun p => (p.2.length : Int)), y ≤ m)) (hs : 0 ≤ size) :
    isPaper size (paperPcs raw (order raw tops)) (paperTops (order raw tops) tops) = decide (m ≤ size) := by
  obtain ⟨oo, cl, tm⟩ := order_ok low ht
  obtain ⟨i1, i2⟩ := paper_in (raw := raw) cl tm
  have hc := isCome_num low ht
  have h1' : ∀ p ∈ paperPcs raw (order raw tops), 1 ≤ p.2.length := by
    intro p mp
    obtain ⟨b, mb, rfl⟩ := List.mem_map.mp mp
    have r := oo.rng b mb
    exact h1 (under raw b, worthsOf raw b) (List.mem_of_getElem? (pc_at r.1 r.2))
  generalize paperPcs raw (order raw tops) = P at *
  generalize paperTops (order raw tops) tops = T at *
  unfold isPaper
  rw [hc, Bool.and_true]
  have ha : T.all (okT P.length) = true := List.all_eq_true.mpr fun t mt => by
    have := i2 t mt
    simp [okT]
    omega
  rw [ha, Bool.and_true, Bool.eq_iff_iff, List.all_eq_true, decide_eq_true_eq]
  constructor
  · intro h
    rcases hm with ⟨_, e⟩ | ⟨hm, _⟩
    · omega
    · obtain ⟨p, mp, e⟩ := List.mem_map.mp hm
      have := h p mp
      simp [okP] at this
      omega
  · intro h p mp
    have h2 := i1 p.1 (List.mem_map.mpr ⟨p, mp, rfl⟩)
    have h3 := h1' p mp
    rcases hm with ⟨e, _⟩ | ⟨_, hm⟩
    · rw [List.map_eq_nil_iff.mp e] at mp
      cases mp
    · have h4 := hm _ (List.mem_map.mpr ⟨p, mp, rfl⟩)
      simp [okP]
      omega
end G

namespace Q
open PySem L2 G
def top (i : Nat) : Stmt := PySem.Challenge.pw_manygoings_k07_right_papers.main.body.getD i (.Pass ⟨0, 0, 0, 0⟩)
section
variable {P : Program} {w : World} {K : PySem.W.Frag} {mg : Str → Option Value} {base : Heap}

/-! ### sized -/
abbrev s_sized : Stmt := top 6
theorem sc_sized : FnScope ["size"] ["size"] (defScope s_sized) := ⟨rfl, rfl, rfl, by decide +kernel, rfl, by decide +kernel, by decide +kernel⟩
def sp_sized (_ : PySem.W.Frag) : Sp := fun vs H Q _ => ∃ (s : Int), vs = [.int s] ∧ 2 ≤ s ∧ s ≤ 64 ∧ Q (.int s) H
theorem ok_sized {fa : Addr} {fd : FuncData} (F : Fun K "sized" "sized" s_sized fa fd) (TX : Tx mg)
    {tLe tGr : Tok}
    (g_LEAST : mg "LEAST" = some (.int 2 tLe))
    (g_GREATEST : mg "GREATEST" = some (.int 64 tGr)) :
    FnOk P w K mg base CX0 1 fa fd ["size"] (sp_sized K) := by
  refine F.ok sc_sized (fun vs H Q E h => ?_) (fun cdv A outer s H vs Q E hr h => ?_)
  · obtain ⟨s, rfl, h2, h64, q⟩ := h
    rfl
  · obtain ⟨s, rfl, h2, h64, q⟩ := h
    have hu := hu_of hr
    have hu64 := hr.units
    have hu65 := hu65_of hr
    refine ⟨_, (pss_cons (ps_if (PW.pt (pw_or (pt_cmpR op_lt (pv 0) (pe_glob (v := .int _) (by rfl) g_LEAST ⟨_, rfl⟩) (nomark _)) (pw_or1 (pt_cmpR op_gt (pv 0) (pe_glob (v := .int _) (by rfl) g_GREATEST ⟨_, rfl⟩) (nomark _))))) (pss_one ps_never) pss_nil)
  (pss_one (ps_ret (pv 0)))), ?_⟩
    refine r_begin (show L2.start _ _ = [some _] from rfl) ?_
    try dsimp only [cxOf]
    walk_at "rr"
    refine r_itF (decide_eq_false (by omega)) ?_
    walk_at "rr"
    refine r_itF (decide_eq_false (by omega)) ?_
    walk_at "rr"
    exact q
/-! ### as_come_to -/
abbrev s_as_come_to : Stmt := top 7
theorem sc_as_come_to : FnScope ["pieces", "tops", "came", "k", "top", "at"] ["pieces", "tops"] (defScope s_as_come_to) := ⟨rfl, rfl, rfl, by decide +kernel, rfl, by decide +kernel, by decide +kernel⟩
def sp_as_come_to (_ : PySem.W.Frag) : Sp := fun vs H Q _ => ∃ (a b : Addr) (pcs : List Pc) (tops : List Int), vs = [.ref a, .ref b] ∧ PcsAt H a pcs ∧ IntsAt H b tops ∧ pcs.length ≤ 1000 ∧ tops.length ≤ 1000 ∧ In pcs.length (pcs.map (·.1)) ∧ In pcs.length tops ∧
  ∀ (H' : Hp), Same H H' → Q (.bl (isCome pcs tops)) H'
theorem ok_as_come_to {fa : Addr} {fd : FuncData} (F : Fun K "as_come_to" "as_come_to" s_as_come_to fa fd) (TX : Tx mg) :
    FnOk P w K mg base CX0 1 fa fd ["pieces", "tops"] (sp_as_come_to K) := by
  refine F.ok sc_as_come_to (fun vs H Q E h => ?_) (fun cdv A outer s H vs Q E hr h => ?_)
  · obtain ⟨a, b, pcs, tops, rfl, ⟨xs, ea, wa⟩, eb, lp, lt, ip, it, q⟩ := h
    rfl
  · obtain ⟨a, b, pcs, tops, rfl, ⟨xs, ea, wa⟩, eb, lp, lt, ip, it, q⟩ := h
    have hu := hu_of hr
    have hu64 := hr.units
    have hu65 := hu65_of hr
    have lx := paired_len wa
    have eb' : H b = some (.lst (tops.map V.int)) := eb
    refine ⟨_, (pss_cons (ps_set (i := 2) sc_as_come_to.nd rfl (Or.inl rfl) pe_dnewK)
  (pss_cons (ps_for PassesOwn.never rfl (pi_enum (by rfl) TX.enumerate (pa_cons (pv 1) pa_nil)) (pg_tup rfl (pgs_cons (pg_name (i := 3) sc_as_come_to.nd rfl (Or.inl rfl)) (pgs_cons (pg_name (i := 4) sc_as_come_to.nd rfl (Or.inl rfl)) pgs_nil)))
  (pss_cons (ps_set (i := 5) sc_as_come_to.nd rfl (Or.inl rfl) (pv 4))
  (pss_cons (ps_while PassesOwn.never (PW.pt (pw_and (pt_cmpR op_ne (pv 5) (pe_un un_neg pe_int) (nomark _)) (pw_and1 (pt_cmp (pc_dnotin hu (pv 5) (pv 2)))))) (pss_cons (ps_if (pt_cmpR op_ne (pv 5) (pe_callB call_lenD (by rfl) TX.n_len (by decide +kernel) (pa_cons (pv 2) pa_nil)) (nomark _)) (pss_one (ps_ret pe_bl)) pss_nil)
  (pss_cons (ps_dput hu (pv 2) (pv 5) (pv 3) rfl)
  (pss_one (ps_set (i := 5) sc_as_come_to.nd rfl (Or.inl rfl) (pe_ix ix_tup (pe_ix ix_list (pv 0) (pv 5) (fun _ _ => rfl)) pe_int (fun _ _ => rfl)))))))
  (pss_one (ps_if (PW.pt (pw_and (pt_cmpR op_ne (pv 5) (pe_un un_neg pe_int) (nomark _)) (pw_and1 (pt_cmpR op_eq (pe_dget hu (pv 2) (pv 5) (fun _ _ => rfl)) (pv 3) (nomark _))))) (pss_one (ps_ret pe_bl)) pss_nil)))))
  (pss_one (ps_ret (pe_cmpR op_eq (pe_callB call_lenD (by rfl) TX.n_len (by decide +kernel) (pa_cons (pv 2) pa_nil)) (pe_callB call_len (by rfl) TX.n_len (by decide +kernel) (pa_cons (pv 0) pa_nil)) (nomark _)))))), ?_⟩
    refine r_begin (show L2.start _ _ = [some _, some _, none, none, none, none] from rfl) ?_
    try dsimp only [cxOf]
    walk_at "rr"
    refine fun d hd => ?_
    walk_at "rr"
    walk_at "rr"
    refine ⟨b, _, rfl, .inl (.inl ((same_new hd) _ _ eb')), ?_⟩
    refine L_it (walk_enum (xs := tops.map V.int)) (fun i σ H1 => ∃ (cs : List Int) (u1 u2 u3 : Option V), σ = [some (.ref a), some (.ref b), some (.ref d), u1, u2, u3] ∧ Same H H1 ∧ H1 d = some (.dK (kd cs)) ∧ cs.length ≤ pcs.length ∧ comeTo pcs tops 0 [] = comeTo pcs (tops.drop i) i cs)
      ⟨[], _, _, _, rfl, same_new hd, upd_same, Nat.zero_le _, rfl⟩ ?_ ?_ ?_
    · rintro i σ H1 hi ⟨cs, u1, u2, u3, rfl, s1, ed, lc, ec⟩
      exact .inl (.inl (s1 _ _ eb'))
    · rintro i x σ H1 H2 hi ⟨cs, u1, u2, u3, rfl, s1, ed, lc, ec⟩ ⟨T, x1, x2, rfl, hT, rfl, e1, e2⟩
      cases e1
      rw [List.length_map] at hi
      have s2 := s1.trans (same_new (o := .tup [.int (i : Nat), x2]) hT)
      have ed2 := same_new (o := .tup [.int (i : Nat), x2]) hT _ _ ed
      have eT : (upd H1 T (.tup [.int (i : Nat), x2])) T = some (.tup [.int (i : Nat), x2]) := upd_same
      generalize upd H1 T (.tup [.int (i : Nat), x2]) = H2 at s2 ed2 eT ⊢
      change (tops.map V.int)[i]? = some x2 at e2
      rw [List.getElem?_map] at e2
      obtain ⟨t, et, rfl⟩ := Option.map_eq_some_iff.mp e2
      have it1 := it t (List.mem_of_getElem? et)
      have edr : tops.drop i = t :: tops.drop (i + 1) := by
        rw [List.drop_eq_getElem_cons hi]
        congr 1
        rw [List.getElem?_eq_getElem hi] at et
        exact Option.some.inj et
      rw [edr] at ec
      have ec : comeTo pcs tops 0 [] = ((goOn pcs (i : Int) (pcs.length + 1 - cs.length) cs t).bind (endTop (i : Int))).bind (comeTo pcs (tops.drop (i + 1)) (i + 1)) := ec
      walk_at "rr"
      refine r_while (fun m σ H3 => ∃ (cs' : List Int) (at_ : Int), m = pcs.length - cs'.length ∧ goOn pcs (i : Int) (pcs.length + 1 - cs.length) cs t = goOn pcs (i : Int) (pcs.length + 1 - cs'.length) cs' at_ ∧ cs'.length ≤ pcs.length ∧ -1 ≤ at_ ∧ at_ < pcs.length ∧ σ = [some (.ref a), some (.ref b), some (.ref d), some (.int i), some (.int t), some (.int at_)] ∧ Same H H3 ∧ H3 d = some (.dK (kd cs')))
        _ ⟨cs, t, rfl, rfl, lc, it1.1, it1.2, rfl, s2, ed2⟩ ?_
      rintro m σ H3 ⟨cs', at_, rfl, eg, lc', a0, a1, rfl, s3, ed3⟩
      obtain ⟨f, ef⟩ : ∃ f, pcs.length + 1 - cs'.length = f + 1 := ⟨pcs.length - cs'.length, by omega⟩
      rw [ef] at eg
      have eg : _ = (if at_ = -1 ∨ (0 ≤ at_ ∧ at_ < (cs'.length : Int)) then some (cs', at_) else if at_ = (cs'.length : Int) then goOn pcs (i : Int) f (cs' ++ [(i : Int)]) (under pcs at_) else none) := eg
      walk_at "rr"
      rw [dint]
      by_cases c1 : at_ = -1
      · rw [if_pos (.inl c1)] at eg
        refine r_itF (by rw [decide_eq_true c1]; rfl) ?_
        walk_at "rr"
        refine r_itF rfl ?_
        walk_at "rr"
        rw [dint]
        refine r_itF (by rw [decide_eq_true c1]; rfl) ?_
        refine r_itF rfl ?_
        walk_at "rr"
        refine ⟨cs', _, _, _, rfl, s3, ed3, lc', ?_⟩
        rw [ec, eg]
        show (endTop (i : Int) (cs', at_)).bind _ = _
        unfold endTop
        rw [if_neg (fun h => h.1 c1)]
        rfl
      · refine r_itT (by rw [decide_eq_false c1]; rfl) ?_
        walk_at "rr"
        refine r_dki ed3 ?_
        rw [kd_val]
        by_cases c2 : 0 ≤ at_ ∧ at_ < (cs'.length : Int)
        · rw [if_pos (.inr c2)] at eg
          rw [if_pos c2]
          walk_at "rr"
          refine r_itF rfl ?_
          walk_at "rr"
          rw [dint]
          refine r_itT (by rw [decide_eq_false c1]; rfl) ?_
          walk_at "rr"
          refine r_gki ed3 (by rw [kd_val, if_pos c2]) ?_
          walk_at "rr"
          rw [dint]
          have ee : comeTo pcs tops 0 [] = (endTop (i : Int) (cs', at_)).bind (comeTo pcs (tops.drop (i + 1)) (i + 1)) := by rw [ec, eg]; rfl
          unfold endTop at ee
          refine r_d (fun hc => ?_) (fun hc => ?_)
          · walk_at "rr"
            rw [if_pos ⟨c1, hc⟩] at ee
            have : isCome pcs tops = false := by
              unfold isCome
              rw [ee]
              rfl
            rw [← this]
            exact q _ s3
          · walk_at "rr"
            rw [if_neg (fun h => hc h.2)] at ee
            exact ⟨cs', _, _, _, rfl, s3, ed3, lc', ee⟩
        · rw [if_neg (by simp [c1]; omega)] at eg
          rw [if_neg c2]
          walk_at "rr"
          refine r_itT rfl ?_
          walk_at "rr"
          refine ⟨d, _, rfl, ed3, ?_⟩
          walk_at "rr"
          rw [dint, kd_len]
          by_cases c3 : at_ = (cs'.length : Int)
          · rw [if_pos c3] at eg
            refine r_itF (by rw [decide_eq_true c3]; rfl) ?_
            walk_at "rr"
            refine r_pki ed3 (by rw [kd_len]; exact szl (by omega)) ?_
            rw [c3, kd_put]
            rw [← c3]
            have s4 := Same.own (o := .dK (kd (cs' ++ [(i : Int)]))) s3 hd
            obtain ⟨v, ev, ta, la, rfl, eta, -⟩ := paired_at wa (pc_at (by omega) a1)
            have etn := at_of (show at_ = ((at_.toNat : Nat) : Int) by omega) ev
            have un := ip (under pcs at_) (List.mem_map.mpr ⟨_, List.mem_of_getElem? (pc_at (by omega) a1), rfl⟩)
            walk_at "rr"
            refine r_ixl (s4 _ _ ea) etn ?_
            walk_at "rr"
            refine r_ixt (s4 _ _ eta) rfl ?_
            walk_at "rr"
            refine ⟨_, ?_, cs' ++ [(i : Int)], under pcs at_, rfl, ?_, by rw [List.length_append]; simp; omega, un.1, un.2, rfl, s4, upd_same⟩
            · rw [List.length_append]
              simp
              omega
            · rw [eg]
              congr 1
              rw [List.length_append]
              simp
              omega
          · rw [if_neg c3] at eg
            refine r_itT (by rw [decide_eq_false c3]; rfl) ?_
            walk_at "rr"
            have : isCome pcs tops = false := by
              unfold isCome
              rw [ec, eg]
              rfl
            rw [← this]
            exact q _ s3
    · rintro σ H1 ⟨cs, u1, u2, u3, rfl, s1, ed, lc, ec⟩
      rw [List.length_map, List.drop_length] at ec
      walk_at "rr"
      refine ⟨d, _, rfl, ed, ?_⟩
      walk_at "rr"
      refine r_lenl (s1 _ _ ea) ?_
      walk_at "rr"
      rw [dint, kd_len, lx]
      have : isCome pcs tops = decide ((cs.length : Int) = (pcs.length : Int)) := by
        unfold isCome
        rw [ec]
        show decide _ = decide _
        exact decide_eq_decide.mpr (by omega)
      rw [← this]
      exact q _ s1
/-! ### is_paper -/
abbrev s_is_paper : Stmt := top 8
theorem sc_is_paper : FnScope ["size", "paper", "pieces", "tops", "many", "under", "worths", "top"] ["size", "paper"] (defScope s_is_paper) := ⟨rfl, rfl, rfl, by decide +kernel, rfl, by decide +kernel, by decide +kernel⟩
def sp_is_paper (_ : PySem.W.Frag) : Sp := fun vs H Q _ => ∃ (size : Int) (v : V) (pcs : List Pc) (tops : List Int), vs = [.int size, v] ∧ PaperAt H v pcs tops ∧ 2 ≤ size ∧ size ≤ 64 ∧ pcs.length ≤ 1000 ∧ tops.length ≤ 1000 ∧
  ∀ (H' : Hp), Same H H' → Q (.bl (isPaper size pcs tops)) H'
theorem ok_is_paper {fa : Addr} {fd : FuncData} (F : Fun K "is_paper" "is_paper" s_is_paper fa fd) (TX : Tx mg)
    (C_as_come_to : Cal P w K mg base CX0 1 "as_come_to" ["pieces", "tops"] (sp_as_come_to K))
    (C_sized : Cal P w K mg base CX0 1 "sized" ["size"] (sp_sized K)) :
    FnOk P w K mg base CX0 2 fa fd ["size", "paper"] (sp_is_paper K) := by
  refine F.ok sc_is_paper (fun vs H Q E h => ?_) (fun cdv A outer s H vs Q E hr h => ?_)
  · obtain ⟨size, v, pcs, tops, rfl, ⟨t, a, b, rfl, et, ⟨xs, ea, wa⟩, eb⟩, z0, z1, lp, lt, q⟩ := h
    rfl
  · obtain ⟨size, v, pcs, tops, rfl, ⟨t, a, b, rfl, et, ⟨xs, ea, wa⟩, eb⟩, z0, z1, lp, lt, q⟩ := h
    have hu := hu_of hr
    have hu64 := hr.units
    have hu65 := hu65_of hr
    have lx := paired_len wa
    have eb' : H b = some (.lst (tops.map V.int)) := eb
    refine ⟨_, (pss_cons (ps_expr (pe_cal C_sized (hr.mono (by decide)) (by rfl) pass0 (pa_cons (pv 0) pa_nil)))
  (pss_cons (ps_asg (pv 1) (pg_tup rfl (pgs_cons (pg_name (i := 2) sc_is_paper.nd rfl (Or.inl rfl)) (pgs_cons (pg_name (i := 3) sc_is_paper.nd rfl (Or.inl rfl)) pgs_nil))))
  (pss_cons (ps_set (i := 4) sc_is_paper.nd rfl (Or.inl rfl) (pe_callB call_len (by rfl) TX.n_len (by decide +kernel) (pa_cons (pv 2) pa_nil)))
  (pss_cons (ps_for PassesOwn.never rfl (pi_list (pv 2)) (pg_tup rfl (pgs_cons (pg_name (i := 5) sc_is_paper.nd rfl (Or.inl rfl)) (pgs_cons (pg_name (i := 6) sc_is_paper.nd rfl (Or.inl rfl)) pgs_nil)))
  (pss_one (ps_if (PW.pt (pw_or (pt_cmpR op_lt (pv 5) (pe_un un_neg pe_int) (nomark _)) (pw_or (pt_cmpR op_ge (pv 5) (pv 4) (nomark _)) (pw_or (pt_cmpR op_lt (pe_callB call_len (by rfl) TX.n_len (by decide +kernel) (pa_cons (pv 6) pa_nil)) pe_int (nomark _)) (pw_or1 (pt_cmpR op_gt (pe_callB call_len (by rfl) TX.n_len (by decide +kernel) (pa_cons (pv 6) pa_nil)) (pv 0) (nomark _))))))) (pss_one (ps_ret pe_bl)) pss_nil)))
  (pss_cons (ps_for PassesOwn.never rfl (pi_list (pv 3)) (pg_name (i := 7) sc_is_paper.nd rfl (Or.inl rfl))
  (pss_one (ps_if (PW.pt (pw_or (pt_cmpR op_lt (pv 7) (pe_un un_neg pe_int) (nomark _)) (pw_or1 (pt_cmpR op_ge (pv 7) (pv 4) (nomark _))))) (pss_one (ps_ret pe_bl)) pss_nil)))
  (pss_one (ps_ret (pe_cal C_as_come_to (hr.mono (by decide)) (by rfl) pass0 (pa_cons (pv 2) (pa_cons (pv 3) pa_nil)))))))))), ?_⟩
    refine r_begin (show L2.start _ _ = [some _, some _, none, none, none, none, none, none] from rfl) ?_
    try dsimp only [cxOf]
    walk_at "rr"
    refine ⟨size, rfl, z0, z1, ?_⟩
    walk_at "rr"
    refine r_lenl ea ?_
    walk_at "rr"
    rw [lx]
    refine r_ilw ea ?_
    refine L_list (xs := xs) (fun i σ H1 => ∃ (u1 u2 : Option V), σ = [some (.int size), some (.ref t), some (.ref a), some (.ref b), some (.int pcs.length), u1, u2, none] ∧ Same H H1 ∧ (pcs.take i).all (okP size pcs.length) = true)
      ⟨_, _, rfl, Same.refl H, rfl⟩ ?_ ?_ ?_
    · rintro i σ H1 hi ⟨u1, u2, rfl, s1, hall⟩
      exact .inl (.inl (s1 _ _ ea))
    · rintro i x σ H1 hx ⟨u1, u2, rfl, s1, hall⟩
      obtain ⟨⟨u, ws⟩, epc, tx, l, rfl, etx, ys, el, wl⟩ := G.paired_get wa hx
      have ly : ys.length = ws.length := wl.len
      have etx1 := s1 _ _ etx
      have el1 := s1 _ _ el
      have bad : okP size pcs.length (u, ws) = false → isPaper size pcs tops = false := by
        intro h
        unfold isPaper
        have : pcs.all (okP size pcs.length) = false := by
          rw [List.all_eq_false]
          exact ⟨_, List.mem_of_getElem? epc, by rw [h]; simp⟩
        rw [this, Bool.false_and]
      walk_at "rr"
      refine r_ite (fun hc => ?_) (fun hc => ?_)
      · refine r_itT rfl ?_
        walk_at "rr"
        rw [← bad (by simp at hc; simp [okP]; omega)]
        exact q _ s1
      · walk_at "rr"
        refine r_ite (fun hc2 => ?_) (fun hc2 => ?_)
        · refine r_itT rfl ?_
          walk_at "rr"
          rw [← bad (by simp at hc2; simp [okP]; omega)]
          exact q _ s1
        · walk_at "rr"
          refine r_lenl el1 ?_
          walk_at "rr"
          refine r_ite (fun hc3 => ?_) (fun hc3 => ?_)
          · refine r_itT rfl ?_
            walk_at "rr"
            rw [← bad (by simp at hc3; simp [okP]; omega)]
            exact q _ s1
          · walk_at "rr"
            refine r_lenl el1 ?_
            walk_at "rr"
            refine r_ite (fun hc4 => ?_) (fun hc4 => ?_)
            · walk_at "rr"
              rw [← bad (by simp at hc4; simp [okP]; omega)]
              exact q _ s1
            · walk_at "rr"
              refine ⟨_, _, rfl, s1, ?_⟩
              rw [List.take_add_one, epc, List.all_append, hall]
              simp at hc hc2 hc3 hc4
              simp [okP]
              omega
    · rintro σ H1 ⟨u1, u2, rfl, s1, hall⟩
      rw [lx, List.take_length] at hall
      have ep : isPaper size pcs tops = (tops.all (okT pcs.length) && isCome pcs tops) := by
        unfold isPaper
        rw [hall, Bool.true_and]
      rw [ep] at q
      walk_at "rr"
      refine r_ilw (s1 _ _ eb') ?_
      refine L_list (xs := tops.map V.int) (fun i σ H1 => ∃ (u1 u2 u3 : Option V), σ = [some (.int size), some (.ref t), some (.ref a), some (.ref b), some (.int pcs.length), u1, u2, u3] ∧ Same H H1 ∧ (tops.take i).all (okT pcs.length) = true)
        ⟨_, _, _, rfl, s1, rfl⟩ ?_ ?_ ?_
      · rintro i σ H1 hi ⟨u1, u2, u3, rfl, s2, hall⟩
        exact .inl (.inl (s2 _ _ eb'))
      · rintro i x σ H1 hx ⟨u1, u2, u3, rfl, s2, hall2⟩
        rw [List.getElem?_map] at hx
        obtain ⟨y, ey, rfl⟩ := Option.map_eq_some_iff.mp hx
        have bad : okT pcs.length y = false → (tops.all (okT pcs.length) && isCome pcs tops) = false := by
          intro h
          have : tops.all (okT pcs.length) = false := by
            rw [List.all_eq_false]
            exact ⟨_, List.mem_of_getElem? ey, by rw [h]; simp⟩
          rw [this, Bool.false_and]
        walk_at "rr"
        refine r_ite (fun hc => ?_) (fun hc => ?_)
        · refine r_itT rfl ?_
          walk_at "rr"
          rw [← bad (by simp at hc; simp [okT]; omega)]
          exact q _ s2
        · walk_at "rr"
          refine r_ite (fun hc2 => ?_) (fun hc2 => ?_)
          · walk_at "rr"
            rw [← bad (by simp at hc2; simp [okT]; omega)]
            exact q _ s2
          · walk_at "rr"
            refine ⟨_, _, _, rfl, s2, ?_⟩
            rw [List.take_add_one, ey, List.all_append, hall2]
            simp at hc hc2
            simp [okT]
            omega
      · rintro σ H1 ⟨u1, u2, u3, rfl, s2, hall2⟩
        rw [List.length_map, List.take_length] at hall2
        rw [hall2, Bool.true_and] at q
        walk_at "rr"
        refine ⟨a, b, pcs, tops, rfl, PcsAt.same s2 ⟨xs, ea, wa⟩, IntsAt.same s2 eb, lp, lt, ?_, ?_, ?_⟩
        · intro z m
          obtain ⟨p, mp, rfl⟩ := List.mem_map.mp m
          have := List.all_eq_true.mp hall p mp
          simp [okP] at this
          omega
        · intro z m
          have := List.all_eq_true.mp hall2 z m
          simp [okT] at this
          omega
        · intro H' s'
          exact q H' (s2.trans s')
/-! ### _law_cell_at -/
abbrev s__law_cell_at : Stmt := top 10
theorem sc__law_cell_at : FnScope ["script", "k"] ["script", "k"] (defScope s__law_cell_at) := ⟨rfl, rfl, rfl, by decide +kernel, rfl, by decide +kernel, by decide +kernel⟩
def sp__law_cell_at (K : PySem.W.Frag) : Sp := fun vs H Q _ => ∃ (a : Addr) (ns : List Int) (k : Int), vs = [.ref a, .int k] ∧ SqL K H a (ns.map V.int) ∧ 0 ≤ k ∧ ns.length ≤ 63 ∧ ∀ c : Int, Q (.int c) H
theorem ok__law_cell_at {fa : Addr} {fd : FuncData} (F : Fun K "_law_cell_at" "_law_cell_at" s__law_cell_at fa fd) (TX : Tx mg) :
    FnOk P w K mg base CX0 1 fa fd ["script", "k"] (sp__law_cell_at K) := by
  refine F.ok sc__law_cell_at (fun vs H Q E h => ?_) (fun cdv A outer s H vs Q E hr h => ?_)
  · obtain ⟨a, ns, k, rfl, hS, hk, hn, q⟩ := h
    rfl
  · obtain ⟨a, ns, k, rfl, hS, hk, hn, q⟩ := h
    have hu := hu_of hr
    have hu64 := hr.units
    have hu65 := hu65_of hr
    refine ⟨_, (pss_cons (ps_if (pt_cmpR op_lt (pv 1) (pe_callB call_len (by rfl) TX.n_len (by decide +kernel) (pa_cons (pv 0) pa_nil)) (nomark _)) (pss_one (ps_ret (pe_ix ix_list (pv 0) (pv 1) (fun _ _ => rfl)))) pss_nil)
  (pss_one (ps_ret pe_int))), ?_⟩
    refine r_begin (show L2.start _ _ = [some _, some _] from rfl) ?_
    try dsimp only [cxOf]
    walk_at "rr"
    refine ⟨_, _, rfl, .inl ⟨_, hS, rfl⟩, ?_⟩
    walk_at "rr"
    refine r_d (fun hc => ?_) (fun hc => ?_)
    · walk_at "rr"
      rw [List.length_map] at hc
      obtain ⟨j, rfl⟩ : ∃ j : Nat, k = (j : Int) := ⟨k.toNat, by omega⟩
      have hj : j < ns.length := by omega
      have e : (ns.map V.int)[j]? = some (.int ns[j]) := by
        rw [List.getElem?_map, List.getElem?_eq_getElem hj]
        rfl
      refine r_ixL hS (atI_nat e) ?_
      exact q _
    · walk_at "rr"
      exact q _
/-! ### _law_bag -/
abbrev s__law_bag : Stmt := top 11
theorem sc__law_bag : FnScope ["cell", "place"] ["cell", "place"] (defScope s__law_bag) := ⟨rfl, rfl, rfl, by decide +kernel, rfl, by decide +kernel, by decide +kernel⟩
def sp__law_bag (_ : PySem.W.Frag) : Sp := fun vs H Q _ => ∃ (c k : Int), vs = [.int c, .int k] ∧ 0 ≤ k ∧ k ≤ 63 ∧ ∀ (p : Addr) (H' : Hp), H p = none → Same H H' → BagAt H' p 0 → Q (.ref p) H'
theorem ok__law_bag {fa : Addr} {fd : FuncData} (F : Fun K "_law_bag" "_law_bag" s__law_bag fa fd) (TX : Tx mg) :
    FnOk P w K mg base CX0 1 fa fd ["cell", "place"] (sp__law_bag K) := by
  refine F.ok sc__law_bag (fun vs H Q E h => ?_) (fun cdv A outer s H vs Q E hr h => ?_)
  · obtain ⟨c, k, rfl, hk, hk2, q⟩ := h
    rfl
  · obtain ⟨c, k, rfl, hk, hk2, q⟩ := h
    have hu := hu_of hr
    have hu64 := hr.units
    have hu65 := hu65_of hr
    refine ⟨_, (pss_one (ps_ret (pe_lst (pa_cons (pe_callB (call_max2 rfl) (by rfl) TX.n_max (by decide +kernel) (pa_cons pe_int (pa_cons (pe_op op_sub (pv 0) (pe_op op_pow pe_int pe_int)) pa_nil))) (pa_cons (pe_op op_add (pe_op op_mod (pv 0) pe_int) (pe_op op_mul pe_int (pv 1))) (pa_cons pe_int pa_nil)))))), ?_⟩
    refine r_begin (show L2.start _ _ = [some _, some _] from rfl) ?_
    try dsimp only [cxOf]
    walk_at "rr"
    refine ⟨_, _, rfl, ?_⟩
    walk_at "rr"
    refine ⟨by show 3 ≤ sizeLine; decide, fun p hp => ?_⟩
    have g := Int.emod_nonneg c (show (2305843009213693951 : Int) ≠ 0 by decide)
    have g2 := Int.emod_lt_of_pos c (show (0 : Int) < 2305843009213693951 by decide)
    exact q p _ hp (same_new hp) ⟨_, _, _, upd_same, by omega, by omega, by omega, by omega⟩
/-! ### _law_draw -/
abbrev s__law_draw : Stmt := top 12
theorem sc__law_draw : FnScope ["bag", "many", "found", "mixed"] ["bag", "many"] (defScope s__law_draw) := ⟨rfl, rfl, rfl, by decide +kernel, rfl, by decide +kernel, by decide +kernel⟩
def sp__law_draw (_ : PySem.W.Frag) : Sp := fun vs H Q _ => ∃ (p : Addr) (m : Int) (n : Nat), vs = [.ref p, .int m] ∧ BagAt H p n ∧ 0 < m ∧ m.natAbs < 2 ^ 220 ∧ n < 1000000000 ∧
  ∀ (i : Int) (H' : Hp), 0 ≤ i → i < m → But p H H' → BagAt H' p (n + 1) → Q (.int i) H'
theorem ok__law_draw {fa : Addr} {fd : FuncData} (F : Fun K "_law_draw" "_law_draw" s__law_draw fa fd) (TX : Tx mg) :
    FnOk P w K mg base CX0 1 fa fd ["bag", "many"] (sp__law_draw K) := by
  refine F.ok sc__law_draw (fun vs H Q E h => ?_) (fun cdv A outer s H vs Q E hr h => ?_)
  · obtain ⟨p, m, n, rfl, ⟨a, b, c, eb, h1, h2, h3, h4⟩, hm, hm2, hn, k⟩ := h
    rfl
  · obtain ⟨p, m, n, rfl, ⟨a, b, c, eb, h1, h2, h3, h4⟩, hm, hm2, hn, k⟩ := h
    have hu := hu_of hr
    have hu64 := hr.units
    have hu65 := hu65_of hr
    refine ⟨_, (pss_cons (ps_if (pt_cmpR op_gt (pe_ix ix_list (pv 0) pe_int (fun _ _ => rfl)) pe_int (nomark _)) (pss_cons (ps_set (i := 2) sc__law_draw.nd rfl (Or.inl rfl) (pe_op op_mod (pe_ix ix_list (pv 0) pe_int (fun _ _ => rfl)) (pv 1)))
  (pss_cons (ps_asg (pe_op op_fdivW (pe_ix ix_list (pv 0) pe_int (fun _ _ => rfl)) (pv 1)) (pg_sub (pv 0) pe_int set_list))
  (pss_one (ps_ret (pv 2))))) pss_nil)
  (pss_cons (ps_asg (pe_op op_add (pe_ix ix_list (pv 0) pe_int (fun _ _ => rfl)) pe_int) (pg_sub (pv 0) pe_int set_list))
  (pss_cons (ps_set (i := 3) sc__law_draw.nd rfl (Or.inl rfl) (pe_op op_mod (pe_op op_pow (pe_op op_add (pe_ix ix_list (pv 0) pe_int (fun _ _ => rfl)) (pe_op op_mul pe_int (pe_ix ix_list (pv 0) pe_int (fun _ _ => rfl)))) pe_int) pe_int))
  (pss_cons (ps_set (i := 3) sc__law_draw.nd rfl (Or.inl rfl) (pe_op op_mod (pe_op op_pow (pe_op op_add (pv 3) (pe_op op_mul pe_int (pe_ix ix_list (pv 0) pe_int (fun _ _ => rfl)))) pe_int) pe_int))
  (pss_one (ps_ret (pe_op op_mod (pe_op op_fdivW (pv 3) pe_int) (pv 1)))))))), ?_⟩
    refine r_begin (show L2.start _ _ = [some _, some _, none, none] from rfl) ?_
    try dsimp only [cxOf]
    walk_at "rr"
    refine r_d (fun hc => ?_) (fun hc => ?_)
    · walk_at "rr"
      refine r_setL (j := 0) (ys := [.int (a / m), .int b, .int c]) eb rfl rfl ?_
      walk_at "rr"
      exact k _ _ (Int.emod_nonneg _ (by omega)) (Int.emod_lt_of_pos _ hm) But.upd ⟨_, _, _, upd_same, h1, h2, h3, by omega⟩
    · walk_at "rr"
      refine r_setL (j := 2) (ys := [.int a, .int b, .int (c + 1)]) eb rfl rfl ?_
      have e2 : (upd H p (.lst [.int a, .int b, .int (c + 1)])) p = some (.lst [.int a, .int b, .int (c + 1)]) := upd_same
      walk_at "rr"
      have g := fun x : Int => Int.emod_nonneg x (show (2305843009213693951 : Int) ≠ 0 by decide)
      have g2 := fun x : Int => Int.emod_lt_of_pos x (show (0 : Int) < 2305843009213693951 by decide)
      generalize (b + 7368787 * (c + 1)) ^ Int.toNat 3 = z
      have g3 := g z
      have g4 := g2 z
      walk_at "rr"
      exact k _ _ (Int.emod_nonneg _ (by omega)) (Int.emod_lt_of_pos _ hm) But.upd ⟨_, _, _, upd_same, h1, h2, by omega, by omega⟩
/-! ### _law_worth -/
abbrev s__law_worth : Stmt := top 13
theorem sc__law_worth : FnScope ["bag", "few", "at", "word", "number", "k"] ["bag", "few"] (defScope s__law_worth) := ⟨rfl, rfl, rfl, by decide +kernel, rfl, by decide +kernel, by decide +kernel⟩
def sp__law_worth (_ : PySem.W.Frag) : Sp := fun vs H Q _ => ∃ (p : Addr) (few : Int) (n : Nat), vs = [.ref p, .int few] ∧ BagAt H p n ∧ 1 ≤ few ∧ few ≤ 64 ∧ n + 30 < 1000000000 ∧
  ∀ (t : V) (w : Wo) (H' : Hp), WoAt H' t w → But p H H' → BagAt H' p (n + 20) → Q t H'
theorem words4 {i : Int} (h0 : 0 ≤ i) (h7 : i < 4) : ∃ (z : Str), atI [V.str "num", .str "at", .str "box", .str "go"] i = some (.str z) ∧ PyData.strOk z = true := by
  have c : i = 0 ∨ i = 1 ∨ i = 2 ∨ i = 3 := by omega
  rcases c with rfl | rfl | rfl | rfl <;> exact ⟨_, rfl, by decide +kernel⟩
theorem ok__law_worth {fa : Addr} {fd : FuncData} (F : Fun K "_law_worth" "_law_worth" s__law_worth fa fd) (TX : Tx mg)
    (C__law_draw : Cal P w K mg base CX0 1 "_law_draw" ["bag", "many"] (sp__law_draw K)) :
    FnOk P w K mg base CX0 2 fa fd ["bag", "few"] (sp__law_worth K) := by
  refine F.ok sc__law_worth (fun vs H Q E h => ?_) (fun cdv A outer s H vs Q E hr h => ?_)
  · obtain ⟨p, few, n, rfl, hb, hf, hf2, hn, k⟩ := h
    rfl
  · obtain ⟨p, few, n, rfl, hb, hf, hf2, hn, k⟩ := h
    have hu := hu_of hr
    have hu64 := hr.units
    have hu65 := hu65_of hr
    refine ⟨_, (pss_cons (ps_set (i := 2) sc__law_worth.nd rfl (Or.inl rfl) (pe_cal C__law_draw (hr.mono (by decide)) (by rfl) pass0 (pa_cons (pv 0) (pa_cons (pv 1) pa_nil))))
  (pss_cons (ps_set (i := 3) sc__law_worth.nd rfl (Or.inl rfl) (pe_ix ix_list (pe_lst (pa_cons pe_str (pa_cons pe_str (pa_cons pe_str (pa_cons pe_str pa_nil))))) (pe_op op_mod (pv 2) pe_int) (fun _ _ => rfl)))
  (pss_cons (ps_if (pt_cmpR op_lt (pv 2) pe_int (nomark _)) (pss_one (ps_ret (pe_tup (pa_cons (pv 3) (pa_cons (pe_op op_fdivW (pv 2) pe_int) pa_nil))))) pss_nil)
  (pss_cons (ps_set (i := 4) sc__law_worth.nd rfl (Or.inl rfl) pe_int)
  (pss_cons (ps_for PassesOwn.never rfl (pi_range1 (by rfl) TX.range (pa_cons pe_int pa_nil)) (pg_name (i := 5) sc__law_worth.nd rfl (Or.inl rfl))
  (pss_one (ps_set (i := 4) sc__law_worth.nd rfl (Or.inl rfl) (pe_op op_add (pe_op op_mul (pv 4) (pe_op op_pow pe_int pe_int)) (pe_cal C__law_draw (hr.mono (by decide)) (by rfl) pass0 (pa_cons (pv 0) (pa_cons (pe_op op_pow pe_int pe_int) pa_nil)))))))
  (pss_cons (ps_if (PW.pt (pw_and (pt_cmpR op_eq (pv 3) pe_str (nomark _)) (pw_and1 (pt_cmpR op_eq (pe_op op_mod (pv 4) pe_int) pe_int (nomark _))))) (pss_one (ps_ret (pe_tup (pa_cons (pv 3) (pa_cons (pe_op op_sub pe_int (pv 4)) pa_nil))))) pss_nil)
  (pss_one (ps_ret (pe_tup (pa_cons (pv 3) (pa_cons (pv 4) pa_nil))))))))))), ?_⟩
    refine r_begin (show L2.start _ _ = [some _, some _, none, none, none, none] from rfl) ?_
    try dsimp only [cxOf]
    walk_at "rr"
    refine ⟨p, few, n, rfl, hb, by omega, by omega, by omega, fun i H1 i0 i8 b1 B1 => ?_⟩
    walk_at "rr"
    refine ⟨by show 4 ≤ sizeLine; decide, fun l hl => ?_⟩
    walk_at "rr"
    have m0 := Int.emod_nonneg i (show (4 : Int) ≠ 0 by decide)
    have m4 := Int.emod_lt_of_pos i (show (0 : Int) < 4 by decide)
    obtain ⟨z, ez, zo⟩ := words4 m0 m4
    refine r_ixl upd_same ez ?_
    have b1' := b1.trans (But.of (same_new (o := .lst [V.str "num", .str "at", .str "box", .str "go"]) hl))
    have B1' := B1.upd (o := .lst [V.str "num", .str "at", .str "box", .str "go"]) hl
    walk_at "rr"
    have fin : ∀ (H2 : Hp) (m : Int), But p H H2 → BagAt H2 p (n + 20) → ∀ t, H2 t = none → Q (.ref t) (upd H2 t (.tup [.str z, .int m])) := fun H2 m b2 B2 t ht =>
      k _ (z, m) _ ⟨t, rfl, upd_same, zo⟩ (b2.trans (But.of (same_new ht))) (B2.upd ht)
    refine r_d (fun hc => ?_) (fun hc => ?_)
    · walk_at "rr"
      exact ⟨by show 2 ≤ sizeLine; decide, fin _ _ b1' (B1'.mono (by omega))⟩
    · walk_at "rr"
      refine L_range (fun j σ H3 => ∃ (f : Int) (y : Option V), σ = [some (.ref p), some (.int few), some (.int i), some (.str z), some (.int f), y] ∧ But p H H3 ∧ BagAt H3 p (n + 2 + j)) ⟨0, none, rfl, b1', B1'.mono (by omega)⟩ ?_ ?_
      · rintro j σ H3 hj ⟨f, y, rfl, b3, B3⟩
        walk_at "rr"
        refine ⟨p, _, _, rfl, B3, by decide, by decide, by omega, fun i H4 i0 i1 b4 B4 => ?_⟩
        walk_at "rr"
        exact ⟨_, _, rfl, b3.trans b4, B4⟩
      · rintro σ H3 ⟨f, y, rfl, b3, B3⟩
        have fin' := fun m => fin H3 m b3 (B3.mono (by omega))
        walk_at "rr"
        refine r_d (fun hc => ?_) (fun hc => ?_)
        · walk_at "rr"
          refine r_d (fun hc => ?_) (fun hc => ?_)
          · walk_at "rr"
            exact ⟨by show 2 ≤ sizeLine; decide, fin' _⟩
          · walk_at "rr"
            exact ⟨by show 2 ≤ sizeLine; decide, fin' _⟩
        · refine r_itF rfl ?_
          walk_at "rr"
          exact ⟨by show 2 ≤ sizeLine; decide, fin' _⟩
/-! ### _law_size -/
abbrev s__law_size : Stmt := top 14
theorem sc__law_size : FnScope ["bag"] ["bag"] (defScope s__law_size) := ⟨rfl, rfl, rfl, by decide +kernel, rfl, by decide +kernel, by decide +kernel⟩
def sp__law_size (_ : PySem.W.Frag) : Sp := fun vs H Q _ => ∃ (p : Addr) (n : Nat), vs = [.ref p] ∧ BagAt H p n ∧ n + 10 < 1000000000 ∧
  ∀ (i : Int) (H' : Hp), 2 ≤ i → i ≤ 64 → But p H H' → BagAt H' p (n + 2) → Q (.int i) H'
theorem ok__law_size {fa : Addr} {fd : FuncData} (F : Fun K "_law_size" "_law_size" s__law_size fa fd) (TX : Tx mg)
    (C__law_draw : Cal P w K mg base CX0 1 "_law_draw" ["bag", "many"] (sp__law_draw K)) :
    FnOk P w K mg base CX0 2 fa fd ["bag"] (sp__law_size K) := by
  refine F.ok sc__law_size (fun vs H Q E h => ?_) (fun cdv A outer s H vs Q E hr h => ?_)
  · obtain ⟨p, n, rfl, hb, hn, k⟩ := h
    rfl
  · obtain ⟨p, n, rfl, hb, hn, k⟩ := h
    have hu := hu_of hr
    have hu64 := hr.units
    have hu65 := hu65_of hr
    refine ⟨_, (pss_cons (ps_if (pt_cmpR op_gt (pe_cal C__law_draw (hr.mono (by decide)) (by rfl) pass0 (pa_cons (pv 0) (pa_cons pe_int pa_nil))) pe_int (nomark _)) (pss_one (ps_ret (pe_op op_add pe_int (pe_cal C__law_draw (hr.mono (by decide)) (by rfl) pass0 (pa_cons (pv 0) (pa_cons pe_int pa_nil)))))) pss_nil)
  (pss_one (ps_ret (pe_op op_add pe_int (pe_cal C__law_draw (hr.mono (by decide)) (by rfl) pass0 (pa_cons (pv 0) (pa_cons pe_int pa_nil))))))), ?_⟩
    refine r_begin (show L2.start _ _ = [some _] from rfl) ?_
    try dsimp only [cxOf]
    walk_at "rr"
    refine ⟨p, 3, n, rfl, hb, by decide, by decide, by omega, fun i H1 _ _ b1 B1 => ?_⟩
    walk_at "rr"
    refine r_d (fun hc => ?_) (fun hc => ?_)
    · walk_at "rr"
      refine ⟨p, 4, _, rfl, B1, by decide, by decide, by omega, fun i H2 i0 i1 b2 B2 => ?_⟩
      walk_at "rr"
      exact k _ _ (by omega) (by omega) (b1.trans b2) B2
    · walk_at "rr"
      refine ⟨p, 63, _, rfl, B1, by decide, by decide, by omega, fun i H2 i0 i1 b2 B2 => ?_⟩
      walk_at "rr"
      exact k _ _ (by omega) (by omega) (b1.trans b2) B2
/-! ### _law_raw -/
abbrev s__law_raw : Stmt := top 15
theorem sc__law_raw : FnScope ["bag", "size", "most", "unlike", "many", "shape", "few", "raw", "piles", "k", "under", "long", "worths", "below", "j"] ["bag", "size", "most", "unlike"] (defScope s__law_raw) := ⟨rfl, rfl, rfl, by decide +kernel, rfl, by decide +kernel, by decide +kernel⟩
def sp__law_raw (_ : PySem.W.Frag) : Sp := fun vs H Q _ => ∃ (p : Addr) (size : Int) (most : Nat) (unlike : Int) (n : Nat), vs = [.ref p, .int size, .int (most : Int), .int unlike] ∧ BagAt H p n ∧ 2 ≤ size ∧ size ≤ 64 ∧ most ≤ 400 ∧ n + 1000000 < 1000000000 ∧
  ∀ (t r pl tp : Addr) (raw : List Pc) (piles : List (List Wo)) (tops : List Int) (H' : Hp), H' t = some (.tup [.ref r, .ref pl, .ref tp]) → Raw size most raw piles tops → PcsAt (del [p] H') r raw → PilesAt (del [p] H') pl piles → IntsAt (del [p] H') tp tops →
    But p H H' → BagAt H' p (n + 1000000) → Q (.ref t) H'
theorem ok__law_raw {fa : Addr} {fd : FuncData} (F : Fun K "_law_raw" "_law_raw" s__law_raw fa fd) (TX : Tx mg)
    (C__law_draw : Cal P w K mg base CX0 1 "_law_draw" ["bag", "many"] (sp__law_draw K))
    (C__law_worth : Cal P w K mg base CX0 2 "_law_worth" ["bag", "few"] (sp__law_worth K)) :
    FnOk P w K mg base CX0 3 fa fd ["bag", "size", "most", "unlike"] (sp__law_raw K) := by
  refine F.ok sc__law_raw (fun vs H Q E h => ?_) (fun cdv A outer s H vs Q E hr h => ?_)
  · obtain ⟨p, size, most, unlike, n, rfl, hb, hs, hs2, hmost, hn, k⟩ := h
    rfl
  · obtain ⟨p, size, most, unlike, n, rfl, hb, hs, hs2, hmost, hn, k⟩ := h
    have hu := hu_of hr
    have hu64 := hr.units
    have hu65 := hu65_of hr
    refine ⟨_, (pss_cons (ps_set (i := 4) sc__law_raw.nd rfl (Or.inr rfl) (pe_cal C__law_draw (hr.mono (by decide)) (by rfl) pass0 (pa_cons (pv 0) (pa_cons (pe_op op_add (pv 2) pe_int) pa_nil))))
  (pss_cons (ps_set (i := 5) sc__law_raw.nd rfl (Or.inl rfl) (pe_cal C__law_draw (hr.mono (by decide)) (by rfl) pass0 (pa_cons (pv 0) (pa_cons pe_int pa_nil))))
  (pss_cons (ps_set (i := 6) sc__law_raw.nd rfl (Or.inr rfl) (pe_ix ix_list (pe_lst (pa_cons pe_int (pa_cons pe_int (pa_cons pe_int pa_nil)))) (pe_cal C__law_draw (hr.mono (by decide)) (by rfl) pass0 (pa_cons (pv 0) (pa_cons pe_int pa_nil))) (fun _ _ => rfl)))
  (pss_cons (ps_set (i := 7) sc__law_raw.nd rfl (Or.inl rfl) (pe_lst pa_nil))
  (pss_cons (ps_set (i := 8) sc__law_raw.nd rfl (Or.inl rfl) (pe_lst pa_nil))
  (pss_cons (ps_for PassesOwn.never rfl (pi_range1 (by rfl) TX.range (pa_cons (pv 4) pa_nil)) (pg_name (i := 9) sc__law_raw.nd rfl (Or.inl rfl))
  (pss_cons (ps_set (i := 10) sc__law_raw.nd rfl (Or.inl rfl) (pe_op op_sub (pv 9) pe_int))
  (pss_cons (ps_if (pt_cmpR op_eq (pv 5) pe_int (nomark _)) (pss_one (ps_set (i := 10) sc__law_raw.nd rfl (Or.inl rfl) (pe_op op_sub (pe_cal C__law_draw (hr.mono (by decide)) (by rfl) pass0 (pa_cons (pv 0) (pa_cons (pe_op op_add (pv 9) pe_int) pa_nil))) pe_int))) pss_nil)
  (pss_cons (ps_if (pt_cmpR op_eq (pv 5) pe_int (nomark _)) (pss_one (ps_set (i := 10) sc__law_raw.nd rfl (Or.inl rfl) (pe_callB (call_max2 rfl) (by rfl) TX.n_max (by decide +kernel) (pa_cons (pe_un un_neg pe_int) (pa_cons (pe_op op_sub (pe_op op_sub (pv 9) pe_int) (pe_cal C__law_draw (hr.mono (by decide)) (by rfl) pass0 (pa_cons (pv 0) (pa_cons pe_int pa_nil)))) pa_nil))))) pss_nil)
  (pss_cons (ps_set (i := 11) sc__law_raw.nd rfl (Or.inl rfl) (pe_ix ix_list (pe_lst (pa_cons pe_int (pa_cons (pe_callB (call_min2 rfl) (by rfl) TX.n_min (by decide +kernel) (pa_cons (pv 1) (pa_cons pe_int pa_nil))) (pa_cons (pv 1) pa_nil)))) (pe_cal C__law_draw (hr.mono (by decide)) (by rfl) pass0 (pa_cons (pv 0) (pa_cons pe_int pa_nil))) (fun _ _ => rfl)))
  (pss_cons (ps_setLc (i := 12) (own := [("j", 14)]) (g := gName 14) (tt := tYes) rfl sc__law_raw.nd rfl rfl (sw_true rfl rfl rfl (by decide +kernel)) (pi_range1 (by rfl) TX.range (pa_cons (pe_op op_add pe_int (pe_cal C__law_draw (hr.mono (by decide)) (by rfl) pass0 (pa_cons (pv 0) (pa_cons (pv 11) pa_nil)))) pa_nil)) (blkOk_by (own := [("j", 14)]) (N := ["bag", "size", "most", "unlike", "many", "shape", "few", "raw", "piles", "k", "under", "long", "worths", "below", "j"]) (sc := defScope s__law_raw) (by decide +kernel)) (fun _ _ _ _ _ => (pg_name (i := 14) sc__law_raw.nd rfl (Or.inl rfl))) (fun _ _ _ _ _ => pts_nil) (fun _ _ _ _ _ => (pe_cal C__law_worth (hr.mono (by decide)) (by rfl) pass0 (pa_cons (pv 0) (pa_cons (pv 6) pa_nil)))))
  (pss_cons (ps_if (pt_cmpR op_eq (pv 3) pe_int (nomark _)) (pss_one (ps_asg (pe_tup (pa_cons pe_str (pa_cons (pe_op op_add pe_int (pv 9)) pa_nil))) (pg_sub (pv 12) pe_int set_list))) pss_nil)
  (pss_cons (ps_expr (pe_bm PySem.F.plainAttrs_list PySem.F.slot_list_append PySem.F.type_list_append mt_append (pv 7) (pa_cons (pe_tup (pa_cons (pv 10) (pa_cons (pv 12) pa_nil))) pa_nil)))
  (pss_cons (ps_set (i := 13) sc__law_raw.nd rfl (Or.inl rfl) (pe_lst pa_nil))
  (pss_cons (ps_if (pt_cmpR op_ge (pv 10) pe_int (nomark _)) (pss_one (ps_set (i := 13) sc__law_raw.nd rfl (Or.inl rfl) (pe_ix ix_list (pv 8) (pv 10) (fun _ _ => rfl)))) pss_nil)
  (pss_one (ps_expr (pe_bm PySem.F.plainAttrs_list PySem.F.slot_list_append PySem.F.type_list_append mt_append (pv 8) (pa_cons (pe_op op_cat (pv 13) (pv 12)) pa_nil))))))))))))))
  (pss_one (ps_ret (pe_tup (pa_cons (pv 7) (pa_cons (pv 8) (pa_cons (pe_lc (own := [("k", 9)]) (g := gName 9) (tt := tYes) rfl sc__law_raw.nd (pi_range1 (by rfl) TX.range (pa_cons (pe_cal C__law_draw (hr.mono (by decide)) (by rfl) pass0 (pa_cons (pv 0) (pa_cons pe_int pa_nil))) pa_nil)) (blkOk_by (own := [("k", 9)]) (N := ["bag", "size", "most", "unlike", "many", "shape", "few", "raw", "piles", "k", "under", "long", "worths", "below", "j"]) (sc := defScope s__law_raw) (by decide +kernel)) (fun _ _ _ _ _ => (pg_name (i := 9) sc__law_raw.nd rfl (Or.inl rfl))) (fun _ _ _ _ _ => pts_nil) (fun _ _ _ _ _ => (pe_op op_sub (pe_cal C__law_draw (hr.mono (by decide)) (by rfl) pass0 (pa_cons (pv 0) (pa_cons (pe_op op_add (pv 4) pe_int) pa_nil))) pe_int))) pa_nil)))))))))))), ?_⟩
    refine r_begin (show L2.start _ _ = [some _, some _, some _, some _, none, none, none, none, none, none, none, none, none, none, none] from rfl) ?_
    try dsimp only [cxOf]
    walk_at "rr"
    refine ⟨p, _, n, rfl, hb, by omega, by omega, by omega, fun many H1 m0 m1 b1 B1 => ?_⟩
    obtain ⟨m, rfl⟩ : ∃ m : Nat, many = (m : Int) := ⟨many.toNat, by omega⟩
    walk_at "rr"
    refine ⟨p, 3, _, rfl, B1, by decide, by decide, by omega, fun shape H2 _ _ b2 B2 => ?_⟩
    walk_at "rr"
    refine ⟨by show 3 ≤ sizeLine; decide, fun l0 hl0 => ?_⟩
    walk_at "rr"
    refine ⟨p, 3, _, rfl, B2.upd hl0, by decide, by decide, by omega, fun fi H3 f0 f3 b3 B3 => ?_⟩
    have e0 : H3 l0 = some (.lst [.int 32, .int 4, .int 1]) := b3 _ _ upd_same (fun e => B2.there (by rw [← e]; exact hl0))
    obtain ⟨few, ef, few0, few1⟩ : ∃ few : Int, atI [V.int 32, .int 4, .int 1] fi = some (.int few) ∧ 1 ≤ few ∧ few ≤ 64 := by
      have c : fi = 0 ∨ fi = 1 ∨ fi = 2 := by omega
      rcases c with rfl | rfl | rfl <;> exact ⟨_, rfl, by decide, by decide⟩
    refine r_ixl e0 ef ?_
    have bb3 : But p H H3 := ((b1.trans b2).trans (But.of (same_new hl0))).trans b3
    walk_at "rr"
    refine ⟨Nat.zero_le _, fun r hr0 => ?_⟩
    walk_at "rr"
    refine ⟨Nat.zero_le _, fun pl hpl0 => ?_⟩
    walk_at "rr"
    rw [Int.toNat_natCast]
    have nrp : r ≠ p := fun e => B3.there (by rw [← e]; exact hr0)
    have npp : pl ≠ p := fun e => (B3.upd hr0).there (by rw [← e]; exact hpl0)
    have nrl : r ≠ pl := fun e => by
      rw [← e, upd_same] at hpl0
      cases hpl0
    have hrH : H3 r = none := hr0
    have hplH : H3 pl = none := by
      rw [upd_ne nrl.symm] at hpl0
      exact hpl0
    refine L_range (fun j σ H' => ∃ (x9 x10 x11 x12 x13 : Option V) (xs ys : List V) (raw : List Pc) (piles : List (List Wo)), σ = [some (.ref p), some (.int size), some (.int (most : Int)), some (.int unlike), some (.int (m : Int)), some (.int shape), some (.int few), some (.ref r), some (.ref pl), x9, x10, x11, x12, x13, none] ∧ H' r = some (.lst xs) ∧ Paired (PcAt (del [r, pl, p] H')) xs raw ∧ H' pl = some (.lst ys) ∧ Paired (PileV (del [r, pl, p] H')) ys piles ∧ raw.length = j ∧ Raw0 size raw piles ∧ But p H3 H' ∧ BagAt H' p (n + 10 + 2000 * j))
      ⟨none, none, none, none, none, [], [], [], [], rfl, by rw [upd_ne nrl]; exact upd_same, .nil, upd_same, .nil, rfl, .nil size, (But.of (same_new hr0)).trans (But.of (same_new hpl0)), ((B3.upd hr0).upd hpl0).mono (by omega)⟩ ?_ ?_
    · rintro j σ H4 hj ⟨x9, x10, x11, x12, x13, xs, ys, raw, piles, rfl, er, wr, ep, wp, rl, R0, b4, B4⟩
      walk_at "rr"
      refine r_d (fun hc => ?_) (fun hc => ?_)
      · walk_at "rr"
        refine ⟨p, _, _, rfl, B4, by omega, by omega, by omega, fun d H5 d0 d1 b5 B5 => ?_⟩
        walk_at "rr"
        refine r_d (fun hc2 => ?_) (fun hc2 => ?_)
        · rw [hc] at hc2
          exact absurd hc2 (by decide)
        · have u0 : -1 ≤ d - 1 := by omega
          have u1 : d - 1 < (raw.length : Int) := by omega
          generalize d - 1 = u at u0 u1 ⊢
          have B5 := B5.mono (show n + 10 + 2000 * j + 1 ≤ n + 10 + 2000 * j + 2 by omega)
          walk_at "rr"
          refine ⟨_, _, rfl, ?_⟩
          walk_at "rr"
          refine ⟨by show 3 ≤ sizeLine; decide, fun l1 hl1 => ?_⟩
          walk_at "rr"
          refine ⟨p, 3, _, rfl, B5.upd hl1, by decide, by decide, by omega, fun li H6 li0 li3 b6 B6 => ?_⟩
          have e6 := b6 _ _ (upd_same (a := l1)) (fun e => B5.there (by rw [← e]; exact hl1))
          obtain ⟨long, el, long0, long1⟩ : ∃ long : Int, atI [V.int 1, .int (if 3 < size then 3 else size), .int size] li = some (.int long) ∧ 1 ≤ long ∧ long ≤ size := by
            have c : li = 0 ∨ li = 1 ∨ li = 2 := by omega
            rcases c with rfl | rfl | rfl
            · exact ⟨1, rfl, by decide, by omega⟩
            · exact ⟨_, rfl, by split <;> omega, by split <;> omega⟩
            · exact ⟨_, rfl, by omega, by omega⟩
          refine r_ixl e6 el ?_
          walk_at "rr"
          refine ⟨p, _, _, rfl, B6, by omega, by omega, by omega, fun cn HA cn0 cn1 bA BA => ?_⟩
          have b5A : But p H4 HA := (b5.trans (But.of (same_new hl1))).trans (b6.trans bA)
          walk_at "rr"
          refine C_range (fun D i H' => HA D = none ∧ ∃ (zs : List V) (us : List Wo), H' D = some (.lst zs) ∧ Wos H' zs us ∧ zs.length = i ∧ But p HA H' ∧ BagAt H' p (n + 10 + 2000 * j + 4 + 20 * i))
            (fun D hD => ⟨hD, [], [], upd_same, .nil, rfl, But.of (same_new hD), (BA.upd hD).mono (by omega)⟩) ?_ ?_
          · rintro D i H' hi ⟨hD, zs, us, eD, wD, lz, bD, BD⟩
            walk_at "rr"
            refine ⟨p, few, _, rfl, BD, few0, few1, by omega, fun t w H'' ht b' B' => ?_⟩
            have nDp : D ≠ p := fun e => BA.there (by rw [← e]; exact hD)
            have eD' := b' _ _ eD nDp
            refine ⟨zs, eD', szl (by omega), hD, zs ++ [t], us ++ [w], upd_same, ((wD.but b' BD).app (.one ht)).upd eD', by rw [List.length_append, lz]; rfl, ?_, ?_⟩
            · intro b o e nb
              rw [upd_ne (ne_of_none e hD)]
              exact b' _ _ (bD _ _ e nb) nb
            · obtain ⟨x, y, z, e, r⟩ := B'
              exact ⟨x, y, z, by rw [upd_ne nDp.symm]; exact e, by omega⟩
          · rintro D HB hD ⟨_, zs, us, eD, wD, lz, bB, BB⟩
            have lz1 : 1 ≤ zs.length := by rw [lz]; omega
            have lz2 : (zs.length : Int) ≤ size := by rw [lz]; omega
            walk_at "rr"
            refine r_d (fun hc => ?_) (fun hc => ?_)
            · walk_at "rr"
              refine ⟨by show 2 ≤ sizeLine; decide, fun t0 ht0 => ?_⟩
              walk_at "rr"
              have eD0 := same_new (o := .tup [.str "at", .int (100 + (0 + (j : Int)))]) ht0 _ _ eD
              obtain ⟨z0, zr, rfl⟩ : ∃ z0 zr, zs = z0 :: zr := by
                cases zs with
                | nil => simp at lz1
                | cons a b => exact ⟨a, b, rfl⟩
              refine r_setL (j := 0) (ys := V.ref t0 :: zr) eD0 (by simp [ixN]) rfl ?_
              obtain ⟨u0w, ur, rfl, wr0⟩ : ∃ u0w ur, us = u0w :: ur ∧ Wos HB zr ur := by
                cases wD with
                | cons a b => exact ⟨_, _, rfl, b⟩
              have wD := Wos.upd (o := .lst (V.ref t0 :: zr)) eD0 (Paired.cons (WoAt.mk upd_same (by show PyData.strOk "at" = true; decide +kernel)) (wr0.same (same_new (o := .tup [.str "at", .int (100 + (0 + (j : Int)))]) ht0)))
              have nDt : D ≠ t0 := ne_of_none eD ht0
              have bC : But p HA (upd (upd HB t0 (.tup [.str "at", .int (100 + (0 + (j : Int)))])) D (.lst (V.ref t0 :: zr))) := But.upd' (bB.trans (But.of (same_new ht0))) hD
              have BC : BagAt (upd (upd HB t0 (.tup [.str "at", .int (100 + (0 + (j : Int)))])) D (.lst (V.ref t0 :: zr))) p (n + 10 + 2000 * j + 1400) := by
                obtain ⟨x, y, z, e, r⟩ := BB.upd (o := .tup [.str "at", .int (100 + (0 + (j : Int)))]) ht0
                exact ⟨x, y, z, by rw [upd_ne (fun e => BA.there (by rw [e]; exact hD))]; exact e, by omega⟩
              have eC : upd (upd HB t0 (.tup [.str "at", .int (100 + (0 + (j : Int)))])) D (.lst (V.ref t0 :: zr)) D = some (.lst (V.ref t0 :: zr)) := upd_same
              have lC1 : 1 ≤ (V.ref t0 :: zr).length := lz1
              have lC2 : ((V.ref t0 :: zr).length : Int) ≤ size := lz2
              generalize upd (upd HB t0 (.tup [.str "at", .int (100 + (0 + (j : Int)))])) D (.lst (V.ref t0 :: zr)) = HC at wD bC BC eC ⊢
              generalize V.ref t0 :: zr = zs at wD eC lC1 lC2
              generalize (Str.ofString "at", 100 + (0 + (j : Int))) :: ur = us at wD
              have lu := wD.len
              have erC := bC _ _ (b5A _ _ er nrp) nrp
              have epC := bC _ _ (b5A _ _ ep npp) npp
              have nDr : D ≠ r := fun e => by
                rw [e, b5A _ _ er nrp] at hD
                cases hD
              have nDpl : D ≠ pl := fun e => by
                rw [e, b5A _ _ ep npp] at hD
                cases hD
              have nDp : D ≠ p := fun e => BA.there (by rw [← e]; exact hD)
              have lx := paired_len wr
              have ly := paired_len wp
              have pl0 := R0.plen
              walk_at "rr"
              refine r_tyL erC ?_
              walk_at "rr"
              refine ⟨by show 2 ≤ sizeLine; decide, fun t ht => ?_⟩
              have sD := same_new (o := .tup [.int u, .ref D]) ht
              have etD : (upd HC t (.tup [.int u, .ref D])) t = some (.tup [.int u, .ref D]) := upd_same
              have erD := sD _ _ erC
              have epD := sD _ _ epC
              have eDD := sD _ _ eC
              have wDD := wD.same sD
              have bD := bC.trans (But.of sD)
              have BD := BC.same sD
              generalize upd HC t (.tup [.int u, .ref D]) = HD at sD etD erD epD eDD wDD bD BD ⊢
              walk_at "rr"
              refine r_app erD (szl (by omega)) ?_
              have ntr : t ≠ r := ne_of etD erD (by intro z; cases z)
              have erE : (upd HD r (.lst (xs ++ [V.ref t]))) r = some (.lst (xs ++ [V.ref t])) := upd_same
              have epE : (upd HD r (.lst (xs ++ [V.ref t]))) pl = some (.lst ys) := by rw [upd_ne nrl.symm]; exact epD
              have eDE : (upd HD r (.lst (xs ++ [V.ref t]))) D = some (.lst zs) := by rw [upd_ne nDr]; exact eDD
              have etE : (upd HD r (.lst (xs ++ [V.ref t]))) t = some (.tup [.int u, .ref D]) := by rw [upd_ne ntr]; exact etD
              have wDE := wDD.upd (o := .lst (xs ++ [V.ref t])) erD
              have sAE : Same (del [r, pl, p] H4) (del [r, pl, p] (upd HD r (.lst (xs ++ [V.ref t])))) := ((del_but b5A (by simp)).trans (del_but bD (by simp))).trans (del_upd (by simp))
              have BE : BagAt (upd HD r (.lst (xs ++ [V.ref t]))) p (n + 10 + 2000 * j + 1400) := by
                obtain ⟨x, y, z, e, r⟩ := BD
                exact ⟨x, y, z, by rw [upd_ne nrp.symm]; exact e, r⟩
              have bE : But p H3 (upd HD r (.lst (xs ++ [V.ref t]))) := But.upd' ((b4.trans b5A).trans bD) hrH
              generalize upd HD r (.lst (xs ++ [V.ref t])) = HE at erE epE eDE etE wDE sAE BE bE ⊢
              walk_at "rr"
              refine ⟨Nat.zero_le _, fun bl hbl => ?_⟩
              have sF := same_new (o := .lst []) hbl
              have eblF : (upd HE bl (.lst [])) bl = some (.lst []) := upd_same
              have erF := sF _ _ erE
              have epF := sF _ _ epE
              have eDF := sF _ _ eDE
              have etF := sF _ _ etE
              have wDF := wDE.same sF
              have sAF := sAE.trans (del_same sF)
              have BF := BE.same sF
              have bF := bE.trans (But.of sF)
              have nsl : ∀ a ∈ [r, pl, p], ∃ ys, (upd HE bl (.lst [])) a = some (.lst ys) := by
                intro a m
                rcases List.mem_cons.mp m with e | m
                · rw [e]; exact ⟨_, erF⟩
                rcases List.mem_cons.mp m with e | m
                · rw [e]; exact ⟨_, epF⟩
                · rw [List.mem_singleton.mp m]; exact BF.lst
              generalize upd HE bl (.lst []) = HF at eblF erF epF eDF etF wDF sAF BF bF nsl ⊢
              have wr' := Paired.mapP wr fun _ _ => PcAt.same sAF
              have wp' := Paired.mapP wp fun _ _ => PileV.same sAF
              have pcNew : PcAt (del [r, pl, p] HF) (.ref t) (u, us) := by
                refine ⟨t, D, rfl, del_at etF ?_, zs, del_at eDF (by simp [nDr, nDpl, nDp]), wos_del wDF nsl⟩
                intro m
                obtain ⟨q, z⟩ := nsl t m
                rw [etF] at z
                cases z
              have wr2 : Paired (PcAt (del [r, pl, p] HF)) (xs ++ [V.ref t]) (raw ++ [(u, us)]) := paired_app wr' (.cons pcNew .nil)
              have R1 := R0.snoc (ws := us) u0 u1 (by omega) (by omega) (by omega)
              walk_at "rr"
              refine r_d (fun hc => ?_) (fun hc => ?_)
              · walk_at "rr"
                obtain ⟨uu, huu⟩ : ∃ uu : Nat, u = (uu : Int) := ⟨u.toNat, by omega⟩
                have hlt : uu < piles.length := by omega
                obtain ⟨v, ev, lb, rfl, zl, elb, wlb⟩ := paired_at wp' (List.getElem?_eq_getElem hlt)
                refine r_ixl epF (at_of huu ev) ?_
                walk_at "rr"
                have epile : pileAt piles u = piles[uu] := by
                  unfold pileAt
                  rw [if_pos hc, huu, List.getD_eq_getElem?_getD, Int.toNat_natCast, List.getElem?_eq_getElem hlt]
                  rfl
                have hh := R0.hi uu _ (List.getElem?_eq_getElem hlt)
                have lzl := wlb.len
                have hmul : size * ((uu : Int) + 1) ≤ 64 * 401 := Int.le_trans (Int.mul_le_mul_of_nonneg_right hs2 (by omega)) (by omega)
                have elb := del_sub _ _ elb
                have wlb : Wos HF zl (pileAt piles u) := by rw [epile]; exact wlb.same del_sub
                have llb : zl.length ≤ 90000 := by omega
                refine r_tyL epF ?_
                walk_at "rr"
                refine r_cat elb eDF (sz (by omega)) fun c hc => ?_
                have sG := same_new (o := .lst (zl ++ zs)) hc
                have nrc : c ≠ r := fun e => by rw [e, erF] at hc; cases hc
                have npc : c ≠ pl := fun e => by rw [e, epF] at hc; cases hc
                have nbc : c ≠ p := fun e => BF.there (by rw [← e]; exact hc)
                walk_at "rr"
                refine r_app (sG _ _ epF) (szl (by omega)) ?_
                have sH : Same (del [r, pl, p] HF) (del [r, pl, p] (upd (upd HF c (.lst (zl ++ zs))) pl (.lst (ys ++ [V.ref c])))) := (del_same sG).trans (del_upd (by simp))
                have wpc : PileV (del [r, pl, p] (upd (upd HF c (.lst (zl ++ zs))) pl (.lst (ys ++ [V.ref c])))) (.ref c) (pileAt piles u ++ us) := by
                  refine ⟨c, rfl, zl ++ zs, del_at (by rw [upd_ne npc]; exact upd_same) (by simp [nrc, npc, nbc]), ?_⟩
                  have w2 : Wos HF (zl ++ zs) (pileAt piles u ++ us) := wlb.app wDF
                  exact (wos_del w2 nsl).same sH
                refine ⟨_, _, _, _, _, xs ++ [V.ref t], ys ++ [V.ref c], raw ++ [(u, us)], piles ++ [pileAt piles u ++ us], rfl, ?_, Paired.mapP wr2 fun _ _ => PcAt.same sH, upd_same, paired_app (Paired.mapP wp' fun _ _ => PileV.same sH) (.cons wpc .nil), by rw [List.length_append, rl]; rfl, R1, ?_, ?_⟩
                · rw [upd_ne nrl]
                  exact sG _ _ erF
                · exact But.upd' (bF.trans (But.of sG)) hplH
                · obtain ⟨x, y, z, e, q⟩ := BF.same sG
                  exact ⟨x, y, z, by rw [upd_ne npp.symm]; exact e, by omega⟩
              · walk_at "rr"
                have epile : pileAt piles u = [] := by
                  unfold pileAt
                  rw [if_neg hc]
                obtain ⟨lb, rfl⟩ : ∃ z, z = bl := ⟨_, rfl⟩
                obtain ⟨zl, hzl⟩ : ∃ z : List V, z = [] := ⟨_, rfl⟩
                have elb : HF lb = some (.lst zl) := by rw [hzl]; exact eblF
                have wlb : Wos HF zl (pileAt piles u) := by rw [epile, hzl]; exact .nil
                have llb : zl.length ≤ 90000 := by rw [hzl]; simp
                refine r_tyL epF ?_
                walk_at "rr"
                refine r_cat elb eDF (sz (by omega)) fun c hc => ?_
                have sG := same_new (o := .lst (zl ++ zs)) hc
                have nrc : c ≠ r := fun e => by rw [e, erF] at hc; cases hc
                have npc : c ≠ pl := fun e => by rw [e, epF] at hc; cases hc
                have nbc : c ≠ p := fun e => BF.there (by rw [← e]; exact hc)
                walk_at "rr"
                refine r_app (sG _ _ epF) (szl (by omega)) ?_
                have sH : Same (del [r, pl, p] HF) (del [r, pl, p] (upd (upd HF c (.lst (zl ++ zs))) pl (.lst (ys ++ [V.ref c])))) := (del_same sG).trans (del_upd (by simp))
                have wpc : PileV (del [r, pl, p] (upd (upd HF c (.lst (zl ++ zs))) pl (.lst (ys ++ [V.ref c])))) (.ref c) (pileAt piles u ++ us) := by
                  refine ⟨c, rfl, zl ++ zs, del_at (by rw [upd_ne npc]; exact upd_same) (by simp [nrc, npc, nbc]), ?_⟩
                  have w2 : Wos HF (zl ++ zs) (pileAt piles u ++ us) := wlb.app wDF
                  exact (wos_del w2 nsl).same sH
                refine ⟨_, _, _, _, _, xs ++ [V.ref t], ys ++ [V.ref c], raw ++ [(u, us)], piles ++ [pileAt piles u ++ us], rfl, ?_, Paired.mapP wr2 fun _ _ => PcAt.same sH, upd_same, paired_app (Paired.mapP wp' fun _ _ => PileV.same sH) (.cons wpc .nil), by rw [List.length_append, rl]; rfl, R1, ?_, ?_⟩
                · rw [upd_ne nrl]
                  exact sG _ _ erF
                · exact But.upd' (bF.trans (But.of sG)) hplH
                · obtain ⟨x, y, z, e, q⟩ := BF.same sG
                  exact ⟨x, y, z, by rw [upd_ne npp.symm]; exact e, by omega⟩
            · obtain ⟨HC, rfl⟩ : ∃ z, z = HB := ⟨_, rfl⟩
              have bC := bB
              have BC := BB.mono (show n + 10 + 2000 * j + 4 + 20 * (1 + cn).toNat ≤ n + 10 + 2000 * j + 1400 by omega)
              have eC := eD
              have lC1 := lz1
              have lC2 := lz2
              have lu := wD.len
              have erC := bC _ _ (b5A _ _ er nrp) nrp
              have epC := bC _ _ (b5A _ _ ep npp) npp
              have nDr : D ≠ r := fun e => by
                rw [e, b5A _ _ er nrp] at hD
                cases hD
              have nDpl : D ≠ pl := fun e => by
                rw [e, b5A _ _ ep npp] at hD
                cases hD
              have nDp : D ≠ p := fun e => BA.there (by rw [← e]; exact hD)
              have lx := paired_len wr
              have ly := paired_len wp
              have pl0 := R0.plen
              walk_at "rr"
              refine r_tyL erC ?_
              walk_at "rr"
              refine ⟨by show 2 ≤ sizeLine; decide, fun t ht => ?_⟩
              have sD := same_new (o := .tup [.int u, .ref D]) ht
              have etD : (upd HC t (.tup [.int u, .ref D])) t = some (.tup [.int u, .ref D]) := upd_same
              have erD := sD _ _ erC
              have epD := sD _ _ epC
              have eDD := sD _ _ eC
              have wDD := wD.same sD
              have bD := bC.trans (But.of sD)
              have BD := BC.same sD
              generalize upd HC t (.tup [.int u, .ref D]) = HD at sD etD erD epD eDD wDD bD BD ⊢
              walk_at "rr"
              refine r_app erD (szl (by omega)) ?_
              have ntr : t ≠ r := ne_of etD erD (by intro z; cases z)
              have erE : (upd HD r (.lst (xs ++ [V.ref t]))) r = some (.lst (xs ++ [V.ref t])) := upd_same
              have epE : (upd HD r (.lst (xs ++ [V.ref t]))) pl = some (.lst ys) := by rw [upd_ne nrl.symm]; exact epD
              have eDE : (upd HD r (.lst (xs ++ [V.ref t]))) D = some (.lst zs) := by rw [upd_ne nDr]; exact eDD
              have etE : (upd HD r (.lst (xs ++ [V.ref t]))) t = some (.tup [.int u, .ref D]) := by rw [upd_ne ntr]; exact etD
              have wDE := wDD.upd (o := .lst (xs ++ [V.ref t])) erD
              have sAE : Same (del [r, pl, p] H4) (del [r, pl, p] (upd HD r (.lst (xs ++ [V.ref t])))) := ((del_but b5A (by simp)).trans (del_but bD (by simp))).trans (del_upd (by simp))
              have BE : BagAt (upd HD r (.lst (xs ++ [V.ref t]))) p (n + 10 + 2000 * j + 1400) := by
                obtain ⟨x, y, z, e, r⟩ := BD
                exact ⟨x, y, z, by rw [upd_ne nrp.symm]; exact e, r⟩
              have bE : But p H3 (upd HD r (.lst (xs ++ [V.ref t]))) := But.upd' ((b4.trans b5A).trans bD) hrH
              generalize upd HD r (.lst (xs ++ [V.ref t])) = HE at erE epE eDE etE wDE sAE BE bE ⊢
              walk_at "rr"
              refine ⟨Nat.zero_le _, fun bl hbl => ?_⟩
              have sF := same_new (o := .lst []) hbl
              have eblF : (upd HE bl (.lst [])) bl = some (.lst []) := upd_same
              have erF := sF _ _ erE
              have epF := sF _ _ epE
              have eDF := sF _ _ eDE
              have etF := sF _ _ etE
              have wDF := wDE.same sF
              have sAF := sAE.trans (del_same sF)
              have BF := BE.same sF
              have bF := bE.trans (But.of sF)
              have nsl : ∀ a ∈ [r, pl, p], ∃ ys, (upd HE bl (.lst [])) a = some (.lst ys) := by
                intro a m
                rcases List.mem_cons.mp m with e | m
                · rw [e]; exact ⟨_, erF⟩
                rcases List.mem_cons.mp m with e | m
                · rw [e]; exact ⟨_, epF⟩
                · rw [List.mem_singleton.mp m]; exact BF.lst
              generalize upd HE bl (.lst []) = HF at eblF erF epF eDF etF wDF sAF BF bF nsl ⊢
              have wr' := Paired.mapP wr fun _ _ => PcAt.same sAF
              have wp' := Paired.mapP wp fun _ _ => PileV.same sAF
              have pcNew : PcAt (del [r, pl, p] HF) (.ref t) (u, us) := by
                refine ⟨t, D, rfl, del_at etF ?_, zs, del_at eDF (by simp [nDr, nDpl, nDp]), wos_del wDF nsl⟩
                intro m
                obtain ⟨q, z⟩ := nsl t m
                rw [etF] at z
                cases z
              have wr2 : Paired (PcAt (del [r, pl, p] HF)) (xs ++ [V.ref t]) (raw ++ [(u, us)]) := paired_app wr' (.cons pcNew .nil)
              have R1 := R0.snoc (ws := us) u0 u1 (by omega) (by omega) (by omega)
              walk_at "rr"
              refine r_d (fun hc => ?_) (fun hc => ?_)
              · walk_at "rr"
                obtain ⟨uu, huu⟩ : ∃ uu : Nat, u = (uu : Int) := ⟨u.toNat, by omega⟩
                have hlt : uu < piles.length := by omega
                obtain ⟨v, ev, lb, rfl, zl, elb, wlb⟩ := paired_at wp' (List.getElem?_eq_getElem hlt)
                refine r_ixl epF (at_of huu ev) ?_
                walk_at "rr"
                have epile : pileAt piles u = piles[uu] := by
                  unfold pileAt
                  rw [if_pos hc, huu, List.getD_eq_getElem?_getD, Int.toNat_natCast, List.getElem?_eq_getElem hlt]
                  rfl
                have hh := R0.hi uu _ (List.getElem?_eq_getElem hlt)
                have lzl := wlb.len
                have hmul : size * ((uu : Int) + 1) ≤ 64 * 401 := Int.le_trans (Int.mul_le_mul_of_nonneg_right hs2 (by omega)) (by omega)
                have elb := del_sub _ _ elb
                have wlb : Wos HF zl (pileAt piles u) := by rw [epile]; exact wlb.same del_sub
                have llb : zl.length ≤ 90000 := by omega
                refine r_tyL epF ?_
                walk_at "rr"
                refine r_cat elb eDF (sz (by omega)) fun c hc => ?_
                have sG := same_new (o := .lst (zl ++ zs)) hc
                have nrc : c ≠ r := fun e => by rw [e, erF] at hc; cases hc
                have npc : c ≠ pl := fun e => by rw [e, epF] at hc; cases hc
                have nbc : c ≠ p := fun e => BF.there (by rw [← e]; exact hc)
                walk_at "rr"
                refine r_app (sG _ _ epF) (szl (by omega)) ?_
                have sH : Same (del [r, pl, p] HF) (del [r, pl, p] (upd (upd HF c (.lst (zl ++ zs))) pl (.lst (ys ++ [V.ref c])))) := (del_same sG).trans (del_upd (by simp))
                have wpc : PileV (del [r, pl, p] (upd (upd HF c (.lst (zl ++ zs))) pl (.lst (ys ++ [V.ref c])))) (.ref c) (pileAt piles u ++ us) := by
                  refine ⟨c, rfl, zl ++ zs, del_at (by rw [upd_ne npc]; exact upd_same) (by simp [nrc, npc, nbc]), ?_⟩
                  have w2 : Wos HF (zl ++ zs) (pileAt piles u ++ us) := wlb.app wDF
                  exact (wos_del w2 nsl).same sH
                refine ⟨_, _, _, _, _, xs ++ [V.ref t], ys ++ [V.ref c], raw ++ [(u, us)], piles ++ [pileAt piles u ++ us], rfl, ?_, Paired.mapP wr2 fun _ _ => PcAt.same sH, upd_same, paired_app (Paired.mapP wp' fun _ _ => PileV.same sH) (.cons wpc .nil), by rw [List.length_append, rl]; rfl, R1, ?_, ?_⟩
                · rw [upd_ne nrl]
                  exact sG _ _ erF
                · exact But.upd' (bF.trans (But.of sG)) hplH
                · obtain ⟨x, y, z, e, q⟩ := BF.same sG
                  exact ⟨x, y, z, by rw [upd_ne npp.symm]; exact e, by omega⟩
              · walk_at "rr"
                have epile : pileAt piles u = [] := by
                  unfold pileAt
                  rw [if_neg hc]
                obtain ⟨lb, rfl⟩ : ∃ z, z = bl := ⟨_, rfl⟩
                obtain ⟨zl, hzl⟩ : ∃ z : List V, z = [] := ⟨_, rfl⟩
                have elb : HF lb = some (.lst zl) := by rw [hzl]; exact eblF
                have wlb : Wos HF zl (pileAt piles u) := by rw [epile, hzl]; exact .nil
                have llb : zl.length ≤ 90000 := by rw [hzl]; simp
                refine r_tyL epF ?_
                walk_at "rr"
                refine r_cat elb eDF (sz (by omega)) fun c hc => ?_
                have sG := same_new (o := .lst (zl ++ zs)) hc
                have nrc : c ≠ r := fun e => by rw [e, erF] at hc; cases hc
                have npc : c ≠ pl := fun e => by rw [e, epF] at hc; cases hc
                have nbc : c ≠ p := fun e => BF.there (by rw [← e]; exact hc)
                walk_at "rr"
                refine r_app (sG _ _ epF) (szl (by omega)) ?_
                have sH : Same (del [r, pl, p] HF) (del [r, pl, p] (upd (upd HF c (.lst (zl ++ zs))) pl (.lst (ys ++ [V.ref c])))) := (del_same sG).trans (del_upd (by simp))
                have wpc : PileV (del [r, pl, p] (upd (upd HF c (.lst (zl ++ zs))) pl (.lst (ys ++ [V.ref c])))) (.ref c) (pileAt piles u ++ us) := by
                  refine ⟨c, rfl, zl ++ zs, del_at (by rw [upd_ne npc]; exact upd_same) (by simp [nrc, npc, nbc]), ?_⟩
                  have w2 : Wos HF (zl ++ zs) (pileAt piles u ++ us) := wlb.app wDF
                  exact (wos_del w2 nsl).same sH
                refine ⟨_, _, _, _, _, xs ++ [V.ref t], ys ++ [V.ref c], raw ++ [(u, us)], piles ++ [pileAt piles u ++ us], rfl, ?_, Paired.mapP wr2 fun _ _ => PcAt.same sH, upd_same, paired_app (Paired.mapP wp' fun _ _ => PileV.same sH) (.cons wpc .nil), by rw [List.length_append, rl]; rfl, R1, ?_, ?_⟩
                · rw [upd_ne nrl]
                  exact sG _ _ erF
                · exact But.upd' (bF.trans (But.of sG)) hplH
                · obtain ⟨x, y, z, e, q⟩ := BF.same sG
                  exact ⟨x, y, z, by rw [upd_ne npp.symm]; exact e, by omega⟩
      · walk_at "rr"
        refine r_d (fun hc2 => ?_) (fun hc2 => ?_)
        · walk_at "rr"
          refine ⟨p, _, _, rfl, B4, by decide, by decide, by omega, fun d H5 d0 d1 b5 B5 => ?_⟩
          walk_at "rr"
          refine ⟨_, _, rfl, ?_⟩
          have u0 : -1 ≤ (if 0 + (j : Int) - 1 - d > -1 then 0 + (j : Int) - 1 - d else -1) := by split <;> omega
          have u1 : (if 0 + (j : Int) - 1 - d > -1 then 0 + (j : Int) - 1 - d else -1) < (raw.length : Int) := by split <;> omega
          generalize (if 0 + (j : Int) - 1 - d > -1 then 0 + (j : Int) - 1 - d else -1) = u at u0 u1 ⊢
          have B5 := B5.mono (show n + 10 + 2000 * j + 1 ≤ n + 10 + 2000 * j + 2 by omega)
          walk_at "rr"
          walk_at "rr"
          refine ⟨_, _, rfl, ?_⟩
          walk_at "rr"
          refine ⟨by show 3 ≤ sizeLine; decide, fun l1 hl1 => ?_⟩
          walk_at "rr"
          refine ⟨p, 3, _, rfl, B5.upd hl1, by decide, by decide, by omega, fun li H6 li0 li3 b6 B6 => ?_⟩
          have e6 := b6 _ _ (upd_same (a := l1)) (fun e => B5.there (by rw [← e]; exact hl1))
          obtain ⟨long, el, long0, long1⟩ : ∃ long : Int, atI [V.int 1, .int (if 3 < size then 3 else size), .int size] li = some (.int long) ∧ 1 ≤ long ∧ long ≤ size := by
            have c : li = 0 ∨ li = 1 ∨ li = 2 := by omega
            rcases c with rfl | rfl | rfl
            · exact ⟨1, rfl, by decide, by omega⟩
            · exact ⟨_, rfl, by split <;> omega, by split <;> omega⟩
            · exact ⟨_, rfl, by omega, by omega⟩
          refine r_ixl e6 el ?_
          walk_at "rr"
          refine ⟨p, _, _, rfl, B6, by omega, by omega, by omega, fun cn HA cn0 cn1 bA BA => ?_⟩
          have b5A : But p H4 HA := (b5.trans (But.of (same_new hl1))).trans (b6.trans bA)
          walk_at "rr"
          refine C_range (fun D i H' => HA D = none ∧ ∃ (zs : List V) (us : List Wo), H' D = some (.lst zs) ∧ Wos H' zs us ∧ zs.length = i ∧ But p HA H' ∧ BagAt H' p (n + 10 + 2000 * j + 4 + 20 * i))
            (fun D hD => ⟨hD, [], [], upd_same, .nil, rfl, But.of (same_new hD), (BA.upd hD).mono (by omega)⟩) ?_ ?_
          · rintro D i H' hi ⟨hD, zs, us, eD, wD, lz, bD, BD⟩
            walk_at "rr"
            refine ⟨p, few, _, rfl, BD, few0, few1, by omega, fun t w H'' ht b' B' => ?_⟩
            have nDp : D ≠ p := fun e => BA.there (by rw [← e]; exact hD)
            have eD' := b' _ _ eD nDp
            refine ⟨zs, eD', szl (by omega), hD, zs ++ [t], us ++ [w], upd_same, ((wD.but b' BD).app (.one ht)).upd eD', by rw [List.length_append, lz]; rfl, ?_, ?_⟩
            · intro b o e nb
              rw [upd_ne (ne_of_none e hD)]
              exact b' _ _ (bD _ _ e nb) nb
            · obtain ⟨x, y, z, e, r⟩ := B'
              exact ⟨x, y, z, by rw [upd_ne nDp.symm]; exact e, by omega⟩
          · rintro D HB hD ⟨_, zs, us, eD, wD, lz, bB, BB⟩
            have lz1 : 1 ≤ zs.length := by rw [lz]; omega
            have lz2 : (zs.length : Int) ≤ size := by rw [lz]; omega
            walk_at "rr"
            refine r_d (fun hc => ?_) (fun hc => ?_)
            · walk_at "rr"
              refine ⟨by show 2 ≤ sizeLine; decide, fun t0 ht0 => ?_⟩
              walk_at "rr"
              have eD0 := same_new (o := .tup [.str "at", .int (100 + (0 + (j : Int)))]) ht0 _ _ eD
              obtain ⟨z0, zr, rfl⟩ : ∃ z0 zr, zs = z0 :: zr := by
                cases zs with
                | nil => simp at lz1
                | cons a b => exact ⟨a, b, rfl⟩
              refine r_setL (j := 0) (ys := V.ref t0 :: zr) eD0 (by simp [ixN]) rfl ?_
              obtain ⟨u0w, ur, rfl, wr0⟩ : ∃ u0w ur, us = u0w :: ur ∧ Wos HB zr ur := by
                cases wD with
                | cons a b => exact ⟨_, _, rfl, b⟩
              have wD := Wos.upd (o := .lst (V.ref t0 :: zr)) eD0 (Paired.cons (WoAt.mk upd_same (by show PyData.strOk "at" = true; decide +kernel)) (wr0.same (same_new (o := .tup [.str "at", .int (100 + (0 + (j : Int)))]) ht0)))
              have nDt : D ≠ t0 := ne_of_none eD ht0
              have bC : But p HA (upd (upd HB t0 (.tup [.str "at", .int (100 + (0 + (j : Int)))])) D (.lst (V.ref t0 :: zr))) := But.upd' (bB.trans (But.of (same_new ht0))) hD
              have BC : BagAt (upd (upd HB t0 (.tup [.str "at", .int (100 + (0 + (j : Int)))])) D (.lst (V.ref t0 :: zr))) p (n + 10 + 2000 * j + 1400) := by
                obtain ⟨x, y, z, e, r⟩ := BB.upd (o := .tup [.str "at", .int (100 + (0 + (j : Int)))]) ht0
                exact ⟨x, y, z, by rw [upd_ne (fun e => BA.there (by rw [e]; exact hD))]; exact e, by omega⟩
              have eC : upd (upd HB t0 (.tup [.str "at", .int (100 + (0 + (j : Int)))])) D (.lst (V.ref t0 :: zr)) D = some (.lst (V.ref t0 :: zr)) := upd_same
              have lC1 : 1 ≤ (V.ref t0 :: zr).length := lz1
              have lC2 : ((V.ref t0 :: zr).length : Int) ≤ size := lz2
              generalize upd (upd HB t0 (.tup [.str "at", .int (100 + (0 + (j : Int)))])) D (.lst (V.ref t0 :: zr)) = HC at wD bC BC eC ⊢
              generalize V.ref t0 :: zr = zs at wD eC lC1 lC2
              generalize (Str.ofString "at", 100 + (0 + (j : Int))) :: ur = us at wD
              have lu := wD.len
              have erC := bC _ _ (b5A _ _ er nrp) nrp
              have epC := bC _ _ (b5A _ _ ep npp) npp
              have nDr : D ≠ r := fun e => by
                rw [e, b5A _ _ er nrp] at hD
                cases hD
              have nDpl : D ≠ pl := fun e => by
                rw [e, b5A _ _ ep npp] at hD
                cases hD
              have nDp : D ≠ p := fun e => BA.there (by rw [← e]; exact hD)
              have lx := paired_len wr
              have ly := paired_len wp
              have pl0 := R0.plen
              walk_at "rr"
              refine r_tyL erC ?_
              walk_at "rr"
              refine ⟨by show 2 ≤ sizeLine; decide, fun t ht => ?_⟩
              have sD := same_new (o := .tup [.int u, .ref D]) ht
              have etD : (upd HC t (.tup [.int u, .ref D])) t = some (.tup [.int u, .ref D]) := upd_same
              have erD := sD _ _ erC
              have epD := sD _ _ epC
              have eDD := sD _ _ eC
              have wDD := wD.same sD
              have bD := bC.trans (But.of sD)
              have BD := BC.same sD
              generalize upd HC t (.tup [.int u, .ref D]) = HD at sD etD erD epD eDD wDD bD BD ⊢
              walk_at "rr"
              refine r_app erD (szl (by omega)) ?_
              have ntr : t ≠ r := ne_of etD erD (by intro z; cases z)
              have erE : (upd HD r (.lst (xs ++ [V.ref t]))) r = some (.lst (xs ++ [V.ref t])) := upd_same
              have epE : (upd HD r (.lst (xs ++ [V.ref t]))) pl = some (.lst ys) := by rw [upd_ne nrl.symm]; exact epD
              have eDE : (upd HD r (.lst (xs ++ [V.ref t]))) D = some (.lst zs) := by rw [upd_ne nDr]; exact eDD
              have etE : (upd HD r (.lst (xs ++ [V.ref t]))) t = some (.tup [.int u, .ref D]) := by rw [upd_ne ntr]; exact etD
              have wDE := wDD.upd (o := .lst (xs ++ [V.ref t])) erD
              have sAE : Same (del [r, pl, p] H4) (del [r, pl, p] (upd HD r (.lst (xs ++ [V.ref t])))) := ((del_but b5A (by simp)).trans (del_but bD (by simp))).trans (del_upd (by simp))
              have BE : BagAt (upd HD r (.lst (xs ++ [V.ref t]))) p (n + 10 + 2000 * j + 1400) := by
                obtain ⟨x, y, z, e, r⟩ := BD
                exact ⟨x, y, z, by rw [upd_ne nrp.symm]; exact e, r⟩
              have bE : But p H3 (upd HD r (.lst (xs ++ [V.ref t]))) := But.upd' ((b4.trans b5A).trans bD) hrH
              generalize upd HD r (.lst (xs ++ [V.ref t])) = HE at erE epE eDE etE wDE sAE BE bE ⊢
              walk_at "rr"
              refine ⟨Nat.zero_le _, fun bl hbl => ?_⟩
              have sF := same_new (o := .lst []) hbl
              have eblF : (upd HE bl (.lst [])) bl = some (.lst []) := upd_same
              have erF := sF _ _ erE
              have epF := sF _ _ epE
              have eDF := sF _ _ eDE
              have etF := sF _ _ etE
              have wDF := wDE.same sF
              have sAF := sAE.trans (del_same sF)
              have BF := BE.same sF
              have bF := bE.trans (But.of sF)
              have nsl : ∀ a ∈ [r, pl, p], ∃ ys, (upd HE bl (.lst [])) a = some (.lst ys) := by
                intro a m
                rcases List.mem_cons.mp m with e | m
                · rw [e]; exact ⟨_, erF⟩
                rcases List.mem_cons.mp m with e | m
                · rw [e]; exact ⟨_, epF⟩
                · rw [List.mem_singleton.mp m]; exact BF.lst
              generalize upd HE bl (.lst []) = HF at eblF erF epF eDF etF wDF sAF BF bF nsl ⊢
              have wr' := Paired.mapP wr fun _ _ => PcAt.same sAF
              have wp' := Paired.mapP wp fun _ _ => PileV.same sAF
              have pcNew : PcAt (del [r, pl, p] HF) (.ref t) (u, us) := by
                refine ⟨t, D, rfl, del_at etF ?_, zs, del_at eDF (by simp [nDr, nDpl, nDp]), wos_del wDF nsl⟩
                intro m
                obtain ⟨q, z⟩ := nsl t m
                rw [etF] at z
                cases z
              have wr2 : Paired (PcAt (del [r, pl, p] HF)) (xs ++ [V.ref t]) (raw ++ [(u, us)]) := paired_app wr' (.cons pcNew .nil)
              have R1 := R0.snoc (ws := us) u0 u1 (by omega) (by omega) (by omega)
              walk_at "rr"
              refine r_d (fun hc => ?_) (fun hc => ?_)
              · walk_at "rr"
                obtain ⟨uu, huu⟩ : ∃ uu : Nat, u = (uu : Int) := ⟨u.toNat, by omega⟩
                have hlt : uu < piles.length := by omega
                obtain ⟨v, ev, lb, rfl, zl, elb, wlb⟩ := paired_at wp' (List.getElem?_eq_getElem hlt)
                refine r_ixl epF (at_of huu ev) ?_
                walk_at "rr"
                have epile : pileAt piles u = piles[uu] := by
                  unfold pileAt
                  rw [if_pos hc, huu, List.getD_eq_getElem?_getD, Int.toNat_natCast, List.getElem?_eq_getElem hlt]
                  rfl
                have hh := R0.hi uu _ (List.getElem?_eq_getElem hlt)
                have lzl := wlb.len
                have hmul : size * ((uu : Int) + 1) ≤ 64 * 401 := Int.le_trans (Int.mul_le_mul_of_nonneg_right hs2 (by omega)) (by omega)
                have elb := del_sub _ _ elb
                have wlb : Wos HF zl (pileAt piles u) := by rw [epile]; exact wlb.same del_sub
                have llb : zl.length ≤ 90000 := by omega
                refine r_tyL epF ?_
                walk_at "rr"
                refine r_cat elb eDF (sz (by omega)) fun c hc => ?_
                have sG := same_new (o := .lst (zl ++ zs)) hc
                have nrc : c ≠ r := fun e => by rw [e, erF] at hc; cases hc
                have npc : c ≠ pl := fun e => by rw [e, epF] at hc; cases hc
                have nbc : c ≠ p := fun e => BF.there (by rw [← e]; exact hc)
                walk_at "rr"
                refine r_app (sG _ _ epF) (szl (by omega)) ?_
                have sH : Same (del [r, pl, p] HF) (del [r, pl, p] (upd (upd HF c (.lst (zl ++ zs))) pl (.lst (ys ++ [V.ref c])))) := (del_same sG).trans (del_upd (by simp))
                have wpc : PileV (del [r, pl, p] (upd (upd HF c (.lst (zl ++ zs))) pl (.lst (ys ++ [V.ref c])))) (.ref c) (pileAt piles u ++ us) := by
                  refine ⟨c, rfl, zl ++ zs, del_at (by rw [upd_ne npc]; exact upd_same) (by simp [nrc, npc, nbc]), ?_⟩
                  have w2 : Wos HF (zl ++ zs) (pileAt piles u ++ us) := wlb.app wDF
                  exact (wos_del w2 nsl).same sH
                refine ⟨_, _, _, _, _, xs ++ [V.ref t], ys ++ [V.ref c], raw ++ [(u, us)], piles ++ [pileAt piles u ++ us], rfl, ?_, Paired.mapP wr2 fun _ _ => PcAt.same sH, upd_same, paired_app (Paired.mapP wp' fun _ _ => PileV.same sH) (.cons wpc .nil), by rw [List.length_append, rl]; rfl, R1, ?_, ?_⟩
                · rw [upd_ne nrl]
                  exact sG _ _ erF
                · exact But.upd' (bF.trans (But.of sG)) hplH
                · obtain ⟨x, y, z, e, q⟩ := BF.same sG
                  exact ⟨x, y, z, by rw [upd_ne npp.symm]; exact e, by omega⟩
              · walk_at "rr"
                have epile : pileAt piles u = [] := by
                  unfold pileAt
                  rw [if_neg hc]
                obtain ⟨lb, rfl⟩ : ∃ z, z = bl := ⟨_, rfl⟩
                obtain ⟨zl, hzl⟩ : ∃ z : List V, z = [] := ⟨_, rfl⟩
                have elb : HF lb = some (.lst zl) := by rw [hzl]; exact eblF
                have wlb : Wos HF zl (pileAt piles u) := by rw [epile, hzl]; exact .nil
                have llb : zl.length ≤ 90000 := by rw [hzl]; simp
                refine r_tyL epF ?_
                walk_at "rr"
                refine r_cat elb eDF (sz (by omega)) fun c hc => ?_
                have sG := same_new (o := .lst (zl ++ zs)) hc
                have nrc : c ≠ r := fun e => by rw [e, erF] at hc; cases hc
                have npc : c ≠ pl := fun e => by rw [e, epF] at hc; cases hc
                have nbc : c ≠ p := fun e => BF.there (by rw [← e]; exact hc)
                walk_at "rr"
                refine r_app (sG _ _ epF) (szl (by omega)) ?_
                have sH : Same (del [r, pl, p] HF) (del [r, pl, p] (upd (upd HF c (.lst (zl ++ zs))) pl (.lst (ys ++ [V.ref c])))) := (del_same sG).trans (del_upd (by simp))
                have wpc : PileV (del [r, pl, p] (upd (upd HF c (.lst (zl ++ zs))) pl (.lst (ys ++ [V.ref c])))) (.ref c) (pileAt piles u ++ us) := by
                  refine ⟨c, rfl, zl ++ zs, del_at (by rw [upd_ne npc]; exact upd_same) (by simp [nrc, npc, nbc]), ?_⟩
                  have w2 : Wos HF (zl ++ zs) (pileAt piles u ++ us) := wlb.app wDF
                  exact (wos_del w2 nsl).same sH
                refine ⟨_, _, _, _, _, xs ++ [V.ref t], ys ++ [V.ref c], raw ++ [(u, us)], piles ++ [pileAt piles u ++ us], rfl, ?_, Paired.mapP wr2 fun _ _ => PcAt.same sH, upd_same, paired_app (Paired.mapP wp' fun _ _ => PileV.same sH) (.cons wpc .nil), by rw [List.length_append, rl]; rfl, R1, ?_, ?_⟩
                · rw [upd_ne nrl]
                  exact sG _ _ erF
                · exact But.upd' (bF.trans (But.of sG)) hplH
                · obtain ⟨x, y, z, e, q⟩ := BF.same sG
                  exact ⟨x, y, z, by rw [upd_ne npp.symm]; exact e, by omega⟩
            · obtain ⟨HC, rfl⟩ : ∃ z, z = HB := ⟨_, rfl⟩
              have bC := bB
              have BC := BB.mono (show n + 10 + 2000 * j + 4 + 20 * (1 + cn).toNat ≤ n + 10 + 2000 * j + 1400 by omega)
              have eC := eD
              have lC1 := lz1
              have lC2 := lz2
              have lu := wD.len
              have erC := bC _ _ (b5A _ _ er nrp) nrp
              have epC := bC _ _ (b5A _ _ ep npp) npp
              have nDr : D ≠ r := fun e => by
                rw [e, b5A _ _ er nrp] at hD
                cases hD
              have nDpl : D ≠ pl := fun e => by
                rw [e, b5A _ _ ep npp] at hD
                cases hD
              have nDp : D ≠ p := fun e => BA.there (by rw [← e]; exact hD)
              have lx := paired_len wr
              have ly := paired_len wp
              have pl0 := R0.plen
              walk_at "rr"
              refine r_tyL erC ?_
              walk_at "rr"
              refine ⟨by show 2 ≤ sizeLine; decide, fun t ht => ?_⟩
              have sD := same_new (o := .tup [.int u, .ref D]) ht
              have etD : (upd HC t (.tup [.int u, .ref D])) t = some (.tup [.int u, .ref D]) := upd_same
              have erD := sD _ _ erC
              have epD := sD _ _ epC
              have eDD := sD _ _ eC
              have wDD := wD.same sD
              have bD := bC.trans (But.of sD)
              have BD := BC.same sD
              generalize upd HC t (.tup [.int u, .ref D]) = HD at sD etD erD epD eDD wDD bD BD ⊢
              walk_at "rr"
              refine r_app erD (szl (by omega)) ?_
              have ntr : t ≠ r := ne_of etD erD (by intro z; cases z)
              have erE : (upd HD r (.lst (xs ++ [V.ref t]))) r = some (.lst (xs ++ [V.ref t])) := upd_same
              have epE : (upd HD r (.lst (xs ++ [V.ref t]))) pl = some (.lst ys) := by rw [upd_ne nrl.symm]; exact epD
              have eDE : (upd HD r (.lst (xs ++ [V.ref t]))) D = some (.lst zs) := by rw [upd_ne nDr]; exact eDD
              have etE : (upd HD r (.lst (xs ++ [V.ref t]))) t = some (.tup [.int u, .ref D]) := by rw [upd_ne ntr]; exact etD
              have wDE := wDD.upd (o := .lst (xs ++ [V.ref t])) erD
              have sAE : Same (del [r, pl, p] H4) (del [r, pl, p] (upd HD r (.lst (xs ++ [V.ref t])))) := ((del_but b5A (by simp)).trans (del_but bD (by simp))).trans (del_upd (by simp))
              have BE : BagAt (upd HD r (.lst (xs ++ [V.ref t]))) p (n + 10 + 2000 * j + 1400) := by
                obtain ⟨x, y, z, e, r⟩ := BD
                exact ⟨x, y, z, by rw [upd_ne nrp.symm]; exact e, r⟩
              have bE : But p H3 (upd HD r (.lst (xs ++ [V.ref t]))) := But.upd' ((b4.trans b5A).trans bD) hrH
              generalize upd HD r (.lst (xs ++ [V.ref t])) = HE at erE epE eDE etE wDE sAE BE bE ⊢
              walk_at "rr"
              refine ⟨Nat.zero_le _, fun bl hbl => ?_⟩
              have sF := same_new (o := .lst []) hbl
              have eblF : (upd HE bl (.lst [])) bl = some (.lst []) := upd_same
              have erF := sF _ _ erE
              have epF := sF _ _ epE
              have eDF := sF _ _ eDE
              have etF := sF _ _ etE
              have wDF := wDE.same sF
              have sAF := sAE.trans (del_same sF)
              have BF := BE.same sF
              have bF := bE.trans (But.of sF)
              have nsl : ∀ a ∈ [r, pl, p], ∃ ys, (upd HE bl (.lst [])) a = some (.lst ys) := by
                intro a m
                rcases List.mem_cons.mp m with e | m
                · rw [e]; exact ⟨_, erF⟩
                rcases List.mem_cons.mp m with e | m
                · rw [e]; exact ⟨_, epF⟩
                · rw [List.mem_singleton.mp m]; exact BF.lst
              generalize upd HE bl (.lst []) = HF at eblF erF epF eDF etF wDF sAF BF bF nsl ⊢
              have wr' := Paired.mapP wr fun _ _ => PcAt.same sAF
              have wp' := Paired.mapP wp fun _ _ => PileV.same sAF
              have pcNew : PcAt (del [r, pl, p] HF) (.ref t) (u, us) := by
                refine ⟨t, D, rfl, del_at etF ?_, zs, del_at eDF (by simp [nDr, nDpl, nDp]), wos_del wDF nsl⟩
                intro m
                obtain ⟨q, z⟩ := nsl t m
                rw [etF] at z
                cases z
              have wr2 : Paired (PcAt (del [r, pl, p] HF)) (xs ++ [V.ref t]) (raw ++ [(u, us)]) := paired_app wr' (.cons pcNew .nil)
              have R1 := R0.snoc (ws := us) u0 u1 (by omega) (by omega) (by omega)
              walk_at "rr"
              refine r_d (fun hc => ?_) (fun hc => ?_)
              · walk_at "rr"
                obtain ⟨uu, huu⟩ : ∃ uu : Nat, u = (uu : Int) := ⟨u.toNat, by omega⟩
                have hlt : uu < piles.length := by omega
                obtain ⟨v, ev, lb, rfl, zl, elb, wlb⟩ := paired_at wp' (List.getElem?_eq_getElem hlt)
                refine r_ixl epF (at_of huu ev) ?_
                walk_at "rr"
                have epile : pileAt piles u = piles[uu] := by
                  unfold pileAt
                  rw [if_pos hc, huu, List.getD_eq_getElem?_getD, Int.toNat_natCast, List.getElem?_eq_getElem hlt]
                  rfl
                have hh := R0.hi uu _ (List.getElem?_eq_getElem hlt)
                have lzl := wlb.len
                have hmul : size * ((uu : Int) + 1) ≤ 64 * 401 := Int.le_trans (Int.mul_le_mul_of_nonneg_right hs2 (by omega)) (by omega)
                have elb := del_sub _ _ elb
                have wlb : Wos HF zl (pileAt piles u) := by rw [epile]; exact wlb.same del_sub
                have llb : zl.length ≤ 90000 := by omega
                refine r_tyL epF ?_
                walk_at "rr"
                refine r_cat elb eDF (sz (by omega)) fun c hc => ?_
                have sG := same_new (o := .lst (zl ++ zs)) hc
                have nrc : c ≠ r := fun e => by rw [e, erF] at hc; cases hc
                have npc : c ≠ pl := fun e => by rw [e, epF] at hc; cases hc
                have nbc : c ≠ p := fun e => BF.there (by rw [← e]; exact hc)
                walk_at "rr"
                refine r_app (sG _ _ epF) (szl (by omega)) ?_
                have sH : Same (del [r, pl, p] HF) (del [r, pl, p] (upd (upd HF c (.lst (zl ++ zs))) pl (.lst (ys ++ [V.ref c])))) := (del_same sG).trans (del_upd (by simp))
                have wpc : PileV (del [r, pl, p] (upd (upd HF c (.lst (zl ++ zs))) pl (.lst (ys ++ [V.ref c])))) (.ref c) (pileAt piles u ++ us) := by
                  refine ⟨c, rfl, zl ++ zs, del_at (by rw [upd_ne npc]; exact upd_same) (by simp [nrc, npc, nbc]), ?_⟩
                  have w2 : Wos HF (zl ++ zs) (pileAt piles u ++ us) := wlb.app wDF
                  exact (wos_del w2 nsl).same sH
                refine ⟨_, _, _, _, _, xs ++ [V.ref t], ys ++ [V.ref c], raw ++ [(u, us)], piles ++ [pileAt piles u ++ us], rfl, ?_, Paired.mapP wr2 fun _ _ => PcAt.same sH, upd_same, paired_app (Paired.mapP wp' fun _ _ => PileV.same sH) (.cons wpc .nil), by rw [List.length_append, rl]; rfl, R1, ?_, ?_⟩
                · rw [upd_ne nrl]
                  exact sG _ _ erF
                · exact But.upd' (bF.trans (But.of sG)) hplH
                · obtain ⟨x, y, z, e, q⟩ := BF.same sG
                  exact ⟨x, y, z, by rw [upd_ne npp.symm]; exact e, by omega⟩
              · walk_at "rr"
                have epile : pileAt piles u = [] := by
                  unfold pileAt
                  rw [if_neg hc]
                obtain ⟨lb, rfl⟩ : ∃ z, z = bl := ⟨_, rfl⟩
                obtain ⟨zl, hzl⟩ : ∃ z : List V, z = [] := ⟨_, rfl⟩
                have elb : HF lb = some (.lst zl) := by rw [hzl]; exact eblF
                have wlb : Wos HF zl (pileAt piles u) := by rw [epile, hzl]; exact .nil
                have llb : zl.length ≤ 90000 := by rw [hzl]; simp
                refine r_tyL epF ?_
                walk_at "rr"
                refine r_cat elb eDF (sz (by omega)) fun c hc => ?_
                have sG := same_new (o := .lst (zl ++ zs)) hc
                have nrc : c ≠ r := fun e => by rw [e, erF] at hc; cases hc
                have npc : c ≠ pl := fun e => by rw [e, epF] at hc; cases hc
                have nbc : c ≠ p := fun e => BF.there (by rw [← e]; exact hc)
                walk_at "rr"
                refine r_app (sG _ _ epF) (szl (by omega)) ?_
                have sH : Same (del [r, pl, p] HF) (del [r, pl, p] (upd (upd HF c (.lst (zl ++ zs))) pl (.lst (ys ++ [V.ref c])))) := (del_same sG).trans (del_upd (by simp))
                have wpc : PileV (del [r, pl, p] (upd (upd HF c (.lst (zl ++ zs))) pl (.lst (ys ++ [V.ref c])))) (.ref c) (pileAt piles u ++ us) := by
                  refine ⟨c, rfl, zl ++ zs, del_at (by rw [upd_ne npc]; exact upd_same) (by simp [nrc, npc, nbc]), ?_⟩
                  have w2 : Wos HF (zl ++ zs) (pileAt piles u ++ us) := wlb.app wDF
                  exact (wos_del w2 nsl).same sH
                refine ⟨_, _, _, _, _, xs ++ [V.ref t], ys ++ [V.ref c], raw ++ [(u, us)], piles ++ [pileAt piles u ++ us], rfl, ?_, Paired.mapP wr2 fun _ _ => PcAt.same sH, upd_same, paired_app (Paired.mapP wp' fun _ _ => PileV.same sH) (.cons wpc .nil), by rw [List.length_append, rl]; rfl, R1, ?_, ?_⟩
                · rw [upd_ne nrl]
                  exact sG _ _ erF
                · exact But.upd' (bF.trans (But.of sG)) hplH
                · obtain ⟨x, y, z, e, q⟩ := BF.same sG
                  exact ⟨x, y, z, by rw [upd_ne npp.symm]; exact e, by omega⟩
        · have u0 : -1 ≤ 0 + (j : Int) - 1 := by omega
          have u1 : 0 + (j : Int) - 1 < (raw.length : Int) := by omega
          generalize 0 + (j : Int) - 1 = u at u0 u1 ⊢
          have b5 : But p H4 H4 := But.refl
          have B5 := B4.mono (show n + 10 + 2000 * j ≤ n + 10 + 2000 * j + 2 by omega)
          walk_at "rr"
          refine ⟨_, _, rfl, ?_⟩
          walk_at "rr"
          refine ⟨by show 3 ≤ sizeLine; decide, fun l1 hl1 => ?_⟩
          walk_at "rr"
          refine ⟨p, 3, _, rfl, B5.upd hl1, by decide, by decide, by omega, fun li H6 li0 li3 b6 B6 => ?_⟩
          have e6 := b6 _ _ (upd_same (a := l1)) (fun e => B5.there (by rw [← e]; exact hl1))
          obtain ⟨long, el, long0, long1⟩ : ∃ long : Int, atI [V.int 1, .int (if 3 < size then 3 else size), .int size] li = some (.int long) ∧ 1 ≤ long ∧ long ≤ size := by
            have c : li = 0 ∨ li = 1 ∨ li = 2 := by omega
            rcases c with rfl | rfl | rfl
            · exact ⟨1, rfl, by decide, by omega⟩
            · exact ⟨_, rfl, by split <;> omega, by split <;> omega⟩
            · exact ⟨_, rfl, by omega, by omega⟩
          refine r_ixl e6 el ?_
          walk_at "rr"
          refine ⟨p, _, _, rfl, B6, by omega, by omega, by omega, fun cn HA cn0 cn1 bA BA => ?_⟩
          have b5A : But p H4 HA := (b5.trans (But.of (same_new hl1))).trans (b6.trans bA)
          walk_at "rr"
          refine C_range (fun D i H' => HA D = none ∧ ∃ (zs : List V) (us : List Wo), H' D = some (.lst zs) ∧ Wos H' zs us ∧ zs.length = i ∧ But p HA H' ∧ BagAt H' p (n + 10 + 2000 * j + 4 + 20 * i))
            (fun D hD => ⟨hD, [], [], upd_same, .nil, rfl, But.of (same_new hD), (BA.upd hD).mono (by omega)⟩) ?_ ?_
          · rintro D i H' hi ⟨hD, zs, us, eD, wD, lz, bD, BD⟩
            walk_at "rr"
            refine ⟨p, few, _, rfl, BD, few0, few1, by omega, fun t w H'' ht b' B' => ?_⟩
            have nDp : D ≠ p := fun e => BA.there (by rw [← e]; exact hD)
            have eD' := b' _ _ eD nDp
            refine ⟨zs, eD', szl (by omega), hD, zs ++ [t], us ++ [w], upd_same, ((wD.but b' BD).app (.one ht)).upd eD', by rw [List.length_append, lz]; rfl, ?_, ?_⟩
            · intro b o e nb
              rw [upd_ne (ne_of_none e hD)]
              exact b' _ _ (bD _ _ e nb) nb
            · obtain ⟨x, y, z, e, r⟩ := B'
              exact ⟨x, y, z, by rw [upd_ne nDp.symm]; exact e, by omega⟩
          · rintro D HB hD ⟨_, zs, us, eD, wD, lz, bB, BB⟩
            have lz1 : 1 ≤ zs.length := by rw [lz]; omega
            have lz2 : (zs.length : Int) ≤ size := by rw [lz]; omega
            walk_at "rr"
            refine r_d (fun hc => ?_) (fun hc => ?_)
            · walk_at "rr"
              refine ⟨by show 2 ≤ sizeLine; decide, fun t0 ht0 => ?_⟩
              walk_at "rr"
              have eD0 := same_new (o := .tup [.str "at", .int (100 + (0 + (j : Int)))]) ht0 _ _ eD
              obtain ⟨z0, zr, rfl⟩ : ∃ z0 zr, zs = z0 :: zr := by
                cases zs with
                | nil => simp at lz1
                | cons a b => exact ⟨a, b, rfl⟩
              refine r_setL (j := 0) (ys := V.ref t0 :: zr) eD0 (by simp [ixN]) rfl ?_
              obtain ⟨u0w, ur, rfl, wr0⟩ : ∃ u0w ur, us = u0w :: ur ∧ Wos HB zr ur := by
                cases wD with
                | cons a b => exact ⟨_, _, rfl, b⟩
              have wD := Wos.upd (o := .lst (V.ref t0 :: zr)) eD0 (Paired.cons (WoAt.mk upd_same (by show PyData.strOk "at" = true; decide +kernel)) (wr0.same (same_new (o := .tup [.str "at", .int (100 + (0 + (j : Int)))]) ht0)))
              have nDt : D ≠ t0 := ne_of_none eD ht0
              have bC : But p HA (upd (upd HB t0 (.tup [.str "at", .int (100 + (0 + (j : Int)))])) D (.lst (V.ref t0 :: zr))) := But.upd' (bB.trans (But.of (same_new ht0))) hD
              have BC : BagAt (upd (upd HB t0 (.tup [.str "at", .int (100 + (0 + (j : Int)))])) D (.lst (V.ref t0 :: zr))) p (n + 10 + 2000 * j + 1400) := by
                obtain ⟨x, y, z, e, r⟩ := BB.upd (o := .tup [.str "at", .int (100 + (0 + (j : Int)))]) ht0
                exact ⟨x, y, z, by rw [upd_ne (fun e => BA.there (by rw [e]; exact hD))]; exact e, by omega⟩
              have eC : upd (upd HB t0 (.tup [.str "at", .int (100 + (0 + (j : Int)))])) D (.lst (V.ref t0 :: zr)) D = some (.lst (V.ref t0 :: zr)) := upd_same
              have lC1 : 1 ≤ (V.ref t0 :: zr).length := lz1
              have lC2 : ((V.ref t0 :: zr).length : Int) ≤ size := lz2
              generalize upd (upd HB t0 (.tup [.str "at", .int (100 + (0 + (j : Int)))])) D (.lst (V.ref t0 :: zr)) = HC at wD bC BC eC ⊢
              generalize V.ref t0 :: zr = zs at wD eC lC1 lC2
              generalize (Str.ofString "at", 100 + (0 + (j : Int))) :: ur = us at wD
              have lu := wD.len
              have erC := bC _ _ (b5A _ _ er nrp) nrp
              have epC := bC _ _ (b5A _ _ ep npp) npp
              have nDr : D ≠ r := fun e => by
                rw [e, b5A _ _ er nrp] at hD
                cases hD
              have nDpl : D ≠ pl := fun e => by
                rw [e, b5A _ _ ep npp] at hD
                cases hD
              have nDp : D ≠ p := fun e => BA.there (by rw [← e]; exact hD)
              have lx := paired_len wr
              have ly := paired_len wp
              have pl0 := R0.plen
              walk_at "rr"
              refine r_tyL erC ?_
              walk_at "rr"
              refine ⟨by show 2 ≤ sizeLine; decide, fun t ht => ?_⟩
              have sD := same_new (o := .tup [.int u, .ref D]) ht
              have etD : (upd HC t (.tup [.int u, .ref D])) t = some (.tup [.int u, .ref D]) := upd_same
              have erD := sD _ _ erC
              have epD := sD _ _ epC
              have eDD := sD _ _ eC
              have wDD := wD.same sD
              have bD := bC.trans (But.of sD)
              have BD := BC.same sD
              generalize upd HC t (.tup [.int u, .ref D]) = HD at sD etD erD epD eDD wDD bD BD ⊢
              walk_at "rr"
              refine r_app erD (szl (by omega)) ?_
              have ntr : t ≠ r := ne_of etD erD (by intro z; cases z)
              have erE : (upd HD r (.lst (xs ++ [V.ref t]))) r = some (.lst (xs ++ [V.ref t])) := upd_same
              have epE : (upd HD r (.lst (xs ++ [V.ref t]))) pl = some (.lst ys) := by rw [upd_ne nrl.symm]; exact epD
              have eDE : (upd HD r (.lst (xs ++ [V.ref t]))) D = some (.lst zs) := by rw [upd_ne nDr]; exact eDD
              have etE : (upd HD r (.lst (xs ++ [V.ref t]))) t = some (.tup [.int u, .ref D]) := by rw [upd_ne ntr]; exact etD
              have wDE := wDD.upd (o := .lst (xs ++ [V.ref t])) erD
              have sAE : Same (del [r, pl, p] H4) (del [r, pl, p] (upd HD r (.lst (xs ++ [V.ref t])))) := ((del_but b5A (by simp)).trans (del_but bD (by simp))).trans (del_upd (by simp))
              have BE : BagAt (upd HD r (.lst (xs ++ [V.ref t]))) p (n + 10 + 2000 * j + 1400) := by
                obtain ⟨x, y, z, e, r⟩ := BD
                exact ⟨x, y, z, by rw [upd_ne nrp.symm]; exact e, r⟩
              have bE : But p H3 (upd HD r (.lst (xs ++ [V.ref t]))) := But.upd' ((b4.trans b5A).trans bD) hrH
              generalize upd HD r (.lst (xs ++ [V.ref t])) = HE at erE epE eDE etE wDE sAE BE bE ⊢
              walk_at "rr"
              refine ⟨Nat.zero_le _, fun bl hbl => ?_⟩
              have sF := same_new (o := .lst []) hbl
              have eblF : (upd HE bl (.lst [])) bl = some (.lst []) := upd_same
              have erF := sF _ _ erE
              have epF := sF _ _ epE
              have eDF := sF _ _ eDE
              have etF := sF _ _ etE
              have wDF := wDE.same sF
              have sAF := sAE.trans (del_same sF)
              have BF := BE.same sF
              have bF := bE.trans (But.of sF)
              have nsl : ∀ a ∈ [r, pl, p], ∃ ys, (upd HE bl (.lst [])) a = some (.lst ys) := by
                intro a m
                rcases List.mem_cons.mp m with e | m
                · rw [e]; exact ⟨_, erF⟩
                rcases List.mem_cons.mp m with e | m
                · rw [e]; exact ⟨_, epF⟩
                · rw [List.mem_singleton.mp m]; exact BF.lst
              generalize upd HE bl (.lst []) = HF at eblF erF epF eDF etF wDF sAF BF bF nsl ⊢
              have wr' := Paired.mapP wr fun _ _ => PcAt.same sAF
              have wp' := Paired.mapP wp fun _ _ => PileV.same sAF
              have pcNew : PcAt (del [r, pl, p] HF) (.ref t) (u, us) := by
                refine ⟨t, D, rfl, del_at etF ?_, zs, del_at eDF (by simp [nDr, nDpl, nDp]), wos_del wDF nsl⟩
                intro m
                obtain ⟨q, z⟩ := nsl t m
                rw [etF] at z
                cases z
              have wr2 : Paired (PcAt (del [r, pl, p] HF)) (xs ++ [V.ref t]) (raw ++ [(u, us)]) := paired_app wr' (.cons pcNew .nil)
              have R1 := R0.snoc (ws := us) u0 u1 (by omega) (by omega) (by omega)
              walk_at "rr"
              refine r_d (fun hc => ?_) (fun hc => ?_)
              · walk_at "rr"
                obtain ⟨uu, huu⟩ : ∃ uu : Nat, u = (uu : Int) := ⟨u.toNat, by omega⟩
                have hlt : uu < piles.length := by omega
                obtain ⟨v, ev, lb, rfl, zl, elb, wlb⟩ := paired_at wp' (List.getElem?_eq_getElem hlt)
                refine r_ixl epF (at_of huu ev) ?_
                walk_at "rr"
                have epile : pileAt piles u = piles[uu] := by
                  unfold pileAt
                  rw [if_pos hc, huu, List.getD_eq_getElem?_getD, Int.toNat_natCast, List.getElem?_eq_getElem hlt]
                  rfl
                have hh := R0.hi uu _ (List.getElem?_eq_getElem hlt)
                have lzl := wlb.len
                have hmul : size * ((uu : Int) + 1) ≤ 64 * 401 := Int.le_trans (Int.mul_le_mul_of_nonneg_right hs2 (by omega)) (by omega)
                have elb := del_sub _ _ elb
                have wlb : Wos HF zl (pileAt piles u) := by rw [epile]; exact wlb.same del_sub
                have llb : zl.length ≤ 90000 := by omega
                refine r_tyL epF ?_
                walk_at "rr"
                refine r_cat elb eDF (sz (by omega)) fun c hc => ?_
                have sG := same_new (o := .lst (zl ++ zs)) hc
                have nrc : c ≠ r := fun e => by rw [e, erF] at hc; cases hc
                have npc : c ≠ pl := fun e => by rw [e, epF] at hc; cases hc
                have nbc : c ≠ p := fun e => BF.there (by rw [← e]; exact hc)
                walk_at "rr"
                refine r_app (sG _ _ epF) (szl (by omega)) ?_
                have sH : Same (del [r, pl, p] HF) (del [r, pl, p] (upd (upd HF c (.lst (zl ++ zs))) pl (.lst (ys ++ [V.ref c])))) := (del_same sG).trans (del_upd (by simp))
                have wpc : PileV (del [r, pl, p] (upd (upd HF c (.lst (zl ++ zs))) pl (.lst (ys ++ [V.ref c])))) (.ref c) (pileAt piles u ++ us) := by
                  refine ⟨c, rfl, zl ++ zs, del_at (by rw [upd_ne npc]; exact upd_same) (by simp [nrc, npc, nbc]), ?_⟩
                  have w2 : Wos HF (zl ++ zs) (pileAt piles u ++ us) := wlb.app wDF
                  exact (wos_del w2 nsl).same sH
                refine ⟨_, _, _, _, _, xs ++ [V.ref t], ys ++ [V.ref c], raw ++ [(u, us)], piles ++ [pileAt piles u ++ us], rfl, ?_, Paired.mapP wr2 fun _ _ => PcAt.same sH, upd_same, paired_app (Paired.mapP wp' fun _ _ => PileV.same sH) (.cons wpc .nil), by rw [List.length_append, rl]; rfl, R1, ?_, ?_⟩
                · rw [upd_ne nrl]
                  exact sG _ _ erF
                · exact But.upd' (bF.trans (But.of sG)) hplH
                · obtain ⟨x, y, z, e, q⟩ := BF.same sG
                  exact ⟨x, y, z, by rw [upd_ne npp.symm]; exact e, by omega⟩
              · walk_at "rr"
                have epile : pileAt piles u = [] := by
                  unfold pileAt
                  rw [if_neg hc]
                obtain ⟨lb, rfl⟩ : ∃ z, z = bl := ⟨_, rfl⟩
                obtain ⟨zl, hzl⟩ : ∃ z : List V, z = [] := ⟨_, rfl⟩
                have elb : HF lb = some (.lst zl) := by rw [hzl]; exact eblF
                have wlb : Wos HF zl (pileAt piles u) := by rw [epile, hzl]; exact .nil
                have llb : zl.length ≤ 90000 := by rw [hzl]; simp
                refine r_tyL epF ?_
                walk_at "rr"
                refine r_cat elb eDF (sz (by omega)) fun c hc => ?_
                have sG := same_new (o := .lst (zl ++ zs)) hc
                have nrc : c ≠ r := fun e => by rw [e, erF] at hc; cases hc
                have npc : c ≠ pl := fun e => by rw [e, epF] at hc; cases hc
                have nbc : c ≠ p := fun e => BF.there (by rw [← e]; exact hc)
                walk_at "rr"
                refine r_app (sG _ _ epF) (szl (by omega)) ?_
                have sH : Same (del [r, pl, p] HF) (del [r, pl, p] (upd (upd HF c (.lst (zl ++ zs))) pl (.lst (ys ++ [V.ref c])))) := (del_same sG).trans (del_upd (by simp))
                have wpc : PileV (del [r, pl, p] (upd (upd HF c (.lst (zl ++ zs))) pl (.lst (ys ++ [V.ref c])))) (.ref c) (pileAt piles u ++ us) := by
                  refine ⟨c, rfl, zl ++ zs, del_at (by rw [upd_ne npc]; exact upd_same) (by simp [nrc, npc, nbc]), ?_⟩
                  have w2 : Wos HF (zl ++ zs) (pileAt piles u ++ us) := wlb.app wDF
                  exact (wos_del w2 nsl).same sH
                refine ⟨_, _, _, _, _, xs ++ [V.ref t], ys ++ [V.ref c], raw ++ [(u, us)], piles ++ [pileAt piles u ++ us], rfl, ?_, Paired.mapP wr2 fun _ _ => PcAt.same sH, upd_same, paired_app (Paired.mapP wp' fun _ _ => PileV.same sH) (.cons wpc .nil), by rw [List.length_append, rl]; rfl, R1, ?_, ?_⟩
                · rw [upd_ne nrl]
                  exact sG _ _ erF
                · exact But.upd' (bF.trans (But.of sG)) hplH
                · obtain ⟨x, y, z, e, q⟩ := BF.same sG
                  exact ⟨x, y, z, by rw [upd_ne npp.symm]; exact e, by omega⟩
            · obtain ⟨HC, rfl⟩ : ∃ z, z = HB := ⟨_, rfl⟩
              have bC := bB
              have BC := BB.mono (show n + 10 + 2000 * j + 4 + 20 * (1 + cn).toNat ≤ n + 10 + 2000 * j + 1400 by omega)
              have eC := eD
              have lC1 := lz1
              have lC2 := lz2
              have lu := wD.len
              have erC := bC _ _ (b5A _ _ er nrp) nrp
              have epC := bC _ _ (b5A _ _ ep npp) npp
              have nDr : D ≠ r := fun e => by
                rw [e, b5A _ _ er nrp] at hD
                cases hD
              have nDpl : D ≠ pl := fun e => by
                rw [e, b5A _ _ ep npp] at hD
                cases hD
              have nDp : D ≠ p := fun e => BA.there (by rw [← e]; exact hD)
              have lx := paired_len wr
              have ly := paired_len wp
              have pl0 := R0.plen
              walk_at "rr"
              refine r_tyL erC ?_
              walk_at "rr"
              refine ⟨by show 2 ≤ sizeLine; decide, fun t ht => ?_⟩
              have sD := same_new (o := .tup [.int u, .ref D]) ht
              have etD : (upd HC t (.tup [.int u, .ref D])) t = some (.tup [.int u, .ref D]) := upd_same
              have erD := sD _ _ erC
              have epD := sD _ _ epC
              have eDD := sD _ _ eC
              have wDD := wD.same sD
              have bD := bC.trans (But.of sD)
              have BD := BC.same sD
              generalize upd HC t (.tup [.int u, .ref D]) = HD at sD etD erD epD eDD wDD bD BD ⊢
              walk_at "rr"
              refine r_app erD (szl (by omega)) ?_
              have ntr : t ≠ r := ne_of etD erD (by intro z; cases z)
              have erE : (upd HD r (.lst (xs ++ [V.ref t]))) r = some (.lst (xs ++ [V.ref t])) := upd_same
              have epE : (upd HD r (.lst (xs ++ [V.ref t]))) pl = some (.lst ys) := by rw [upd_ne nrl.symm]; exact epD
              have eDE : (upd HD r (.lst (xs ++ [V.ref t]))) D = some (.lst zs) := by rw [upd_ne nDr]; exact eDD
              have etE : (upd HD r (.lst (xs ++ [V.ref t]))) t = some (.tup [.int u, .ref D]) := by rw [upd_ne ntr]; exact etD
              have wDE := wDD.upd (o := .lst (xs ++ [V.ref t])) erD
              have sAE : Same (del [r, pl, p] H4) (del [r, pl, p] (upd HD r (.lst (xs ++ [V.ref t])))) := ((del_but b5A (by simp)).trans (del_but bD (by simp))).trans (del_upd (by simp))
              have BE : BagAt (upd HD r (.lst (xs ++ [V.ref t]))) p (n + 10 + 2000 * j + 1400) := by
                obtain ⟨x, y, z, e, r⟩ := BD
                exact ⟨x, y, z, by rw [upd_ne nrp.symm]; exact e, r⟩
              have bE : But p H3 (upd HD r (.lst (xs ++ [V.ref t]))) := But.upd' ((b4.trans b5A).trans bD) hrH
              generalize upd HD r (.lst (xs ++ [V.ref t])) = HE at erE epE eDE etE wDE sAE BE bE ⊢
              walk_at "rr"
              refine ⟨Nat.zero_le _, fun bl hbl => ?_⟩
              have sF := same_new (o := .lst []) hbl
              have eblF : (upd HE bl (.lst [])) bl = some (.lst []) := upd_same
              have erF := sF _ _ erE
              have epF := sF _ _ epE
              have eDF := sF _ _ eDE
              have etF := sF _ _ etE
              have wDF := wDE.same sF
              have sAF := sAE.trans (del_same sF)
              have BF := BE.same sF
              have bF := bE.trans (But.of sF)
              have nsl : ∀ a ∈ [r, pl, p], ∃ ys, (upd HE bl (.lst [])) a = some (.lst ys) := by
                intro a m
                rcases List.mem_cons.mp m with e | m
                · rw [e]; exact ⟨_, erF⟩
                rcases List.mem_cons.mp m with e | m
                · rw [e]; exact ⟨_, epF⟩
                · rw [List.mem_singleton.mp m]; exact BF.lst
              generalize upd HE bl (.lst []) = HF at eblF erF epF eDF etF wDF sAF BF bF nsl ⊢
              have wr' := Paired.mapP wr fun _ _ => PcAt.same sAF
              have wp' := Paired.mapP wp fun _ _ => PileV.same sAF
              have pcNew : PcAt (del [r, pl, p] HF) (.ref t) (u, us) := by
                refine ⟨t, D, rfl, del_at etF ?_, zs, del_at eDF (by simp [nDr, nDpl, nDp]), wos_del wDF nsl⟩
                intro m
                obtain ⟨q, z⟩ := nsl t m
                rw [etF] at z
                cases z
              have wr2 : Paired (PcAt (del [r, pl, p] HF)) (xs ++ [V.ref t]) (raw ++ [(u, us)]) := paired_app wr' (.cons pcNew .nil)
              have R1 := R0.snoc (ws := us) u0 u1 (by omega) (by omega) (by omega)
              walk_at "rr"
              refine r_d (fun hc => ?_) (fun hc => ?_)
              · walk_at "rr"
                obtain ⟨uu, huu⟩ : ∃ uu : Nat, u = (uu : Int) := ⟨u.toNat, by omega⟩
                have hlt : uu < piles.length := by omega
                obtain ⟨v, ev, lb, rfl, zl, elb, wlb⟩ := paired_at wp' (List.getElem?_eq_getElem hlt)
                refine r_ixl epF (at_of huu ev) ?_
                walk_at "rr"
                have epile : pileAt piles u = piles[uu] := by
                  unfold pileAt
                  rw [if_pos hc, huu, List.getD_eq_getElem?_getD, Int.toNat_natCast, List.getElem?_eq_getElem hlt]
                  rfl
                have hh := R0.hi uu _ (List.getElem?_eq_getElem hlt)
                have lzl := wlb.len
                have hmul : size * ((uu : Int) + 1) ≤ 64 * 401 := Int.le_trans (Int.mul_le_mul_of_nonneg_right hs2 (by omega)) (by omega)
                have elb := del_sub _ _ elb
                have wlb : Wos HF zl (pileAt piles u) := by rw [epile]; exact wlb.same del_sub
                have llb : zl.length ≤ 90000 := by omega
                refine r_tyL epF ?_
                walk_at "rr"
                refine r_cat elb eDF (sz (by omega)) fun c hc => ?_
                have sG := same_new (o := .lst (zl ++ zs)) hc
                have nrc : c ≠ r := fun e => by rw [e, erF] at hc; cases hc
                have npc : c ≠ pl := fun e => by rw [e, epF] at hc; cases hc
                have nbc : c ≠ p := fun e => BF.there (by rw [← e]; exact hc)
                walk_at "rr"
                refine r_app (sG _ _ epF) (szl (by omega)) ?_
                have sH : Same (del [r, pl, p] HF) (del [r, pl, p] (upd (upd HF c (.lst (zl ++ zs))) pl (.lst (ys ++ [V.ref c])))) := (del_same sG).trans (del_upd (by simp))
                have wpc : PileV (del [r, pl, p] (upd (upd HF c (.lst (zl ++ zs))) pl (.lst (ys ++ [V.ref c])))) (.ref c) (pileAt piles u ++ us) := by
                  refine ⟨c, rfl, zl ++ zs, del_at (by rw [upd_ne npc]; exact upd_same) (by simp [nrc, npc, nbc]), ?_⟩
                  have w2 : Wos HF (zl ++ zs) (pileAt piles u ++ us) := wlb.app wDF
                  exact (wos_del w2 nsl).same sH
                refine ⟨_, _, _, _, _, xs ++ [V.ref t], ys ++ [V.ref c], raw ++ [(u, us)], piles ++ [pileAt piles u ++ us], rfl, ?_, Paired.mapP wr2 fun _ _ => PcAt.same sH, upd_same, paired_app (Paired.mapP wp' fun _ _ => PileV.same sH) (.cons wpc .nil), by rw [List.length_append, rl]; rfl, R1, ?_, ?_⟩
                · rw [upd_ne nrl]
                  exact sG _ _ erF
                · exact But.upd' (bF.trans (But.of sG)) hplH
                · obtain ⟨x, y, z, e, q⟩ := BF.same sG
                  exact ⟨x, y, z, by rw [upd_ne npp.symm]; exact e, by omega⟩
              · walk_at "rr"
                have epile : pileAt piles u = [] := by
                  unfold pileAt
                  rw [if_neg hc]
                obtain ⟨lb, rfl⟩ : ∃ z, z = bl := ⟨_, rfl⟩
                obtain ⟨zl, hzl⟩ : ∃ z : List V, z = [] := ⟨_, rfl⟩
                have elb : HF lb = some (.lst zl) := by rw [hzl]; exact eblF
                have wlb : Wos HF zl (pileAt piles u) := by rw [epile, hzl]; exact .nil
                have llb : zl.length ≤ 90000 := by rw [hzl]; simp
                refine r_tyL epF ?_
                walk_at "rr"
                refine r_cat elb eDF (sz (by omega)) fun c hc => ?_
                have sG := same_new (o := .lst (zl ++ zs)) hc
                have nrc : c ≠ r := fun e => by rw [e, erF] at hc; cases hc
                have npc : c ≠ pl := fun e => by rw [e, epF] at hc; cases hc
                have nbc : c ≠ p := fun e => BF.there (by rw [← e]; exact hc)
                walk_at "rr"
                refine r_app (sG _ _ epF) (szl (by omega)) ?_
                have sH : Same (del [r, pl, p] HF) (del [r, pl, p] (upd (upd HF c (.lst (zl ++ zs))) pl (.lst (ys ++ [V.ref c])))) := (del_same sG).trans (del_upd (by simp))
                have wpc : PileV (del [r, pl, p] (upd (upd HF c (.lst (zl ++ zs))) pl (.lst (ys ++ [V.ref c])))) (.ref c) (pileAt piles u ++ us) := by
                  refine ⟨c, rfl, zl ++ zs, del_at (by rw [upd_ne npc]; exact upd_same) (by simp [nrc, npc, nbc]), ?_⟩
                  have w2 : Wos HF (zl ++ zs) (pileAt piles u ++ us) := wlb.app wDF
                  exact (wos_del w2 nsl).same sH
                refine ⟨_, _, _, _, _, xs ++ [V.ref t], ys ++ [V.ref c], raw ++ [(u, us)], piles ++ [pileAt piles u ++ us], rfl, ?_, Paired.mapP wr2 fun _ _ => PcAt.same sH, upd_same, paired_app (Paired.mapP wp' fun _ _ => PileV.same sH) (.cons wpc .nil), by rw [List.length_append, rl]; rfl, R1, ?_, ?_⟩
                · rw [upd_ne nrl]
                  exact sG _ _ erF
                · exact But.upd' (bF.trans (But.of sG)) hplH
                · obtain ⟨x, y, z, e, q⟩ := BF.same sG
                  exact ⟨x, y, z, by rw [upd_ne npp.symm]; exact e, by omega⟩
    · rintro σ H4 ⟨x9, x10, x11, x12, x13, xs, ys, raw, piles, rfl, er, wr, ep, wp, rl, R0, b4, B4⟩
      walk_at "rr"
      obtain ⟨tn, htn, tn0, tn1⟩ : ∃ tn : Int, tn = 7 ∧ 0 < tn ∧ tn ≤ 61 := ⟨7, rfl, by decide, by decide⟩
      rw [← htn]
      have er7 := er
      have ep7 := ep
      have B7 := B4
      have b7 : But p H3 H4 := b4
      have wr7 := wr
      have wp7 := wp
      obtain ⟨H7, rfl⟩ : ∃ z, z = H4 := ⟨_, rfl⟩
      walk_at "rr"
      refine ⟨p, _, _, rfl, B7, by omega, by omega, by omega, fun tc H8 tc0 tc1 b8 B8 => ?_⟩
      walk_at "rr"
      refine C_range (fun D i H' => H8 D = none ∧ ∃ ts : List Int, H' D = some (.lst (ts.map V.int)) ∧ ts.length = i ∧ (∀ t ∈ ts, -1 ≤ t ∧ t < raw.length) ∧ But p H8 H' ∧ BagAt H' p (n + 10 + 2000 * m + 1 + i))
        (fun D hD => ⟨hD, [], upd_same, rfl, fun t m => (by cases m), But.of (same_new hD), (B8.upd hD).mono (by omega)⟩) ?_ ?_
      · rintro D i H' hi ⟨hD, ts, eD, lt, ht, bD, BD⟩
        have nDp : D ≠ p := fun e => B8.there (by rw [← e]; exact hD)
        walk_at "rr"
        refine ⟨p, _, _, rfl, BD, by omega, by omega, by omega, fun d H'' d0 d1 b' B' => ?_⟩
        walk_at "rr"
        have eD' := b' _ _ eD nDp
        refine ⟨_, eD', szl (by rw [List.length_map]; omega), hD, ts ++ [d - 1], by rw [upd_same, List.map_append]; rfl, by rw [List.length_append, lt]; rfl, fun t m => ?_, fun b o e nb => ?_, ?_⟩
        · rcases List.mem_append.mp m with m | m
          · exact ht t m
          · rw [List.mem_singleton.mp m]
            omega
        · rw [upd_ne (ne_of_none e hD)]
          exact b' _ _ (bD _ _ e nb) nb
        · obtain ⟨x, y, z, e, r⟩ := B'
          exact ⟨x, y, z, by rw [upd_ne nDp.symm]; exact e, by omega⟩
      · rintro D H9 hD ⟨_, ts, eD, lt, ht, b9, B9⟩
        walk_at "rr"
        refine ⟨by show 3 ≤ sizeLine; decide, fun t htt => ?_⟩
        have b79 := b8.trans b9
        have sT := same_new (o := .tup [.ref r, .ref pl, .ref D]) htt
        have nDp : D ≠ p := fun e => B8.there (by rw [← e]; exact hD)
        have sAll : Same (del [r, pl, p] H7) (del [p] (upd H9 t (.tup [.ref r, .ref pl, .ref D]))) := ((del_but b79 (by simp)).trans (del_less.trans del_less)).trans (del_same sT)
        refine k t r pl D raw piles ts _ upd_same ⟨by omega, R0.plen, R0.pc, R0.pile, by omega, ht⟩ ⟨xs, ?_, Paired.mapP wr7 fun _ _ => PcAt.same sAll⟩ ⟨ys, ?_, Paired.mapP wp7 fun _ _ => PileV.same sAll⟩ ?_ ?_ ?_
        · exact del_at (sT _ _ (b79 _ _ er7 nrp)) (by simp [nrp])
        · exact del_at (sT _ _ (b79 _ _ ep7 npp)) (by simp [npp])
        · exact del_at (sT _ _ eD) (by simp [nDp])
        · exact ((bb3.trans b7).trans b79).trans (But.of sT)
        · exact (B9.same sT).mono (by omega)
/-! ### _law_numbered -/
abbrev s__law_numbered : Stmt := top 16
theorem sc__law_numbered : FnScope ["raw", "tops", "places", "order", "top", "at"] ["raw", "tops"] (defScope s__law_numbered) := ⟨rfl, rfl, rfl, by decide +kernel, rfl, by decide +kernel, by decide +kernel⟩
def sp__law_numbered (_ : PySem.W.Frag) : Sp := fun vs H Q _ => ∃ (r tp : Addr) (raw : List Pc) (tops : List Int), vs = [.ref r, .ref tp] ∧ PcsAt H r raw ∧ IntsAt H tp tops ∧ Low raw ∧ raw.length ≤ 400 ∧ (∀ t ∈ tops, -1 ≤ t ∧ t < (raw.length : Int)) ∧ tops.length ≤ 1000 ∧
  ∀ (v : V) (H' : Hp), Same H H' → PaperAt H' v (paperPcs raw (order raw tops)) (paperTops (order raw tops) tops) → (∀ t a b, v = .ref t → H' t = some (.tup [.ref a, .ref b]) → H b = none) → Q v H'
theorem ok__law_numbered {fa : Addr} {fd : FuncData} (F : Fun K "_law_numbered" "_law_numbered" s__law_numbered fa fd) (TX : Tx mg) :
    FnOk P w K mg base CX0 1 fa fd ["raw", "tops"] (sp__law_numbered K) := by
  refine F.ok sc__law_numbered (fun vs H Q E h => ?_) (fun cdv A outer s H vs Q E hr h => ?_)
  · obtain ⟨r, tp, raw, tops, rfl, ⟨xs, er, wr⟩, et, low, lraw, ht, ltops, k⟩ := h
    rfl
  · obtain ⟨r, tp, raw, tops, rfl, ⟨xs, er, wr⟩, et, low, lraw, ht, ltops, k⟩ := h
    have hu := hu_of hr
    have hu64 := hr.units
    have hu65 := hu65_of hr
    have lx := paired_len wr
    refine ⟨_, (pss_cons (ps_set (i := 2) sc__law_numbered.nd rfl (Or.inr rfl) (pe_disp (pps_cons (pe_un un_neg pe_int) (pe_un un_neg pe_int) pps_nil) (by rfl) (by rfl) (fun z => by cases z) (by decide)))
  (pss_cons (ps_set (i := 3) sc__law_numbered.nd rfl (Or.inl rfl) (pe_lst pa_nil))
  (pss_cons (ps_for PassesOwn.never rfl (pi_list (pv 1)) (pg_name (i := 4) sc__law_numbered.nd rfl (Or.inl rfl))
  (pss_cons (ps_set (i := 5) sc__law_numbered.nd rfl (Or.inl rfl) (pv 4))
  (pss_one (ps_while PassesOwn.never (pt_cmp (pc_dnotin hu (pv 5) (pv 2))) (pss_cons (ps_dput hu (pv 2) (pv 5) (pe_callB call_len (by rfl) TX.n_len (by decide +kernel) (pa_cons (pv 3) pa_nil)) rfl)
  (pss_cons (ps_expr (pe_bm PySem.F.plainAttrs_list PySem.F.slot_list_append PySem.F.type_list_append mt_append (pv 3) (pa_cons (pv 5) pa_nil)))
  (pss_one (ps_set (i := 5) sc__law_numbered.nd rfl (Or.inl rfl) (pe_ix ix_tup (pe_ix ix_list (pv 0) (pv 5) (fun _ _ => rfl)) pe_int (fun _ _ => rfl))))))))))
  (pss_one (ps_ret (pe_tup (pa_cons (pe_lc (own := [("at", 5)]) (g := gName 5) (tt := tYes) rfl sc__law_numbered.nd (pi_list (pv 3)) (blkOk_by (own := [("at", 5)]) (N := ["raw", "tops", "places", "order", "top", "at"]) (sc := defScope s__law_numbered) (by decide +kernel)) (fun _ _ _ _ _ => (pg_name (i := 5) sc__law_numbered.nd rfl (Or.inl rfl))) (fun _ _ _ _ _ => pts_nil) (fun _ _ _ _ _ => (pe_tup (pa_cons (pe_dget hu (pv 2) (pe_ix (kIxR (rIxT K) ix_tup rfl) (pe_ix (kIxR (rIxL K) ix_list rfl) (pv 0) (pv 5) (fun _ _ => rfl)) pe_int (fun _ _ => rfl)) (fun _ _ => rfl)) (pa_cons (pe_ix (kIxR (rIxT K) ix_tup rfl) (pe_ix (kIxR (rIxL K) ix_list rfl) (pv 0) (pv 5) (fun _ _ => rfl)) pe_int (fun _ _ => rfl)) pa_nil))))) (pa_cons (pe_lc (own := [("top", 4)]) (g := gName 4) (tt := tYes) rfl sc__law_numbered.nd (pi_list (pv 1)) (blkOk_by (own := [("top", 4)]) (N := ["raw", "tops", "places", "order", "top", "at"]) (sc := defScope s__law_numbered) (by decide +kernel)) (fun _ _ _ _ _ => (pg_name (i := 4) sc__law_numbered.nd rfl (Or.inl rfl))) (fun _ _ _ _ _ => pts_nil) (fun _ _ _ _ _ => (pe_dget hu (pv 2) (pv 4) (fun _ _ => rfl)))) pa_nil)))))))), ?_⟩
    refine r_begin (show L2.start _ _ = [some _, some _, none, none, none, none] from rfl) ?_
    try dsimp only [cxOf]
    walk_at "rr"
    refine r_disp fun d hd => ?_
    walk_at "rr"
    refine ⟨upd_same, [(.inl (-1), .int (-1))], rfl, by decide, ?_⟩
    walk_at "rr"
    refine ⟨Nat.zero_le _, fun o ho => ?_⟩
    have nod : o ≠ d := fun e => by rw [e, upd_same] at ho; cases ho
    have hoH : H o = none := by rw [upd_ne nod, upd_ne nod] at ho; exact ho
    have s1 : Same H (upd (upd (upd H d (.dK [])) d (.dK (mergeK [] [(.inl (-1), .int (-1))]))) o (.lst [])) := Same.own (Same.own (Same.own (Same.refl H) hd) hd) hoH
    have ed1 : (upd (upd (upd H d (.dK [])) d (.dK (mergeK [] [(.inl (-1), .int (-1))]))) o (.lst [])) d = some (.dK (pd [])) := by rw [upd_ne nod.symm]; exact upd_same
    have eo1 : (upd (upd (upd H d (.dK [])) d (.dK (mergeK [] [(.inl (-1), .int (-1))]))) o (.lst [])) o = some (.lst (List.map V.int [])) := upd_same
    generalize upd (upd (upd H d (.dK [])) d (.dK (mergeK [] [(.inl (-1), .int (-1))]))) o (.lst []) = H1 at s1 ed1 eo1 ⊢
    walk_at "rr"
    refine r_ilw (s1 _ _ et) ?_
    have key : ∀ i ≤ tops.length, Ord raw ((tops.take i).foldl (vis raw) []) := fun i hi => (order_ok low (tops := tops.take i) fun t m => ht t (List.mem_of_mem_take m)).1
    refine L_list (xs := tops.map V.int) (fun i σ H2 => ∃ u1 u2, σ = [some (V.ref r), some (V.ref tp), some (V.ref d), some (V.ref o), u1, u2] ∧ Same H H2 ∧ H2 d = some (.dK (pd ((tops.take i).foldl (vis raw) []))) ∧ H2 o = some (.lst (((tops.take i).foldl (vis raw) []).map V.int)))
      ⟨_, _, rfl, s1, ed1, eo1⟩ ?_ ?_ ?_
    · rintro i σ H2 hi ⟨u1, u2, rfl, s2, ed2, eo2⟩
      exact .inl (.inl (s2 _ _ et))
    · rintro i x σ H2 hx ⟨u1, u2, rfl, s2, ed2, eo2⟩
      rw [List.getElem?_map] at hx
      obtain ⟨t, et', rfl⟩ := Option.map_eq_some_iff.mp hx
      have hi : i < tops.length := (List.getElem?_eq_some_iff.mp et').1
      have hti := ht t (List.mem_of_getElem? et')
      have o0 := key i (by omega)
      have tk : tops.take (i + 1) = tops.take i ++ [t] := by rw [List.take_add_one, et']; rfl
      rw [tk, List.foldl_append]
      show gName _ _ _ _ _
      generalize (tops.take i).foldl (vis raw) [] = ord at ed2 eo2 o0 ⊢
      walk_at "rr"
      refine r_while (fun m σ H3 => ∃ (ord' : List Int) (a : Int), m = (a + 1).toNat ∧ vis raw ord' a = vis raw ord t ∧ Ord raw ord' ∧ -1 ≤ a ∧ a < raw.length ∧ σ = [some (V.ref r), some (V.ref tp), some (V.ref d), some (V.ref o), some (V.int t), some (V.int a)] ∧ Same H H3 ∧ H3 d = some (.dK (pd ord')) ∧ H3 o = some (.lst (ord'.map V.int)))
        _ ⟨ord, t, rfl, rfl, o0, hti.1, hti.2, rfl, s2, ed2, eo2⟩ ?_
      rintro m σ H3 ⟨ord', a, rfl, ev, o', a0, a1, rfl, s3, ed3, eo3⟩
      walk_at "rr"
      refine r_dki ed3 ?_
      rw [pd_val]
      have lo := o'.len
      by_cases c : a = -1 ∨ a ∈ ord'
      · rw [if_pos c]
        walk_at "rr"
        refine r_itF rfl ?_
        refine ⟨_, _, rfl, s3, ?_, ?_⟩
        · show _ = some (HO.dK (pd (vis raw ord t)))
          rw [ed3, ← ev, vis_stop c]
        · show _ = some (HO.lst ((vis raw ord t).map V.int))
          rw [eo3, ← ev, vis_stop c]
      · rw [if_neg c]
        have c1 : a ≠ -1 := fun e => c (.inl e)
        have c2 : ¬ a ∈ ord' := fun e => c (.inr e)
        have un := low.under (a := a) (by omega) a1
        walk_at "rr"
        refine r_itT rfl ?_
        walk_at "rr"
        refine r_lenl eo3 ?_
        walk_at "rr"
        refine r_pki ed3 (by rw [pd_len]; exact szl (by omega)) ?_
        rw [List.length_map, pd_put c]
        have s4 := Same.own (o := .dK (pd (ord' ++ [a]))) s3 hd
        have eo4 : (upd H3 d (.dK (pd (ord' ++ [a])))) o = some (.lst (ord'.map V.int)) := by rw [upd_ne nod]; exact eo3
        walk_at "rr"
        refine r_tyL eo4 ?_
        walk_at "rr"
        refine r_app eo4 (by rw [List.length_map]; exact szl (by omega)) ?_
        obtain ⟨v, ev2, ta, la, rfl, eta, -⟩ := paired_at wr (pc_at (by omega) a1)
        have s5 := Same.own (o := .lst (ord'.map V.int ++ [V.int a])) s4 hoH
        have etn := at_of (show a = ((a.toNat : Nat) : Int) by omega) ev2
        walk_at "rr"
        refine r_ixl (s5 _ _ er) etn ?_
        walk_at "rr"
        refine r_ixt (s5 _ _ eta) rfl ?_
        walk_at "rr"
        refine ⟨_, ?_, ord' ++ [a], under raw a, rfl, ?_, o'.snoc (by omega) a1 c2, un.1, by omega, rfl, s5, ?_, ?_⟩
        · omega
        · rw [← ev, vis_step low (by omega) a1 c2]
        · rw [upd_ne nod.symm]; exact upd_same
        · rw [List.map_append]; exact upd_same
    · rintro σ H2 ⟨u1, u2, rfl, s2, ed2, eo2⟩
      rw [List.length_map, List.take_length] at ed2 eo2
      obtain ⟨oo, cl, tm⟩ := order_ok low ht
      change H2 d = some (.dK (pd (order raw tops))) at ed2
      change H2 o = some (.lst ((order raw tops).map V.int)) at eo2
      generalize order raw tops = ord at *
      have lo := oo.len
      walk_at "rr"
      refine r_ilw eo2 ?_
      refine C_list (xs := ord.map V.int) (fun D i H3 => H2 D = none ∧ ∃ zs : List V, H3 D = some (.lst zs) ∧ zs.length = i ∧ Same H2 H3 ∧ Paired (PcAt (del [D] H3)) zs ((ord.take i).map fun a => (place ord (under raw a), worthsOf raw a)))
        (fun D hD => ⟨hD, [], upd_same, rfl, same_new hD, .nil⟩) ?_ ?_ ?_
      · rintro D i H3 hi ⟨hD, zs, eD, lz, s3, wz⟩
        exact .inl (.inl (s3 _ _ eo2))
      · rintro D i x H3 hx ⟨hD, zs, eD, lz, s3, wz⟩
        rw [List.getElem?_map] at hx
        obtain ⟨a, ea, rfl⟩ := Option.map_eq_some_iff.mp hx
        have hi : i < ord.length := (List.getElem?_eq_some_iff.mp ea).1
        have ma := List.mem_of_getElem? ea
        have ra := oo.rng a ma
        have ca := cl a ma
        have s03 := s2.trans s3
        obtain ⟨v, ev2, ta, la, rfl, eta, pla⟩ := paired_at wr (pc_at ra.1 ra.2)
        have etn := at_of (show a = ((a.toNat : Nat) : Int) by omega) ev2
        walk_at "rr"
        refine r_ixl (s03 _ _ er) etn ?_
        walk_at "rr"
        refine r_ixt (s03 _ _ eta) (show atI [V.int (under raw a), .ref la] 0 = some (.int (under raw a)) from rfl) ?_
        refine r_gki (s3 _ _ ed2) (by rw [pd_val, if_pos ca]) ?_
        walk_at "rr"
        refine r_ixl (s03 _ _ er) etn ?_
        walk_at "rr"
        refine r_ixt (s03 _ _ eta) (show atI [V.int (under raw a), .ref la] 1 = some (.ref la) from rfl) ?_
        walk_at "rr"
        refine ⟨by show 2 ≤ sizeLine; decide, fun t hnt => ?_⟩
        walk_at "rr"
        have s4 := same_new (o := .tup [.int (place ord (under raw a)), .ref la]) hnt
        have nDt : t ≠ D := fun e => by rw [e, eD] at hnt; cases hnt
        refine ⟨zs, s4 _ _ eD, szl (by omega), hD, zs ++ [V.ref t], upd_same, by rw [List.length_append, lz]; rfl, Same.own (s3.trans s4) hD, ?_⟩
        rw [List.take_add_one, ea, List.map_append]
        have s5 : Same (del [D] H3) (del [D] (upd (upd H3 t (.tup [.int (place ord (under raw a)), .ref la])) D (.lst (zs ++ [V.ref t])))) := (del_same s4).trans (del_upd (by simp))
        have nla : la ≠ D := by
          obtain ⟨z, ez, -⟩ := pla
          exact ne_of_none (s2 _ _ ez) hD
        have ss : Same H (del [D] (upd (upd H3 t (.tup [.int (place ord (under raw a)), .ref la])) D (.lst (zs ++ [V.ref t])))) := fun b u e => del_at (by rw [upd_ne (ne_of_none (s2 _ _ e) hD)]; exact s4 _ _ (s03 _ _ e)) (by simpa using ne_of_none (s2 _ _ e) hD)
        refine paired_app (Paired.mapP wz fun _ _ => PcAt.same s5) (.cons ⟨t, la, rfl, del_at (by rw [upd_ne nDt]; exact upd_same) (by simpa using nDt), pla.same ss⟩ .nil)
      · rintro D H3 hD ⟨_, zs, eD, lz, s3, wz⟩
        rw [List.length_map, List.take_length] at wz
        walk_at "rr"
        refine r_ilw ((s2.trans s3) _ _ et) ?_
        refine C_list (xs := tops.map V.int) (fun D2 i H4 => H3 D2 = none ∧ H4 D2 = some (.lst (((tops.take i).map (place ord)).map V.int)) ∧ Same H3 H4)
          (fun D2 hD2 => ⟨hD2, upd_same, same_new hD2⟩) ?_ ?_ ?_
        · rintro D2 i H4 hi ⟨hD2, eD2, s4⟩
          exact .inl (.inl (s4 _ _ ((s2.trans s3) _ _ et)))
        · rintro D2 i x H4 hx ⟨hD2, eD2, s4⟩
          rw [List.getElem?_map] at hx
          obtain ⟨a, ea, rfl⟩ := Option.map_eq_some_iff.mp hx
          have hi : i < tops.length := (List.getElem?_eq_some_iff.mp ea).1
          walk_at "rr"
          refine r_gki (s4 _ _ (s3 _ _ ed2)) (by rw [pd_val, if_pos (tm a (List.mem_of_getElem? ea))]) ?_
          walk_at "rr"
          refine ⟨_, eD2, szl (by simp; omega), hD2, ?_, Same.own s4 hD2⟩
          rw [List.take_add_one, ea, List.map_append, List.map_append]
          exact upd_same
        · rintro D2 H4 hD2 ⟨_, eD2, s4⟩
          rw [List.length_map, List.take_length] at eD2
          walk_at "rr"
          refine ⟨by show 2 ≤ sizeLine; decide, fun t hnt => ?_⟩
          walk_at "rr"
          have s5 := same_new (o := .tup [.ref D, .ref D2]) hnt
          have s35 := s4.trans s5
          exact k _ _ ((s2.trans s3).trans s35) ⟨t, D, D2, rfl, upd_same, ⟨zs, s35 _ _ eD, Paired.mapP wz fun _ _ h => PcAt.same (del_sub.trans s35) h⟩, s5 _ _ eD2⟩ fun t' a' b' e1 e2 => by
            cases e1
            rw [upd_same] at e2
            cases e2
            exact (s2.trans s3).free hD2
/-! ### _law_copy -/
abbrev s__law_copy : Stmt := top 17
theorem sc__law_copy : FnScope ["paper", "under", "worths"] ["paper"] (defScope s__law_copy) := ⟨rfl, rfl, rfl, by decide +kernel, rfl, by decide +kernel, by decide +kernel⟩
def sp__law_copy (_ : PySem.W.Frag) : Sp := fun vs H Q _ => ∃ (v : V) (pcs : List Pc) (tops : List Int), vs = [v] ∧ PaperAt H v pcs tops ∧ pcs.length ≤ 1000 ∧ tops.length ≤ 1000 ∧
  ∀ (v : V) (H' : Hp), Same H H' → PaperAt H' v pcs tops → Q v H'
theorem ok__law_copy {fa : Addr} {fd : FuncData} (F : Fun K "_law_copy" "_law_copy" s__law_copy fa fd) (TX : Tx mg) :
    FnOk P w K mg base CX0 1 fa fd ["paper"] (sp__law_copy K) := by
  refine F.ok sc__law_copy (fun vs H Q E h => ?_) (fun cdv A outer s H vs Q E hr h => ?_)
  · obtain ⟨v, pcs, tops, rfl, ⟨t, a, b, rfl, et, ⟨xs, ea, wa⟩, eb⟩, lp, lt, q⟩ := h
    rfl
  · obtain ⟨v, pcs, tops, rfl, ⟨t, a, b, rfl, et, ⟨xs, ea, wa⟩, eb⟩, lp, lt, q⟩ := h
    have hu := hu_of hr
    have hu64 := hr.units
    have hu65 := hu65_of hr
    have lx := paired_len wa
    have eb' : H b = some (.lst (tops.map V.int)) := eb
    refine ⟨_, (pss_one (ps_ret (pe_tup (pa_cons (pe_lc (own := [("under", 1), ("worths", 2)]) (g := gTup K 2 (gCons (gName 1) (gCons (gName 2) gNil))) (tt := tYes) rfl sc__law_copy.nd (pi_list (pe_ix ix_tup (pv 0) pe_int (fun _ _ => rfl))) (blkOk_by (own := [("under", 1), ("worths", 2)]) (N := ["paper", "under", "worths"]) (sc := defScope s__law_copy) (by decide +kernel)) (fun _ _ _ _ _ => (kPG (gTup K _ _) (pg_tup rfl (pgs_cons (pg_name (i := 1) sc__law_copy.nd rfl (Or.inl rfl)) (pgs_cons (pg_name (i := 2) sc__law_copy.nd rfl (Or.inl rfl)) pgs_nil))) rfl)) (fun _ _ _ _ _ => pts_nil) (fun _ _ _ _ _ => (pe_tup (pa_cons (pv 1) (pa_cons (pe_callTy (kCallR (rListOf K) call_list_of rfl) (by rfl) TX.n_list (by decide +kernel) (pa_cons (pv 2) pa_nil)) pa_nil))))) (pa_cons (pe_callTy call_list_of (by rfl) TX.n_list (by decide +kernel) (pa_cons (pe_ix ix_tup (pv 0) pe_int (fun _ _ => rfl)) pa_nil)) pa_nil))))), ?_⟩
    refine r_begin (show L2.start _ _ = [some _, none, none] from rfl) ?_
    try dsimp only [cxOf]
    walk_at "rr"
    refine r_ilw ea ?_
    refine C_list (xs := xs) (fun D i H3 => H D = none ∧ ∃ zs : List V, H3 D = some (.lst zs) ∧ zs.length = i ∧ Same H H3 ∧ Paired (PcAt (del [D] H3)) zs (pcs.take i))
        (fun D hD => ⟨hD, [], upd_same, rfl, same_new hD, .nil⟩) ?_ ?_ ?_
    · rintro D i H3 hi ⟨hD, zs, eD, lz, s3, wz⟩
      exact .inl (.inl (s3 _ _ ea))
    · rintro D i x H3 hx ⟨hD, zs, eD, lz, s3, wz⟩
      have hi : i < xs.length := (List.getElem?_eq_some_iff.mp hx).1
      obtain ⟨⟨u, ws⟩, epc, tx, l, rfl, etx, ys, el, wl⟩ := G.paired_get wa hx
      have etx3 := s3 _ _ etx
      walk_at "rr"
      refine ⟨l, ys, rfl, .inl (.inl (.inl (s3 _ _ el))), fun c hc => ?_⟩
      walk_at "rr"
      refine ⟨by show 2 ≤ sizeLine; decide, fun t2 ht2 => ?_⟩
      have s4 := same_new (o := .lst ys) hc
      have s5 := same_new (o := .tup [.int u, .ref c]) ht2
      have s35 := s4.trans s5
      have nDt : t2 ≠ D := fun e => by rw [e, s4 _ _ eD] at ht2; cases ht2
      have nDc : c ≠ D := fun e => by rw [e, eD] at hc; cases hc
      have nct : c ≠ t2 := fun e => by rw [← e, upd_same] at ht2; cases ht2
      walk_at "rr"
      refine ⟨zs, s35 _ _ eD, szl (by omega), hD, zs ++ [V.ref t2], upd_same, by rw [List.length_append, lz]; rfl, Same.own (s3.trans s35) hD, ?_⟩
      have s6 : Same (del [D] H3) (del [D] (upd (upd (upd H3 c (.lst ys)) t2 (.tup [.int u, .ref c])) D (.lst (zs ++ [V.ref t2])))) := (del_same s35).trans (del_upd (by simp))
      have ss : Same H (del [D] (upd (upd (upd H3 c (.lst ys)) t2 (.tup [.int u, .ref c])) D (.lst (zs ++ [V.ref t2])))) := fun b u e => del_at (by rw [upd_ne (ne_of_none e hD)]; exact s35 _ _ (s3 _ _ e)) (by simpa using ne_of_none e hD)
      rw [List.take_add_one, epc]
      refine paired_app (Paired.mapP wz fun _ _ => PcAt.same s6) (.cons ⟨t2, c, rfl, del_at (by rw [upd_ne nDt]; exact upd_same) (by simpa using nDt), ys, del_at (by rw [upd_ne nDc, upd_ne nct]; exact upd_same) (by simpa using nDc), wl.same ss⟩ .nil)
    · rintro D H3 hD ⟨_, zs, eD, lz, s3, wz⟩
      rw [lx, List.take_length] at wz
      have et3 := s3 _ _ et
      walk_at "rr"
      refine ⟨b, _, rfl, .inl (.inl (.inl (s3 _ _ eb'))), fun c hc => ?_⟩
      walk_at "rr"
      refine ⟨by show 2 ≤ sizeLine; decide, fun t2 ht2 => ?_⟩
      walk_at "rr"
      have s4 := same_new (o := .lst (tops.map V.int)) hc
      have s5 := same_new (o := .tup [.ref D, .ref c]) ht2
      have s35 := s4.trans s5
      exact q _ _ (s3.trans s35) ⟨t2, D, c, rfl, upd_same, ⟨zs, s35 _ _ eD, Paired.mapP wz fun _ _ h => PcAt.same (del_sub.trans s35) h⟩, s5 _ _ upd_same⟩
/-! ### _law_case -/
abbrev s__law_case : Stmt := top 18
theorem sc__law_case : FnScope ["bag", "unlike", "great", "size", "most", "raw", "piles", "tops"] ["bag", "unlike"] (defScope s__law_case) := ⟨rfl, rfl, rfl, by decide +kernel, rfl, by decide +kernel, by decide +kernel⟩
def sp__law_case (_ : PySem.W.Frag) : Sp := fun vs H Q _ => ∃ (p : Addr) (unlike : Int) (n : Nat), vs = [.ref p, .int unlike] ∧ BagAt H p n ∧ n + 2000000 < 1000000000 ∧
  ∀ (t r pl tp : Addr) (size : Int) (raw : List Pc) (piles : List (List Wo)) (tops : List Int) (H' : Hp), H' t = some (.tup [.int size, .ref r, .ref pl, .ref tp]) → 2 ≤ size → size ≤ 64 → Raw size 400 raw piles tops → PcsAt (del [p] H') r raw → PilesAt (del [p] H') pl piles → IntsAt (del [p] H') tp tops →
    But p H H' → BagAt H' p (n + 2000000) → Q (.ref t) H'
theorem ok__law_case {fa : Addr} {fd : FuncData} (F : Fun K "_law_case" "_law_case" s__law_case fa fd) (TX : Tx mg)
    (C__law_draw : Cal P w K mg base CX0 1 "_law_draw" ["bag", "many"] (sp__law_draw K))
    (C__law_raw : Cal P w K mg base CX0 3 "_law_raw" ["bag", "size", "most", "unlike"] (sp__law_raw K))
    (C__law_size : Cal P w K mg base CX0 2 "_law_size" ["bag"] (sp__law_size K)) :
    FnOk P w K mg base CX0 4 fa fd ["bag", "unlike"] (sp__law_case K) := by
  refine F.ok sc__law_case (fun vs H Q E h => ?_) (fun cdv A outer s H vs Q E hr h => ?_)
  · obtain ⟨p, unlike, n, rfl, hb, hn, k⟩ := h
    rfl
  · obtain ⟨p, unlike, n, rfl, hb, hn, k⟩ := h
    have hu := hu_of hr
    have hu64 := hr.units
    have hu65 := hu65_of hr
    refine ⟨_, (pss_cons (ps_set (i := 2) sc__law_case.nd rfl (Or.inl rfl) (pe_cal C__law_draw (hr.mono (by decide)) (by rfl) pass0 (pa_cons (pv 0) (pa_cons pe_int pa_nil))))
  (pss_cons (ps_set (i := 3) sc__law_case.nd rfl (Or.inl rfl) (pe_cal C__law_size (hr.mono (by decide)) (by rfl) pass0 (pa_cons (pv 0) pa_nil)))
  (pss_cons (ps_set (i := 4) sc__law_case.nd rfl (Or.inl rfl) pe_int)
  (pss_cons (ps_if (pt_cmpR op_eq (pv 2) pe_int (nomark _)) (pss_cons (ps_set (i := 3) sc__law_case.nd rfl (Or.inl rfl) pe_int)
  (pss_one (ps_set (i := 4) sc__law_case.nd rfl (Or.inl rfl) pe_int))) pss_nil)
  (pss_cons (ps_asg (pe_cal C__law_raw (hr.mono (by decide)) (by rfl) pass0 (pa_cons (pv 0) (pa_cons (pv 3) (pa_cons (pv 4) (pa_cons (pv 1) pa_nil))))) (pg_tup rfl (pgs_cons (pg_name (i := 5) sc__law_case.nd rfl (Or.inl rfl)) (pgs_cons (pg_name (i := 6) sc__law_case.nd rfl (Or.inl rfl)) (pgs_cons (pg_name (i := 7) sc__law_case.nd rfl (Or.inl rfl)) pgs_nil)))))
  (pss_one (ps_ret (pe_tup (pa_cons (pv 3) (pa_cons (pv 5) (pa_cons (pv 6) (pa_cons (pv 7) pa_nil)))))))))))), ?_⟩
    refine r_begin (show L2.start _ _ = [some _, some _, none, none, none, none, none, none] from rfl) ?_
    try dsimp only [cxOf]
    walk_at "rr"
    refine ⟨p, 8, n, rfl, hb, by decide, by decide, by omega, fun great H1 _ _ b1 B1 => ?_⟩
    walk_at "rr"
    refine ⟨p, _, rfl, B1, by omega, fun size H2 z0 z1 b2 B2 => ?_⟩
    have rest : ∀ (σ : L2.St) (sz : Int) (most : Nat), σ = [some (.ref p), some (.int unlike), some (.int great), some (.int sz), some (.int (most : Int)), none, none, none] → 2 ≤ sz → sz ≤ 64 → most ≤ 400 → True := fun _ _ _ _ _ _ _ => trivial
    walk_at "rr"
    rw [dint]
    refine r_d (fun hc => ?_) (fun hc => ?_)
    · walk_at "rr"
      refine ⟨p, 2, 400, unlike, _, rfl, B2, by decide, by decide, by decide, by omega, fun t r pl tp raw piles tops H3 et R pr pp pt b3 B3 => ?_⟩
      obtain ⟨size, z0, z1, R, hsz⟩ : ∃ size : Int, 2 ≤ size ∧ size ≤ 64 ∧ Raw size 400 raw piles tops ∧ size = 2 := ⟨2, by decide, by decide, R, rfl⟩
      rw [← hsz]
      walk_at "rr"
      refine ⟨by show 4 ≤ sizeLine; decide, fun t2 ht2 => ?_⟩
      walk_at "rr"
      have s4 := same_new (o := .tup [.int size, .ref r, .ref pl, .ref tp]) ht2
      exact k t2 r pl tp size raw piles tops _ upd_same z0 z1 R (PcsAt.same (del_same s4) pr) (PilesAt.same (del_same s4) pp) (IntsAt.same (del_same s4) pt) (((b1.trans b2).trans b3).trans (But.of s4)) ((B3.same s4).mono (by omega))
    · walk_at "rr"
      refine ⟨p, size, 12, unlike, _, rfl, B2, z0, z1, by decide, by omega, fun t r pl tp raw piles tops H3 et R pr pp pt b3 B3 => ?_⟩
      have R : Raw size 400 raw piles tops := ⟨Nat.le_trans R.len (by decide), R.plen, R.pc, R.pile, R.tlen, R.top⟩
      walk_at "rr"
      refine ⟨by show 4 ≤ sizeLine; decide, fun t2 ht2 => ?_⟩
      walk_at "rr"
      have s4 := same_new (o := .tup [.int size, .ref r, .ref pl, .ref tp]) ht2
      exact k t2 r pl tp size raw piles tops _ upd_same z0 z1 R (PcsAt.same (del_same s4) pr) (PilesAt.same (del_same s4) pp) (IntsAt.same (del_same s4) pt) (((b1.trans b2).trans b3).trans (But.of s4)) ((B3.same s4).mono (by omega))
/-! ### law -/
abbrev s_law : Stmt := top 19
theorem sc_law : FnScope ["script", "k", "bag", "drawn", "size", "raw", "piles", "tops", "paper", "longest", "handed", "one", "found", "under", "worths"] ["script"] (defScope s_law) := ⟨rfl, rfl, rfl, by decide +kernel, rfl, by decide +kernel, by decide +kernel⟩
def sp_law (K : PySem.W.Frag) : Sp := fun vs H Q _ => ∃ (a : Addr) (ns : List Int), vs = [.ref a] ∧ SqL K H a (ns.map V.int) ∧ ns.length ≤ 63 ∧ (∀ z ∈ ns, PySem.Builtin.Int.intBits z ≤ 1048576) ∧ ∀ H', Q (.bl true) H'
theorem ok_law {fa : Addr} {fd : FuncData} (F : Fun K "law" "law" s_law fa fd) (TX : Tx mg)
    (C__law_bag : Cal P w K mg base CX0 1 "_law_bag" ["cell", "place"] (sp__law_bag K))
    (C__law_case : Cal P w K mg base CX0 4 "_law_case" ["bag", "unlike"] (sp__law_case K))
    (C__law_cell_at : Cal P w K mg base CX0 1 "_law_cell_at" ["script", "k"] (sp__law_cell_at K))
    (C__law_copy : Cal P w K mg base CX0 1 "_law_copy" ["paper"] (sp__law_copy K))
    (C__law_numbered : Cal P w K mg base CX0 1 "_law_numbered" ["raw", "tops"] (sp__law_numbered K))
    (C__law_size : Cal P w K mg base CX0 2 "_law_size" ["bag"] (sp__law_size K))
    (C_is_paper : Cal P w K mg base CX0 2 "is_paper" ["size", "paper"] (sp_is_paper K)) :
    FnOk P w K mg base CX0 5 fa fd ["script"] (sp_law K) := by
  refine F.ok sc_law (fun vs H Q E h => ?_) (fun cdv A outer s H vs Q E hr h => ?_)
  · obtain ⟨a, ns, rfl, hS, hn, hbits, q⟩ := h
    rfl
  · obtain ⟨a, ns, rfl, hS, hn, hbits, q⟩ := h
    have hu := hu_of hr
    have hu64 := hr.units
    have hu65 := hu65_of hr
    refine ⟨_, (pss_cons (ps_for PassesOwn.never rfl (pi_range1 (by rfl) TX.range (pa_cons (pe_callB (call_max2 rfl) (by rfl) TX.n_max (by decide +kernel) (pa_cons pe_int (pa_cons (pe_callB (call_min2 rfl) (by rfl) TX.n_min (by decide +kernel) (pa_cons pe_int (pa_cons (pe_callB call_len (by rfl) TX.n_len (by decide +kernel) (pa_cons (pv 0) pa_nil)) pa_nil))) pa_nil))) pa_nil)) (pg_name (i := 1) sc_law.nd rfl (Or.inl rfl))
  (pss_cons (ps_set (i := 2) sc_law.nd rfl (Or.inl rfl) (pe_cal C__law_bag (hr.mono (by decide)) (by rfl) pass0 (pa_cons (pe_cal C__law_cell_at (hr.mono (by decide)) (by rfl) pass0 (pa_cons (pv 0) (pa_cons (pv 1) pa_nil))) (pa_cons (pv 1) pa_nil))))
  (pss_cons (ps_set (i := 3) sc_law.nd rfl (Or.inl rfl) (pe_cal C__law_size (hr.mono (by decide)) (by rfl) pass0 (pa_cons (pv 2) pa_nil)))
  (pss_cons (ps_asg (pe_cal C__law_case (hr.mono (by decide)) (by rfl) pass0 (pa_cons (pv 2) (pa_cons pe_int pa_nil))) (pg_tup rfl (pgs_cons (pg_name (i := 4) sc_law.nd rfl (Or.inl rfl)) (pgs_cons (pg_name (i := 5) sc_law.nd rfl (Or.inl rfl)) (pgs_cons (pg_name (i := 6) sc_law.nd rfl (Or.inl rfl)) (pgs_cons (pg_name (i := 7) sc_law.nd rfl (Or.inl rfl)) pgs_nil))))))
  (pss_cons (ps_set (i := 8) sc_law.nd rfl (Or.inl rfl) (pe_cal C__law_numbered (hr.mono (by decide)) (by rfl) pass0 (pa_cons (pv 5) (pa_cons (pv 7) pa_nil))))
  (pss_cons (ps_set (i := 9) sc_law.nd rfl (Or.inl rfl) (pe_callBK (ck_maxd rfl) (by rfl) TX.n_max (by decide +kernel) (pa_cons (pe_lc (own := [("under", 13), ("worths", 14)]) (g := gTup K 2 (gCons (gName 13) (gCons (gName 14) gNil))) (tt := tYes) rfl sc_law.nd (pi_list (pe_ix ix_tup (pv 8) pe_int (fun _ _ => rfl))) (blkOk_by (own := [("under", 13), ("worths", 14)]) (N := ["script", "k", "bag", "drawn", "size", "raw", "piles", "tops", "paper", "longest", "handed", "one", "found", "under", "worths"]) (sc := defScope s_law) (by decide +kernel)) (fun _ _ _ _ _ => (kPG (gTup K _ _) (pg_tup rfl (pgs_cons (pg_name (i := 13) sc_law.nd rfl (Or.inl rfl)) (pgs_cons (pg_name (i := 14) sc_law.nd rfl (Or.inl rfl)) pgs_nil))) rfl)) (fun _ _ _ _ _ => pts_nil) (fun _ _ _ _ _ => (pe_callB (kCallR (rLenK K) call_len rfl) (by rfl) TX.n_len (by decide +kernel) (pa_cons (pv 14) pa_nil)))) pa_nil) (pk_cons pe_int pk_nil)))
  (pss_cons (ps_set (i := 10) sc_law.nd rfl (Or.inl rfl) (pe_cal C__law_copy (hr.mono (by decide)) (by rfl) pass0 (pa_cons (pv 8) pa_nil)))
  (pss_one (ps_for PassesOwn.never rfl (pi_list (pe_lst (pa_cons (pv 4) (pa_cons (pv 3) (pa_cons (pe_callB (call_max2 rfl) (by rfl) TX.n_max (by decide +kernel) (pa_cons pe_int (pa_cons (pv 9) pa_nil))) (pa_cons (pe_callB (call_max2 rfl) (by rfl) TX.n_max (by decide +kernel) (pa_cons pe_int (pa_cons (pe_op op_sub (pv 9) pe_int) pa_nil))) (pa_cons pe_int pa_nil))))))) (pg_name (i := 11) sc_law.nd rfl (Or.inl rfl))
  (pss_cons (ps_set (i := 12) sc_law.nd rfl (Or.inl rfl) (pe_cal C_is_paper (hr.mono (by decide)) (by rfl) pass0 (pa_cons (pv 11) (pa_cons (pv 10) pa_nil))))
  (pss_one (ps_if (PW.pt (pw_or (pt_not (pt_val (pe_callB call_isi (by rfl) TX.n_isinstance (by decide +kernel) (pa_cons (pv 12) (pa_cons (pe_bltn (v := .ty "bool") (by rfl) TX.n_bool (by decide +kernel) rfl) pa_nil))))) (pw_or (pt_cmpR op_ne (pv 12) (pe_cmpR op_le (pv 9) (pv 11) (nomark _)) (nomark _)) (pw_or1 (pt_cmpR (op_neD hu64) (pv 10) (pv 8) (nomark _)))))) (pss_one (ps_ret pe_bl)) pss_nil))))))))))))
  (pss_one (ps_ret pe_bl))), ?_⟩
    refine r_begin (show L2.start _ _ = [some _, none, none, none, none, none, none, none, none, none, none, none, none, none, none] from rfl) ?_
    try dsimp only [cxOf]
    walk_at "rr"
    refine ⟨_, _, rfl, .inl ⟨_, hS, rfl⟩, ?_⟩
    walk_at "rr"
    refine ⟨_, _, rfl, ?_⟩
    walk_at "rr"
    refine ⟨_, _, rfl, ?_⟩
    rw [List.length_map]
    refine r_rngv (by split <;> split <;> omega) (by split <;> split <;> omega) ?_
    generalize hm : Int.toNat _ = m
    have hm' : m ≤ 63 := by
      subst hm
      split <;> split <;> omega
    refine L_range (fun j σ H' => ∃ (u1 u2 u3 u4 u5 u6 u7 u8 u9 u10 u11 u12 u13 u14 : Option V), σ = [some (.ref a), u1, u2, u3, u4, u5, u6, u7, u8, u9, u10, u11, u12, u13, u14] ∧ Same H H') ⟨none, none, none, none, none, none, none, none, none, none, none, none, none, none, rfl, Same.refl H⟩ ?_ ?_
    · rintro j σ H1 hj ⟨u1, u2, u3, u4, u5, u6, u7, u8, u9, u10, u11, u12, u13, u14, rfl, s1⟩
      walk_at "rr"
      refine ⟨a, ns, _, rfl, s1.seq hS, by omega, hn, fun c => ?_⟩
      walk_at "rr"
      refine ⟨c, _, rfl, by omega, by omega, fun p H2 hp s2 B2 => ?_⟩
      walk_at "rr"
      refine ⟨p, _, rfl, B2, by omega, fun drawn Hd w0 w1 bd Bd => ?_⟩
      walk_at "rr"
      refine ⟨p, 0, _, rfl, Bd, by omega, fun t r pl tp size raw piles tops H3 et z0 z1 R pr pp pt b3 B3 => ?_⟩
      have s13 : Same H H3 := s1.trans (But.back s2 hp (bd.trans b3))
      have pr3 := PcsAt.same del_sub pr
      have pt3 := IntsAt.same del_sub pt
      have low : Low raw := fun i x e => ⟨(R.pc i x e).1, (R.pc i x e).2.1⟩
      walk_at "rr"
      refine ⟨r, tp, raw, tops, rfl, pr3, pt3, low, R.len, R.top, Nat.le_trans R.tlen (by decide), fun v H4 s4 P4 _ => ?_⟩
      obtain ⟨oo, cl, tm⟩ := order_ok low R.top
      have lo := oo.len
      have lR := R.len
      have lT := R.tlen
      have fit := fun m => isPaper_num low R.top (fun p mp => by obtain ⟨i, hi, e⟩ := List.mem_iff_getElem.mp mp; exact (R.pc i p (by rw [List.getElem?_eq_getElem hi, e])).2.2.1) m
      have upto : ∀ p ∈ paperPcs raw (order raw tops), (p.2.length : Int) ≤ 64 := by
        intro p mp
        obtain ⟨b, mb, rfl⟩ := List.mem_map.mp mp
        have := oo.rng b mb
        have := (R.pc _ _ (pc_at this.1 this.2)).2.2.2
        dsimp only at this ⊢
        omega
      have lP : (paperPcs raw (order raw tops)).length ≤ 400 := by rw [paper_len]; omega
      have lT : (paperTops (order raw tops) tops).length ≤ 100 := by rw [tops_len]; omega
      generalize paperPcs raw (order raw tops) = P at *
      generalize paperTops (order raw tops) tops = T at *
      obtain ⟨t2, pa, pb, rfl, et2, ⟨xs, ea, wa⟩, eb⟩ := id P4
      have lx := paired_len wa
      walk_at "rr"
      refine r_ilw ea ?_
      refine C_list (xs := xs) (fun D i H5 => H4 D = none ∧ H5 D = some (.lst (((P.take i).map fun p => (p.2.length : Int)).map V.int)) ∧ Same H4 H5)
        (fun D hD => ⟨hD, upd_same, same_new hD⟩) ?_ ?_ ?_
      · rintro D i H5 hi ⟨hD, eD, s5⟩
        exact .inl (.inl (s5 _ _ ea))
      · rintro D i x H5 hx ⟨hD, eD, s5⟩
        have hi : i < xs.length := (List.getElem?_eq_some_iff.mp hx).1
        obtain ⟨⟨u, ws⟩, epc, tx, l, rfl, etx, ys, el, wl⟩ := G.paired_get wa hx
        have etx5 := s5 _ _ etx
        walk_at "rr"
        refine r_lenl (s5 _ _ el) ?_
        walk_at "rr"
        refine ⟨_, eD, szl (by simp; omega), hD, ?_, Same.own s5 hD⟩
        rw [upd_same, List.take_add_one, epc, List.map_append, List.map_append, wl.len]
        rfl
      rintro D H5 hD ⟨_, eD, s5⟩
      rw [lx, List.take_length] at eD
      walk_at "rr"
      refine ⟨D, _, 0, rfl, rfl, .inl (.inl eD), fun m hm => ?_⟩
      have m1 : m ≤ 64 := by
        rcases hm with ⟨_, e⟩ | ⟨hm, _⟩
        · omega
        · obtain ⟨p, mp, e⟩ := List.mem_map.mp hm
          have := upto p mp
          omega
      have fit := fun size => fit size m hm
      have P5 := P4.same s5
      walk_at "rr"
      refine ⟨_, P, T, rfl, P5, by omega, by omega, fun v2 H6 s6 P6 => ?_⟩
      walk_at "rr"
      refine ⟨_, _, rfl, ?_⟩
      walk_at "rr"
      refine ⟨_, _, rfl, ?_⟩
      walk_at "rr"
      have q1 : 2 ≤ (if m > 2 then m else 2) ∧ (if m > 2 then m else 2) ≤ 64 := by split <;> omega
      have q2 : 2 ≤ (if m - 1 > 2 then m - 1 else 2) ∧ (if m - 1 > 2 then m - 1 else 2) ≤ 64 := by split <;> omega
      generalize (if m > 2 then m else 2) = o3 at q1 ⊢
      generalize (if m - 1 > 2 then m - 1 else 2) = o4 at q2 ⊢
      refine ⟨by show 5 ≤ sizeLine; decide, fun g hg => ?_⟩
      have s7 := same_new (o := .lst [.int size, .int drawn, .int o3, .int o4, .int 64]) hg
      have eg : (upd H6 g (.lst [.int size, .int drawn, .int o3, .int o4, .int 64])) g = some (.lst ([size, drawn, o3, o4, 64].map V.int)) := upd_same
      have all5 : ∀ x ∈ [size, drawn, o3, o4, 64], 2 ≤ x ∧ x ≤ 64 := by
        intro x mx
        simp at mx
        rcases mx with e | e | e | e | e <;> omega
      generalize [size, drawn, o3, o4, 64] = five at eg all5
      generalize upd H6 g (.lst [.int size, .int drawn, .int o3, .int o4, .int 64]) = H7 at s7 eg ⊢
      have P57 := P5.same (s6.trans s7)
      have P67 := P6.same s7
      refine r_ilw eg ?_
      refine L_list (xs := five.map V.int) (fun i σ H8 => ∃ (x1 x2 x3 x4 x5 x6 x7 y1 y2 y3 y4 : Option V), σ = [some (.ref a), x1, x2, x3, x4, x5, x6, x7, some (.ref t2), some (.int m), some v2, y1, y2, y3, y4] ∧ Same H7 H8)
        ⟨_, _, _, _, _, _, _, _, _, _, _, rfl, Same.refl H7⟩ ?_ ?_ ?_
      · rintro i σ H8 hi ⟨x1, x2, x3, x4, x5, x6, x7, y1, y2, y3, y4, rfl, s8⟩
        exact .inl (.inl (s8 _ _ eg))
      · rintro i x σ H8 hx ⟨x1, x2, x3, x4, x5, x6, x7, y1, y2, y3, y4, rfl, s8⟩
        rw [List.getElem?_map] at hx
        obtain ⟨y, ey, rfl⟩ := Option.map_eq_some_iff.mp hx
        have ry := all5 y (List.mem_of_getElem? ey)
        walk_at "rr"
        refine ⟨y, v2, P, T, rfl, P67.same s8, ry.1, ry.2, by omega, by omega, fun H9 s9 => ?_⟩
        rw [fit y (by omega)]
        walk_at "rr"
        refine r_isi ty_bl (kit_bool _ (by decide)) ?_
        walk_at "rr"
        refine r_itF rfl ?_
        walk_at "rr"
        refine r_itF (by rw [decide_eq_true rfl]; rfl) ?_
        walk_at "rr"
        have s89 := s8.trans s9
        refine r_neSelf (P67.same s89).dp (P57.same s89).dp P6.ok (by decide) ?_
        walk_at "rr"
        refine r_itF rfl ?_
        walk_at "rr"
        exact ⟨_, _, _, _, _, _, _, _, _, _, _, rfl, s89⟩
      · rintro σ H8 ⟨x1, x2, x3, x4, x5, x6, x7, y1, y2, y3, y4, rfl, s8⟩
        walk_at "rr"
        exact ⟨_, _, _, _, _, _, _, _, _, _, _, _, _, _, rfl, s13.trans (s4.trans (s5.trans (s6.trans (s7.trans s8))))⟩
    · rintro σ H1 ⟨u1, u2, u3, u4, u5, u6, u7, u8, u9, u10, u11, u12, u13, u14, rfl, s1⟩
      walk_at "rr"
      exact q _
end
theorem all_mk {l : PySem.W.OpenLaw} {w : World} {K : PySem.W.Frag} {h : Heap} {mg : Str → Option Value} {fa : Addr} {f1 f2 f3 f4 f5 f6 f7 f8 f9 f10 f11 f12 f13 : Addr} (X : K.In h) (G : h.Ns mainGlobals mg) (hfa : mg "law" = some (.ref fa))
    {od1 an1 od2 an2 od3 an3 od4 an4 od5 an5 od6 an6 od7 an7 od8 an8 od9 an9 od10 an10 od11 an11 od12 an12 od13 an13 : Option Addr} {sl1 sl2 sl3 sl4 sl5 sl6 sl7 sl8 sl9 sl10 sl11 sl12 sl13 : Array (Option Value)} {oc1 kV1 dc1 pm1 cd1 ct1 oc2 kV2 dc2 pm2 cd2 ct2 oc3 kV3 dc3 pm3 cd3 ct3 oc4 kV4 dc4 pm4 cd4 ct4 oc5 kV5 dc5 pm5 cd5 ct5 oc6 kV6 dc6 pm6 cd6 ct6 oc7 kV7 dc7 pm7 cd7 ct7 oc8 kV8 dc8 pm8 cd8 ct8 oc9 kV9 dc9 pm9 cd9 ct9 oc10 kV10 dc10 pm10 cd10 ct10 oc11 kV11 dc11 pm11 cd11 ct11 oc12 kV12 dc12 pm12 cd12 ct12 oc13 kV13 dc13 pm13 cd13 ct13 : Value}
    (a1 : PySem.W.nsIn K mainGlobals "sized" = some (some (.ref f1))) (l1 : K.lookup f1 = some ⟨oc1, od1, .func (PySem.W.fnOf "sized" "sized" (defArgs s_sized) (defBody s_sized) (defScope s_sized) .none kV1 dc1 pm1 an1 cd1 ct1), sl1⟩) (c1 : PySem.W.codeIn K cd1 "sized" = true) (k1 : PySem.W.keepIn K (.ref f1) = true)
    (a2 : PySem.W.nsIn K mainGlobals "as_come_to" = some (some (.ref f2))) (l2 : K.lookup f2 = some ⟨oc2, od2, .func (PySem.W.fnOf "as_come_to" "as_come_to" (defArgs s_as_come_to) (defBody s_as_come_to) (defScope s_as_come_to) .none kV2 dc2 pm2 an2 cd2 ct2), sl2⟩) (c2 : PySem.W.codeIn K cd2 "as_come_to" = true) (k2 : PySem.W.keepIn K (.ref f2) = true)
    (a3 : PySem.W.nsIn K mainGlobals "is_paper" = some (some (.ref f3))) (l3 : K.lookup f3 = some ⟨oc3, od3, .func (PySem.W.fnOf "is_paper" "is_paper" (defArgs s_is_paper) (defBody s_is_paper) (defScope s_is_paper) .none kV3 dc3 pm3 an3 cd3 ct3), sl3⟩) (c3 : PySem.W.codeIn K cd3 "is_paper" = true) (k3 : PySem.W.keepIn K (.ref f3) = true)
    (a4 : PySem.W.nsIn K mainGlobals "_law_cell_at" = some (some (.ref f4))) (l4 : K.lookup f4 = some ⟨oc4, od4, .func (PySem.W.fnOf "_law_cell_at" "_law_cell_at" (defArgs s__law_cell_at) (defBody s__law_cell_at) (defScope s__law_cell_at) .none kV4 dc4 pm4 an4 cd4 ct4), sl4⟩) (c4 : PySem.W.codeIn K cd4 "_law_cell_at" = true) (k4 : PySem.W.keepIn K (.ref f4) = true)
    (a5 : PySem.W.nsIn K mainGlobals "_law_bag" = some (some (.ref f5))) (l5 : K.lookup f5 = some ⟨oc5, od5, .func (PySem.W.fnOf "_law_bag" "_law_bag" (defArgs s__law_bag) (defBody s__law_bag) (defScope s__law_bag) .none kV5 dc5 pm5 an5 cd5 ct5), sl5⟩) (c5 : PySem.W.codeIn K cd5 "_law_bag" = true) (k5 : PySem.W.keepIn K (.ref f5) = true)
    (a6 : PySem.W.nsIn K mainGlobals "_law_draw" = some (some (.ref f6))) (l6 : K.lookup f6 = some ⟨oc6, od6, .func (PySem.W.fnOf "_law_draw" "_law_draw" (defArgs s__law_draw) (defBody s__law_draw) (defScope s__law_draw) .none kV6 dc6 pm6 an6 cd6 ct6), sl6⟩) (c6 : PySem.W.codeIn K cd6 "_law_draw" = true) (k6 : PySem.W.keepIn K (.ref f6) = true)
    (a7 : PySem.W.nsIn K mainGlobals "_law_worth" = some (some (.ref f7))) (l7 : K.lookup f7 = some ⟨oc7, od7, .func (PySem.W.fnOf "_law_worth" "_law_worth" (defArgs s__law_worth) (defBody s__law_worth) (defScope s__law_worth) .none kV7 dc7 pm7 an7 cd7 ct7), sl7⟩) (c7 : PySem.W.codeIn K cd7 "_law_worth" = true) (k7 : PySem.W.keepIn K (.ref f7) = true)
    (a8 : PySem.W.nsIn K mainGlobals "_law_size" = some (some (.ref f8))) (l8 : K.lookup f8 = some ⟨oc8, od8, .func (PySem.W.fnOf "_law_size" "_law_size" (defArgs s__law_size) (defBody s__law_size) (defScope s__law_size) .none kV8 dc8 pm8 an8 cd8 ct8), sl8⟩) (c8 : PySem.W.codeIn K cd8 "_law_size" = true) (k8 : PySem.W.keepIn K (.ref f8) = true)
    (a9 : PySem.W.nsIn K mainGlobals "_law_raw" = some (some (.ref f9))) (l9 : K.lookup f9 = some ⟨oc9, od9, .func (PySem.W.fnOf "_law_raw" "_law_raw" (defArgs s__law_raw) (defBody s__law_raw) (defScope s__law_raw) .none kV9 dc9 pm9 an9 cd9 ct9), sl9⟩) (c9 : PySem.W.codeIn K cd9 "_law_raw" = true) (k9 : PySem.W.keepIn K (.ref f9) = true)
    (a10 : PySem.W.nsIn K mainGlobals "_law_numbered" = some (some (.ref f10))) (l10 : K.lookup f10 = some ⟨oc10, od10, .func (PySem.W.fnOf "_law_numbered" "_law_numbered" (defArgs s__law_numbered) (defBody s__law_numbered) (defScope s__law_numbered) .none kV10 dc10 pm10 an10 cd10 ct10), sl10⟩) (c10 : PySem.W.codeIn K cd10 "_law_numbered" = true) (k10 : PySem.W.keepIn K (.ref f10) = true)
    (a11 : PySem.W.nsIn K mainGlobals "_law_copy" = some (some (.ref f11))) (l11 : K.lookup f11 = some ⟨oc11, od11, .func (PySem.W.fnOf "_law_copy" "_law_copy" (defArgs s__law_copy) (defBody s__law_copy) (defScope s__law_copy) .none kV11 dc11 pm11 an11 cd11 ct11), sl11⟩) (c11 : PySem.W.codeIn K cd11 "_law_copy" = true) (k11 : PySem.W.keepIn K (.ref f11) = true)
    (a12 : PySem.W.nsIn K mainGlobals "_law_case" = some (some (.ref f12))) (l12 : K.lookup f12 = some ⟨oc12, od12, .func (PySem.W.fnOf "_law_case" "_law_case" (defArgs s__law_case) (defBody s__law_case) (defScope s__law_case) .none kV12 dc12 pm12 an12 cd12 ct12), sl12⟩) (c12 : PySem.W.codeIn K cd12 "_law_case" = true) (k12 : PySem.W.keepIn K (.ref f12) = true)
    (a13 : PySem.W.nsIn K mainGlobals "law" = some (some (.ref f13))) (l13 : K.lookup f13 = some ⟨oc13, od13, .func (PySem.W.fnOf "law" "law" (defArgs s_law) (defBody s_law) (defScope s_law) .none kV13 dc13 pm13 an13 cd13 ct13), sl13⟩) (c13 : PySem.W.codeIn K cd13 "law" = true) (k13 : PySem.W.keepIn K (.ref f13) = true)
    (z0 : PySem.W.nsIn K mainGlobals "len" = some none) (z1 : PySem.W.nsIn K mainGlobals "isinstance" = some none) (z2 : PySem.W.nsIn K mainGlobals "range" = some none) (z3 : PySem.W.nsIn K mainGlobals "max" = some none) (z4 : PySem.W.nsIn K mainGlobals "min" = some none) (z5 : PySem.W.nsIn K mainGlobals "int" = some none) (z6 : PySem.W.nsIn K mainGlobals "bool" = some none) (z7 : PySem.W.nsIn K mainGlobals "str" = some none) (z8 : PySem.W.nsIn K mainGlobals "list" = some none) (z9 : PySem.W.nsIn K mainGlobals "tuple" = some none) (z10 : PySem.W.nsIn K mainGlobals "dict" = some none) (z11 : PySem.W.nsIn K mainGlobals "sorted" = some none) (z12 : PySem.W.nsIn K mainGlobals "sum" = some none) (z13 : PySem.W.nsIn K mainGlobals "all" = some none) (z14 : PySem.W.nsIn K mainGlobals "any" = some none) (z15 : PySem.W.nsIn K mainGlobals "enumerate" = some none) (z16 : PySem.W.nsIn K mainGlobals "zip" = some none) (z17 : PySem.W.nsIn K mainGlobals "reversed" = some none)
    {tLe tGr : Tok} (aLe : PySem.W.nsIn K mainGlobals "LEAST" = some (some (.int 2 tLe))) (aGr : PySem.W.nsIn K mainGlobals "GREATEST" = some (some (.int 64 tGr)))
    : ∃ fd : FuncData, (∀ (s : Shared) (v : Value), BindsTo s fd ⟨[v], []⟩ [("script", v)]) ∧ ∀ base : Heap, K.In base → base.Ns mainGlobals mg → FnOk l.prog w K mg base CX0 5 fa fd ["script"] (sp_law K) := by
  have e := hfa.symm.trans (PySem.W.mg_of X G a13)
  cases e
  have F1 := fun_mk (st := s_sized) l1 c1 k1
  have b1 := F1.binds (ps := ["size"]) fun _ _ _ _ _ _ us hl => match us, hl with | [_], _ => rfl
  have F2 := fun_mk (st := s_as_come_to) l2 c2 k2
  have b2 := F2.binds (ps := ["pieces", "tops"]) fun _ _ _ _ _ _ us hl => match us, hl with | [_, _], _ => rfl
  have F3 := fun_mk (st := s_is_paper) l3 c3 k3
  have b3 := F3.binds (ps := ["size", "paper"]) fun _ _ _ _ _ _ us hl => match us, hl with | [_, _], _ => rfl
  have F4 := fun_mk (st := s__law_cell_at) l4 c4 k4
  have b4 := F4.binds (ps := ["script", "k"]) fun _ _ _ _ _ _ us hl => match us, hl with | [_, _], _ => rfl
  have F5 := fun_mk (st := s__law_bag) l5 c5 k5
  have b5 := F5.binds (ps := ["cell", "place"]) fun _ _ _ _ _ _ us hl => match us, hl with | [_, _], _ => rfl
  have F6 := fun_mk (st := s__law_draw) l6 c6 k6
  have b6 := F6.binds (ps := ["bag", "many"]) fun _ _ _ _ _ _ us hl => match us, hl with | [_, _], _ => rfl
  have F7 := fun_mk (st := s__law_worth) l7 c7 k7
  have b7 := F7.binds (ps := ["bag", "few"]) fun _ _ _ _ _ _ us hl => match us, hl with | [_, _], _ => rfl
  have F8 := fun_mk (st := s__law_size) l8 c8 k8
  have b8 := F8.binds (ps := ["bag"]) fun _ _ _ _ _ _ us hl => match us, hl with | [_], _ => rfl
  have F9 := fun_mk (st := s__law_raw) l9 c9 k9
  have b9 := F9.binds (ps := ["bag", "size", "most", "unlike"]) fun _ _ _ _ _ _ us hl => match us, hl with | [_, _, _, _], _ => rfl
  have F10 := fun_mk (st := s__law_numbered) l10 c10 k10
  have b10 := F10.binds (ps := ["raw", "tops"]) fun _ _ _ _ _ _ us hl => match us, hl with | [_, _], _ => rfl
  have F11 := fun_mk (st := s__law_copy) l11 c11 k11
  have b11 := F11.binds (ps := ["paper"]) fun _ _ _ _ _ _ us hl => match us, hl with | [_], _ => rfl
  have F12 := fun_mk (st := s__law_case) l12 c12 k12
  have b12 := F12.binds (ps := ["bag", "unlike"]) fun _ _ _ _ _ _ us hl => match us, hl with | [_, _], _ => rfl
  have F13 := fun_mk (st := s_law) l13 c13 k13
  have TX : Tx mg := ⟨PySem.W.mg_none_of X G z0, PySem.W.mg_none_of X G z1, PySem.W.mg_none_of X G z2, PySem.W.mg_none_of X G z3, PySem.W.mg_none_of X G z4, PySem.W.mg_none_of X G z5, PySem.W.mg_none_of X G z6, PySem.W.mg_none_of X G z7, PySem.W.mg_none_of X G z8, PySem.W.mg_none_of X G z9, PySem.W.mg_none_of X G z10, PySem.W.mg_none_of X G z11, PySem.W.mg_none_of X G z12, PySem.W.mg_none_of X G z13, PySem.W.mg_none_of X G z14, PySem.W.mg_none_of X G z15, PySem.W.mg_none_of X G z16, PySem.W.mg_none_of X G z17⟩
  have g_LEAST : mg "LEAST" = some (.int 2 tLe) := PySem.W.mg_of X G aLe
  have g_GREATEST : mg "GREATEST" = some (.int 64 tGr) := PySem.W.mg_of X G aGr
  refine ⟨PySem.W.fnOf "law" "law" (defArgs s_law) (defBody s_law) (defScope s_law) .none kV13 dc13 pm13 an13 cd13 ct13, fun s v => .of_eq rfl, fun base _ _ => ?_⟩
  have C_sized := Cal.of (ok_sized (P := l.prog) (w := w) (K := K) (mg := mg) (base := base) F1 TX g_LEAST g_GREATEST) b1 k1 (PySem.W.mg_of X G a1)
  have C_as_come_to := Cal.of (ok_as_come_to (P := l.prog) (w := w) (K := K) (mg := mg) (base := base) F2 TX) b2 k2 (PySem.W.mg_of X G a2)
  have C_is_paper := Cal.of (ok_is_paper (P := l.prog) (w := w) (K := K) (mg := mg) (base := base) F3 TX C_as_come_to C_sized) b3 k3 (PySem.W.mg_of X G a3)
  have C__law_cell_at := Cal.of (ok__law_cell_at (P := l.prog) (w := w) (K := K) (mg := mg) (base := base) F4 TX) b4 k4 (PySem.W.mg_of X G a4)
  have C__law_bag := Cal.of (ok__law_bag (P := l.prog) (w := w) (K := K) (mg := mg) (base := base) F5 TX) b5 k5 (PySem.W.mg_of X G a5)
  have C__law_draw := Cal.of (ok__law_draw (P := l.prog) (w := w) (K := K) (mg := mg) (base := base) F6 TX) b6 k6 (PySem.W.mg_of X G a6)
  have C__law_worth := Cal.of (ok__law_worth (P := l.prog) (w := w) (K := K) (mg := mg) (base := base) F7 TX C__law_draw) b7 k7 (PySem.W.mg_of X G a7)
  have C__law_size := Cal.of (ok__law_size (P := l.prog) (w := w) (K := K) (mg := mg) (base := base) F8 TX C__law_draw) b8 k8 (PySem.W.mg_of X G a8)
  have C__law_raw := Cal.of (ok__law_raw (P := l.prog) (w := w) (K := K) (mg := mg) (base := base) F9 TX C__law_draw C__law_worth) b9 k9 (PySem.W.mg_of X G a9)
  have C__law_numbered := Cal.of (ok__law_numbered (P := l.prog) (w := w) (K := K) (mg := mg) (base := base) F10 TX) b10 k10 (PySem.W.mg_of X G a10)
  have C__law_copy := Cal.of (ok__law_copy (P := l.prog) (w := w) (K := K) (mg := mg) (base := base) F11 TX) b11 k11 (PySem.W.mg_of X G a11)
  have C__law_case := Cal.of (ok__law_case (P := l.prog) (w := w) (K := K) (mg := mg) (base := base) F12 TX C__law_draw C__law_raw C__law_size) b12 k12 (PySem.W.mg_of X G a12)
  exact ok_law F13 TX C__law_bag C__law_case C__law_cell_at C__law_copy C__law_numbered C__law_size C_is_paper
end Q
open PySem PySem.W PyProof.Rows
set_option maxHeartbeats 0 in
theorem PySem.Challenge.cw_manygoings_k07_right_papers_holds : PySem.Challenge.rw_manygoings_k07_right_papers.Holds := by
  w_on; o_law; k_head; (case hw => w_witness2)
  k_fill
  refine L2.walk_ofB (l := PySem.Challenge.rw_manygoings_k07_right_papers) (n := 63) (k := 5) (x := "script") (CX := fun _ => L2.CX0) (sp := fun w => Q.sp_law _) rfl (by decide) rfl ⟨rfl, by decide, by decide⟩ (fun w h Y => PySem.W.kIn_of Y) ?F (fun _ _ a ns hl hb _ hS => ⟨a, ns, rfl, hS, hl, hb, fun _ => rfl⟩) (fun _ _ _ _ _ h => h)
  case F =>
    intro w mg fa h KX G hmg
    refine' Q.all_mk KX G hmg ?a1 ?l1 ?c1 ?k1 ?a2 ?l2 ?c2 ?k2 ?a3 ?l3 ?c3 ?k3 ?a4 ?l4 ?c4 ?k4 ?a5 ?l5 ?c5 ?k5 ?a6 ?l6 ?c6 ?k6 ?a7 ?l7 ?c7 ?k7 ?a8 ?l8 ?c8 ?k8 ?a9 ?l9 ?c9 ?k9 ?a10 ?l10 ?c10 ?k10 ?a11 ?l11 ?c11 ?k11 ?a12 ?l12 ?c12 ?k12 ?a13 ?l13 ?c13 ?k13 ?z0 ?z1 ?z2 ?z3 ?z4 ?z5 ?z6 ?z7 ?z8 ?z9 ?z10 ?z11 ?z12 ?z13 ?z14 ?z15 ?z16 ?z17 ?aLe ?aGr
    (case a1 => k_is)
    (case l1 => k_is)
    (case c1 => k_is)
    (case k1 => k_is)
    (case a2 => k_is)
    (case l2 => k_is)
    (case c2 => k_is)
    (case k2 => k_is)
    (case a3 => k_is)
    (case l3 => k_is)
    (case c3 => k_is)
    (case k3 => k_is)
    (case a4 => k_is)
    (case l4 => k_is)
    (case c4 => k_is)
    (case k4 => k_is)
    (case a5 => k_is)
    (case l5 => k_is)
    (case c5 => k_is)
    (case k5 => k_is)
    (case a6 => k_is)
    (case l6 => k_is)
    (case c6 => k_is)
    (case k6 => k_is)
    (case a7 => k_is)
    (case l7 => k_is)
    (case c7 => k_is)
    (case k7 => k_is)
    (case a8 => k_is)
    (case l8 => k_is)
    (case c8 => k_is)
    (case k8 => k_is)
    (case a9 => k_is)
    (case l9 => k_is)
    (case c9 => k_is)
    (case k9 => k_is)
    (case a10 => k_is)
    (case l10 => k_is)
    (case c10 => k_is)
    (case k10 => k_is)
    (case a11 => k_is)
    (case l11 => k_is)
    (case c11 => k_is)
    (case k11 => k_is)
    (case a12 => k_is)
    (case l12 => k_is)
    (case c12 => k_is)
    (case k12 => k_is)
    (case a13 => k_is)
    (case l13 => k_is)
    (case c13 => k_is)
    (case k13 => k_is)
    (case z0 => k_is)
    (case z1 => k_is)
    (case z2 => k_is)
    (case z3 => k_is)
    (case z4 => k_is)
    (case z5 => k_is)
    (case z6 => k_is)
    (case z7 => k_is)
    (case z8 => k_is)
    (case z9 => k_is)
    (case z10 => k_is)
    (case z11 => k_is)
    (case z12 => k_is)
    (case z13 => k_is)
    (case z14 => k_is)
    (case z15 => k_is)
    (case z16 => k_is)
    (case z17 => k_is)
    (case aLe => k_is)
    (case aGr => k_is)
