import PyProof.Rows.All
import Wide.All
import OpenK.AllK
import Wide.FinOn
import HandS.ForMost
import HandS.Wide
import HandS.IsInst
import HandS.EndBits
import HandS.Deep
import HandS.More
import HandS.Conv
import HandS.TupLen
import HandS.Style
import HandS.Walk
import HandS.SortKw
import HandS.RaiseMore
import PySem.Challenge.RW_manygoings_k56_programs_written_and_read
set_option Elab.async false
set_option linter.all false
set_option maxRecDepth 100000
set_option maxHeartbeats 4000000
namespace G
open PySem L2
/-! ### one's own defs, called by name -/
section
variable (P : Program) (w : World) (K : PySem.W.Frag) (mg : Str → Option Value) (base : Heap)
/-- the def that the module's name x holds keeps the promise sp -/
structure Cal (CX : CXT) (k : Nat) (x : Str) (ps : List Str) (sp : Sp) : Prop where
  ex : ∃ (f : Addr) (fd : FuncData), FnOk P w K mg base CX k f fd ps sp ∧ Binds K fd ps [] ∧ PySem.W.keepIn K (.ref f) = true ∧ mg x = some (.ref f)
end
section
variable {X : Cx} {e : Expr} {es : List Expr} {pos p : Pos} {t : TA} {CX : CXT} {k j : Nat} {x : Str} {ps : List Str} {sp : Sp} {E : XK}
def tCal (sp : Sp) (E : XK) (t : TA) : TE := fun σ H Q => t σ H fun vs H1 => sp vs H1 Q E
theorem pe_cal (C : Cal X.prog X.w X.K X.mg X.base CX j x ps sp) (hr : Room j X.A) (hg : Gl X x) (hx : Passes CX X E) (ha : PA X (e :: es) t)
    (hdb : (x == ("__debug__" : Str)) = false := by decide) (he : starEach (e :: es) X.env = (false, eval e X.env) :: starEach es X.env := by rfl) (hpl : (backTo pos (starEach es X.env)).any (·.1) = false := by rfl) :
    PE X (.Call (.Name x p) (e :: es) [] pos) (tCal sp E t) := by
  obtain ⟨f, fd, F, b, kp, hm⟩ := C.ex
  have q := pe_call (p := p) (pos := pos) F hr hg hm kp b .nil hx ha hdb he hpl
  have z : tCall sp [] E t = tCal sp E t := by
    funext σ H Q
    unfold tCall tCal
    simp only [List.append_nil]
  rw [z] at q
  exact q
theorem pe_cal0 (C : Cal X.prog X.w X.K X.mg X.base CX j x ps sp) (hr : Room j X.A) (hg : Gl X x) (hx : Passes CX X E)
    (hdb : (x == ("__debug__" : Str)) = false := by decide) : PE X (.Call (.Name x p) [] [] pos) (tCal sp E tNil) := by
  obtain ⟨f, fd, F, b, kp, hm⟩ := C.ex
  have q := pe_call0 (p := p) (pos := pos) F hr hg hm kp b .nil hx hdb
  have z : tCall sp [] E tNil = tCal sp E tNil := by
    funext σ H Q
    unfold tCall tCal
    simp only [List.append_nil]
  rw [z] at q
  exact q
theorem Cal.of {P : Program} {w : World} {K : PySem.W.Frag} {mg : Str → Option Value} {base : Heap} {f : Addr} {fd : FuncData} (F : FnOk P w K mg base CX j f fd ps sp) (b : Binds K fd ps []) (kp : PySem.W.keepIn K (.ref f) = true) (hm : mg x = some (.ref f)) :
    Cal P w K mg base CX j x ps sp := ⟨f, fd, F, b, kp, hm⟩
end
/-! ### a rule's reading told with another K that is the same -/
section
variable {X : Cx} {e : Expr} {tg : Expr}
theorem kPE {t : TE} (t' : TE) (h : PE X e t) (q : t = t') : PE X e t' := q ▸ h
theorem kPI {t : TI} (t' : TI) (h : PI X tg e t) (q : t = t') : PI X tg e t' := q ▸ h
theorem kPG {t : TG} (t' : TG) (h : PG X e t) (q : t = t') : PG X e t' := q ▸ h
theorem kPT {t : TT} (t' : TT) (h : PT X e t) (q : t = t') : PT X e t' := q ▸ h
theorem kIxR {r : V → V → Hp → VK → Prop} (r' : V → V → Hp → VK → Prop) (h : IxR X r) (q : r = r') : IxR X r' := q ▸ h
theorem kSlR {r : V → Option Int → Option Int → Hp → VK → Prop} (r' : V → Option Int → Option Int → Hp → VK → Prop) (h : SlR X r) (q : r = r') : SlR X r' := q ▸ h
theorem kOpR {o : Value → Value → Sem Value} {r : R2} (r' : R2) (h : OpR X o r) (q : r = r') : OpR X o r' := q ▸ h
theorem kCallR {f : Value} {r : List V → Hp → VK → Prop} (r' : List V → Hp → VK → Prop) (h : CallR X f r) (q : r = r') : CallR X f r' := q ▸ h
end
abbrev rLenK (K : PySem.W.Frag) : List V → Hp → VK → Prop := fun xs H Q => ∃ x n, xs = [x] ∧ LenV K x H n ∧ Q (.int ↑n) H
abbrev rListOf (K : PySem.W.Frag) : List V → Hp → VK → Prop := fun xs H Q => ∃ p ys, xs = [V.ref p] ∧ (SqL K H p ys ∨ SqT K H p ys) ∧ ∀ (l : Addr), H l = none → Q (V.ref l) (upd H l (HO.lst ys))
abbrev rTupOf (K : PySem.W.Frag) : List V → Hp → VK → Prop := fun xs H Q => ∃ p ys, xs = [V.ref p] ∧ ((SqL K H p ys ∧ ∀ (l : Addr), H l = none → Q (V.ref l) (upd H l (HO.tup ys))) ∨ SqT K H p ys ∧ Q (V.ref p) H)
abbrev rJoin (K : PySem.W.Frag) : V → List V → Hp → VK → Prop := fun x xs H Q => ∃ a p, ∃ ys : List Str, x = .str a ∧ xs = [.ref p] ∧ (SqL K H p (ys.map V.str) ∨ SqT K H p (ys.map V.str)) ∧ (ys.map (·.length)).sum + ys.length * a.length ≤ 16777216 ∧ Q (.str (Txt.join a ys)) H
abbrev tTru (K : PySem.W.Frag) (ta : TE) : TT := fun σ H Q => ta σ H fun x H' => ∃ k, TruV K x H' k ∧ Q k H'
/-- the built-in names that no module's name hides -/
structure Tx (mg : Str → Option Value) : Prop where
  n_len : mg "len" = none
  n_isinstance : mg "isinstance" = none
  range : mg "range" = none
  n_max : mg "max" = none
  n_min : mg "min" = none
  n_int : mg "int" = none
  n_bool : mg "bool" = none
  n_str : mg "str" = none
  n_list : mg "list" = none
  n_tuple : mg "tuple" = none
  n_dict : mg "dict" = none
  n_sorted : mg "sorted" = none
  n_sum : mg "sum" = none
  n_all : mg "all" = none
  n_any : mg "any" = none
  enumerate : mg "enumerate" = none
  zip : mg "zip" = none
  reversed : mg "reversed" = none

/-! ### readings, one step at a time -/
section
variable {σ : L2.St} {H : Hp} {Q : VK} {nx : L2.St → Hp → Prop} {rt : VK} {bk ct : L2.St → Hp → Prop} {t u : TS} {te ta tb tv : TE} {tt tc : TT} {tl : TA} {g : TG} {v x y : V} {i : Nat} {K : PySem.W.Frag}
theorem r_seq (h : t ⟨u ⟨nx, rt, bk, ct⟩, rt, bk, ct⟩ σ H) : tSeq t u ⟨nx, rt, bk, ct⟩ σ H := h
theorem r_asg (h : te σ H fun x H1 => g x σ H1 nx) : tAsg te g ⟨nx, rt, bk, ct⟩ σ H := h
theorem r_name {Q : L2.St → Hp → Prop} {σ' : L2.St} (e : σ.set i (some v) = σ') (h : Q σ' H) : gName i v σ H Q := by
  subst e
  exact h
theorem r_begin {D : Ends} {σ' : L2.St} (e : σ = σ') (h : t D σ' H) : t D σ H := by
  subst e
  exact h
theorem r_ret (h : te σ H rt) : tRet te ⟨nx, rt, bk, ct⟩ σ H := h
theorem r_retN (h : rt .non H) : tRetN ⟨nx, rt, bk, ct⟩ σ H := h
theorem r_next (h : nx σ H) : tNext ⟨nx, rt, bk, ct⟩ σ H := h
theorem r_brk (h : bk σ H) : tBreak ⟨nx, rt, bk, ct⟩ σ H := h
theorem r_cont (h : ct σ H) : tCont ⟨nx, rt, bk, ct⟩ σ H := h
theorem r_drop (h : te σ H fun _ H1 => nx σ H1) : tDrop te ⟨nx, rt, bk, ct⟩ σ H := h
theorem r_if (h : tc σ H fun b H1 => if b = true then t ⟨nx, rt, bk, ct⟩ σ H1 else u ⟨nx, rt, bk, ct⟩ σ H1) : tIfS tc t u ⟨nx, rt, bk, ct⟩ σ H := h
theorem r_var (e : σ[i]? = some (some v)) (h : Q v H) : tVar i σ H Q := ⟨v, e, h⟩
theorem r_c (h : Q v H) : tC v σ H Q := h
theorem r_op {r : R2} (h : ta σ H fun x H1 => tb σ H1 fun y H2 => r x y H2 Q) : tOp r ta tb σ H Q := h
theorem r_un {r : V → Hp → VK → Prop} (h : ta σ H fun x H1 => r x H1 Q) : tUn r ta σ H Q := h
theorem r_i0 {f : Int → Int → V} {a b : Int} (h : Q (f a b) H) : rI0 f (.int a) (.int b) H Q := ⟨a, b, rfl, rfl, h⟩
theorem r_i {C : Int → Int → Prop} {f : Int → Int → V} {a b : Int} (c : C a b) (h : Q (f a b) H) : rI C f (.int a) (.int b) H Q := ⟨a, b, rfl, rfl, c, h⟩
theorem r_u {f : Int → V} {a : Int} (h : Q (f a) H) : rU f (.int a) H Q := ⟨a, rfl, h⟩
theorem r_eq (s : scal x y = true) (h : Q (.bl (decide (x = y))) H) : rEq x y H Q := ⟨s, h⟩
theorem r_ne (s : scal x y = true) (h : Q (.bl (!decide (x = y))) H) : rNe x y H Q := ⟨s, h⟩
theorem r_test {Q : Bool → Hp → Prop} (h : te σ H fun x H' => ∃ k, x = .bl k ∧ Q k H') : tTest te σ H Q := h
theorem r_tB {Q : Bool → Hp → Prop} (h : te σ H fun x H' => ∃ k, x = .bl k ∧ Q k H') : tB te σ H Q := h
theorem r_bl {Q : Bool → Prop} {b : Bool} (h : Q b) : ∃ k, V.bl b = .bl k ∧ Q k := ⟨b, rfl, h⟩
theorem r_and {Q : Bool → Hp → Prop} (h : tt σ H fun c H1 => if c = true then tc σ H1 Q else Q false H1) : tAnd tt tc σ H Q := h
theorem r_or {Q : Bool → Hp → Prop} (h : tt σ H fun c H1 => if c = true then Q true H1 else tc σ H1 Q) : tOr tt tc σ H Q := h
theorem r_not {Q : Bool → Hp → Prop} (h : tt σ H fun c H1 => Q (!c) H1) : tNot tt σ H Q := h
theorem r_andV (h : ta σ H fun x H1 => ∃ c, x = .bl c ∧ if c = true then tb σ H1 Q else Q (.bl false) H1) : tAndV ta tb σ H Q := h
theorem r_orV (h : ta σ H fun x H1 => ∃ c, x = .bl c ∧ if c = true then Q (.bl true) H1 else tb σ H1 Q) : tOrV ta tb σ H Q := h
theorem r_notV (h : ta σ H fun x H1 => ∃ c, x = .bl c ∧ Q (.bl (!c)) H1) : tNotV ta σ H Q := h
theorem r_ifE (h : tt σ H fun c H1 => if c = true then ta σ H1 Q else tb σ H1 Q) : tIf tt ta tb σ H Q := h
theorem r_cb {r : List V → Hp → VK → Prop} (h : tl σ H fun vs H1 => r vs H1 Q) : tCB r tl σ H Q := h
theorem r_chain {r r' : R2} {tc : TE} (h : ta σ H fun x H1 => tb σ H1 fun y H2 => r x y H2 fun z H3 => ∃ k, z = .bl k ∧ (if k = true then tc σ H3 fun w' H4 => r' y w' H4 Q else Q (.bl false) H3)) : tChain r r' ta tb tc σ H Q := h
theorem r_cbk {r : List V → List V → Hp → VK → Prop} {tk : TA} (h : tl σ H fun vs H1 => tk σ H1 fun zs H2 => r vs zs H2 Q) : tCKw r tl tk σ H Q := h
theorem r_cal {sp : Sp} {E : XK} (h : tl σ H fun vs H1 => sp vs H1 Q E) : tCal sp E tl σ H Q := h
theorem r_nil {Q : List V → Hp → Prop} (h : Q [] H) : tNil σ H Q := h
theorem r_cons {Q : List V → Hp → Prop} (h : te σ H fun x H1 => tl σ H1 fun xs H2 => Q (x :: xs) H2) : tCons te tl σ H Q := h
theorem r_tup (h : tl σ H fun xs H1 => xs.length ≤ sizeLine ∧ ∀ p, H1 p = none → Q (.ref p) (upd H1 p (.tup xs))) : tTup tl σ H Q := h
theorem r_lst (h : tl σ H fun xs H1 => xs.length ≤ sizeLine ∧ ∀ p, H1 p = none → Q (.ref p) (upd H1 p (.lst xs))) : tLst tl σ H Q := h
theorem r_ixL {p : Addr} {xs : List V} {i : Int} (hs : SqL K H p xs) (e : atI xs i = some v) (h : Q v H) : rIxL K (.ref p) (.int i) H Q := ⟨p, xs, i, v, rfl, rfl, hs, e, h⟩
theorem r_ixT {p : Addr} {xs : List V} {i : Int} (hs : SqT K H p xs) (e : atI xs i = some v) (h : Q v H) : rIxT K (.ref p) (.int i) H Q := ⟨p, xs, i, v, rfl, rfl, hs, e, h⟩
theorem r_ixl {p : Addr} {xs : List V} {i : Int} (hs : H p = some (.lst xs)) (e : atI xs i = some v) (h : Q v H) : rIxL K (.ref p) (.int i) H Q := ⟨p, xs, i, v, rfl, rfl, .inl (.inl hs), e, h⟩
theorem r_ixt {p : Addr} {xs : List V} {i : Int} (hs : H p = some (.tup xs)) (e : atI xs i = some v) (h : Q v H) : rIxT K (.ref p) (.int i) H Q := ⟨p, xs, i, v, rfl, rfl, .inl (.inl hs), e, h⟩
theorem r_ixS {z : Str} {i : Int} {c : Nat} (hz : z.length ≤ sizeLine) (e : atI z.cps.toList i = some c) (h : Q (.str ⟨#[c]⟩) H) : rIxS (.str z) (.int i) H Q := ⟨z, i, c, rfl, rfl, hz, e, h⟩
theorem r_ix {r : V → V → Hp → VK → Prop} (h : r x y H Q) : (fun x y H Q => r x y H Q) x y H Q := h
theorem r_sub {o j : TE} {ts : TSet} {Q : L2.St → Hp → Prop} (h : o σ H fun a H1 => j σ H1 fun b H2 => ts a b v H2 fun H3 => Q σ H3) : gSub o j ts v σ H Q := h
theorem r_setL {p : Addr} {xs ys : List V} {k : Int} {j : Nat} {Q : Hp → Prop} (hs : H p = some (.lst xs)) (e : ixN xs.length k = some j) (e2 : xs.set j v = ys) (h : Q (upd H p (.lst ys))) : rSetL (.ref p) (.int k) v H Q := by
  subst e2
  exact ⟨p, xs, k, j, rfl, rfl, hs, e, h⟩
theorem r_gtup {p : Addr} {xs : List V} {n : Nat} {ts : TGs} {Q : L2.St → Hp → Prop} (hs : H p = some (.tup xs)) (hn : xs.length = n) (h : ts xs σ H Q) : gTup K n ts (.ref p) σ H Q := ⟨p, xs, rfl, .inl (.inl hs), hn, h⟩
theorem r_gcons {ts : TGs} {vs : List V} {Q : L2.St → Hp → Prop} (h : g v σ H fun σ' H' => ts vs σ' H' Q) : gCons g ts (v :: vs) σ H Q := ⟨v, vs, rfl, h⟩
theorem r_gnil {Q : L2.St → Hp → Prop} (h : Q σ H) : gNil [] σ H Q := ⟨rfl, h⟩
theorem r_bm {T : String} {r : V → List V → Hp → VK → Prop} (h : ta σ H fun x H1 => tyV K T x H1 ∧ tl σ H1 fun xs H2 => r x xs H2 Q) : tBM K T r ta tl σ H Q := h
theorem r_bm0 {T : String} {r : V → List V → Hp → VK → Prop} (h : ta σ H fun x H1 => tyV K T x H1 ∧ r x [] H1 Q) : tBM0 K T r ta σ H Q := h
theorem r_tyL {p : Addr} {xs : List V} {R : Prop} (hs : H p = some (.lst xs)) (h : R) : tyV K "list" (.ref p) H ∧ R := ⟨.inl ⟨rfl, _, .inl (.inl hs)⟩, h⟩
theorem r_app {p : Addr} {xs : List V} (hs : H p = some (.lst xs)) (hz : xs.length < sizeLine) (h : Q .non (upd H p (.lst (xs ++ [v])))) : rAppend (.ref p) [v] H Q := ⟨p, xs, v, rfl, rfl, hs, hz, h⟩
theorem r_rev {p : Addr} {xs : List V} (hs : H p = some (.lst xs)) (h : Q .non (upd H p (.lst xs.reverse))) : rReverse (.ref p) [] H Q := ⟨p, xs, rfl, rfl, hs, h⟩
theorem r_cat {p q : Addr} {xs ys : List V} (h1 : H p = some (.lst xs)) (h2 : H q = some (.lst ys)) (hz : xs.length + ys.length ≤ sizeLine) (h : ∀ c, H c = none → Q (.ref c) (upd H c (.lst (xs ++ ys)))) : rCat (.ref p) (.ref q) H Q := ⟨p, q, xs, ys, rfl, rfl, h1, h2, hz, h⟩
theorem r_revL (h : te σ H fun x H1 => ∃ a xs, x = .ref a ∧ SqL K H1 a xs ∧ ∀ p, H1 p = none → Q (.ref p) (upd H1 p (.lst xs.reverse))) : tRevL K te σ H Q := h
theorem r_ext {p q : Addr} {xs ys : List V} (h1 : H p = some (.lst xs)) (h2 : H q = some (.lst ys)) (hz : xs.length + ys.length ≤ sizeLine) (h : Q .non (upd H p (.lst (xs ++ ys)))) : rExtend (.ref p) [.ref q] H Q := ⟨p, q, xs, ys, rfl, rfl, h1, h2, hz, h⟩
theorem r_dget {td ty : TE} (h : td σ H fun x H1 => ty σ H1 fun y H2 => ∃ a v, x = .ref a ∧ DGet H2 a y (some v) ∧ Q v H2) : tDGet td ty σ H Q := h
theorem r_din {td ty : TE} (h : ty σ H fun y H1 => td σ H1 fun x H2 => ∃ a o, x = .ref a ∧ DGet H2 a y o ∧ Q (.bl o.isSome) H2) : tDIn ty td σ H Q := h
theorem r_dnin {td ty : TE} (h : ty σ H fun y H1 => td σ H1 fun x H2 => ∃ a o, x = .ref a ∧ DGet H2 a y o ∧ Q (.bl (!o.isSome)) H2) : tDNotIn ty td σ H Q := h
theorem r_slc {r : V → Option Int → Option Int → Hp → VK → Prop} {to th : TO} (h : te σ H fun x H1 => to σ H1 fun l H2 => th σ H2 fun u H3 => r x l u H3 Q) : tSl r te to th σ H Q := h
theorem r_nop {Q : Option Int → Hp → Prop} (h : Q none H) : tNoPart σ H Q := h
theorem r_part {Q : Option Int → Hp → Prop} (h : te σ H fun x H1 => ∃ i, x = .int i ∧ Q (some i) H1) : tPart te σ H Q := h
theorem r_int {Q : Int → Prop} {a : Int} (h : Q a) : ∃ k, V.int a = .int k ∧ Q k := ⟨a, rfl, h⟩
theorem r_isi {T C : String} {b : Bool} (h : TyX K H x (.type T)) (e : kitB T C = some b) (q : Q (.bl b) H) : rIsi K [x, .ty C] H Q := ⟨x, .ty C, _, _, b, rfl, .ty C, h, kit_ty e, q⟩
theorem r_disp {trs : List (TE × TE)} (h : ∀ p, H p = none → tPairs trs σ (upd H p (.dK [])) fun ps H2 => H2 p = some (.dK []) ∧ ∃ kvs : List (Key × V), ps = kvs.map (fun kv => (kV kv.1, kv.2)) ∧ kvs.length ≤ 15 ∧ Q (.ref p) (upd H2 p (.dK (mergeK [] kvs)))) : tDisp trs σ H Q := h
theorem r_pcons {r : List (TE × TE)} {Q : List (V × V) → Hp → Prop} (h : ta σ H fun x H1 => tb σ H1 fun y H2 => tPairs r σ H2 fun ps H3 => Q ((x, y) :: ps) H3) : tPairs ((ta, tb) :: r) σ H Q := h
theorem r_pnil {Q : List (V × V) → Hp → Prop} (h : Q [] H) : tPairs [] σ H Q := h
theorem r_slS {z : Str} {lo hi : Option Int} (hz : z.length ≤ sizeLine) (q : Q (.str (cutS z lo hi)) H) : rSlS (.str z) lo hi H Q := ⟨z, rfl, hz, q⟩
theorem r_dput {td ty : TE} {tz : TE} (h : tz σ H fun v H1 => td σ H1 fun x H2 => ty σ H2 fun y H3 => ∃ a H4, x = .ref a ∧ DPut H3 a y v H4 ∧ nx σ H4) : sDPut td ty tz ⟨nx, rt, bk, ct⟩ σ H := h
theorem r_dki {R : Option V → Prop} {a : Addr} {kvs : List (Key × V)} {k : Int} (e : H a = some (.dK kvs)) (h : R (valV kvs (.inl k))) : ∃ b o, V.ref a = .ref b ∧ DGet H b (.int k) o ∧ R o := ⟨a, _, rfl, DGet.k (k := .inl k) e, h⟩
theorem r_gki {R : V → Prop} {a : Addr} {kvs : List (Key × V)} {k : Int} {v : V} (e : H a = some (.dK kvs)) (e2 : valV kvs (.inl k) = some v) (h : R v) : ∃ b v, V.ref a = .ref b ∧ DGet H b (.int k) (some v) ∧ R v := ⟨a, v, rfl, e2 ▸ DGet.k (k := .inl k) e, h⟩
theorem r_pki {R : Hp → Prop} {a : Addr} {kvs : List (Key × V)} {k : Int} {v : V} (e : H a = some (.dK kvs)) (hl : kvs.length < sizeLine) (h : R (upd H a (.dK (putK kvs (.inl k) v)))) : ∃ b H', V.ref a = .ref b ∧ DPut H b (.int k) v H' ∧ R H' := ⟨a, _, rfl, DPut.k (k := .inl k) e hl, h⟩
theorem r_gkR {R : V → Prop} {a : Addr} {kvs : List (Key × V)} {k : Key} {v y : V} (e : Rd H a (.dK kvs)) (ey : y = kV k) (e2 : valV kvs k = some v) (h : R v) : ∃ b v, V.ref a = .ref b ∧ DGet H b y (some v) ∧ R v := ⟨a, v, rfl, by rw [ey, ← e2]; exact .inl ⟨kvs, k, e, rfl, rfl⟩, h⟩
theorem r_lockE {t : TE} {d : Addr} {u : HO} (e : H d = some u) (m : Mut (some u)) (h : ∀ od, t σ (upd H d (.frz od u)) fun v H' => H' d = some (.frz od u) ∧ Q v (upd H' d u)) : tLockE t σ H Q := ⟨d, u, e, m, h⟩
theorem r_dks {R : Option V → Prop} {a : Addr} {kvs : List (Key × V)} {k : Str} (e : H a = some (.dK kvs)) (h : R (valV kvs (.inr k))) : ∃ b o, V.ref a = .ref b ∧ DGet H b (.str k) o ∧ R o := ⟨a, _, rfl, DGet.k (k := .inr k) e, h⟩
theorem r_gks {R : V → Prop} {a : Addr} {kvs : List (Key × V)} {k : Str} {v : V} (e : H a = some (.dK kvs)) (e2 : valV kvs (.inr k) = some v) (h : R v) : ∃ b v, V.ref a = .ref b ∧ DGet H b (.str k) (some v) ∧ R v := ⟨a, v, rfl, e2 ▸ DGet.k (k := .inr k) e, h⟩
theorem r_pks {R : Hp → Prop} {a : Addr} {kvs : List (Key × V)} {k : Str} {v : V} (e : H a = some (.dK kvs)) (hl : kvs.length < sizeLine) (h : R (upd H a (.dK (putK kvs (.inr k) v)))) : ∃ b H', V.ref a = .ref b ∧ DPut H b (.str k) v H' ∧ R H' := ⟨a, _, rfl, DPut.k (k := .inr k) e hl, h⟩
theorem r_lenl {R : Nat → Prop} {p : Addr} {xs : List V} (e : H p = some (.lst xs)) (h : R xs.length) : ∃ x n, [V.ref p] = [x] ∧ LenV K x H n ∧ R n := ⟨_, _, rfl, .inl ⟨xs, .inl (.inl e), rfl⟩, h⟩
theorem r_lent {R : Nat → Prop} {p : Addr} {xs : List V} (e : H p = some (.tup xs)) (h : R xs.length) : ∃ x n, [V.ref p] = [x] ∧ LenV K x H n ∧ R n := ⟨_, _, rfl, .inr ⟨xs, .inl (.inl e), rfl⟩, h⟩
theorem r_lenS {R : Nat → Prop} {y : Str} (e : y.length ≤ sizeLine) (h : R y.length) : ∃ x n, [V.str y] = [x] ∧ LenV K x H n ∧ R n := ⟨_, _, rfl, ⟨e, rfl⟩, h⟩
theorem r_m1 {r : V → List V → Hp → VK → Prop} (ha : ta σ H fun x H1 => (∃ a, x = .str a) ∧ tb σ H1 fun y H2 => r x [y] H2 Q) : tM1 r ta tb σ H Q := ha
theorem r_isS {R : Prop} {a : Str} (h : R) : (∃ b, V.str a = .str b) ∧ R := ⟨⟨a, rfl⟩, h⟩
theorem r_yes {Q : Bool → Hp → Prop} (h : Q true H) : tYes σ H Q := h
theorem r_yes2 {A B : Hp → Prop} (h : A H) : tYes σ H (fun b H3 => if b = true then A H3 else B H3) := by
  show (if true = true then A H else B H)
  rw [if_pos rfl]
  exact h
theorem r_ite {b : Bool} {A B : Prop} (h1 : b = true → A) (h2 : b = false → B) : if b = true then A else B := by
  cases b with
  | true => exact (if_pos rfl).mpr (h1 rfl)
  | false => exact (if_neg Bool.false_ne_true).mpr (h2 rfl)
theorem r_itT {b : Bool} {A B : Prop} (e : b = true) (h : A) : if b = true then A else B := by rw [if_pos e]; exact h
theorem r_itF {b : Bool} {A B : Prop} (e : b = false) (h : B) : if b = true then A else B := by rw [e]; exact (if_neg Bool.false_ne_true).mpr h
/-! loops -/
def ForL (J : It) (g : TG) (tb : TS) (nx : L2.St → Hp → Prop) (rt : VK) (σ : L2.St) (H : Hp) : Prop := ∃ W : Nat → Nat → L2.St → Hp → Prop, (∃ m, W 0 m σ H) ∧ ∀ i m σ H, W i m σ H →
  (J.stop i H ∧ nx σ H) ∨ (J.go i H ∧ ∃ N : L2.St → Hp → Prop, (∀ σ' H', N σ' H' → ∃ m', m' < m ∧ W (i + 1) m' σ' H') ∧ ∀ x H', J.yld i H x H' → g x σ H' fun σ2 H2 => tb ⟨N, rt, nx, N⟩ σ2 H2)
theorem r_for {wi : TI} {tb : TS} (h : wi σ H fun J H1 => ForL J g tb nx rt σ H1) : tFor wi g tb ⟨nx, rt, bk, ct⟩ σ H := h
theorem r_rng1 {R : It → Hp → Prop} (h : tl σ H fun vs H1 => ∃ j : Int, vs = [.int j] ∧ -(2 ^ 62) ≤ j ∧ j < 2 ^ 62 ∧ R (Itr 0 j.toNat) H1) : iRng1 tl σ H R := h
theorem r_rngv {R : Int → Prop} {n : Int} (h0 : -1000000 ≤ n) (h1 : n ≤ 1000000) (h : R n) : ∃ j : Int, [V.int n] = [.int j] ∧ -(2 ^ 62) ≤ j ∧ j < 2 ^ 62 ∧ R j := ⟨n, rfl, by omega, by omega, h⟩
theorem r_rng2 {R : It → Hp → Prop} (h : tl σ H fun vs H1 => ∃ i j : Int, vs = [.int i, .int j] ∧ (-(2 ^ 62) ≤ i ∧ i < 2 ^ 62 ∧ -(2 ^ 62) ≤ j ∧ j < 2 ^ 62) ∧ R (Itr i (j - i).toNat) H1) : iRng2 tl σ H R := h
theorem r_rngw {R : Int → Int → Prop} {n m : Int} (h0 : -1000000 ≤ n) (h1 : n ≤ 1000000) (h2 : -1000000 ≤ m) (h3 : m ≤ 1000000) (h : R n m) : ∃ i j : Int, [V.int n, V.int m] = [.int i, .int j] ∧ (-(2 ^ 62) ≤ i ∧ i < 2 ^ 62 ∧ -(2 ^ 62) ≤ j ∧ j < 2 ^ 62) ∧ R i j := ⟨n, m, rfl, by omega, h⟩
theorem L_range {lo : Int} {n : Nat} {tb : TS} (Pv : Nat → L2.St → Hp → Prop) (h0 : Pv 0 σ H)
    (hs : ∀ i σ H, i < n → Pv i σ H → g (.int (lo + i)) σ H fun σ2 H2 => tb ⟨Pv (i + 1), rt, nx, Pv (i + 1)⟩ σ2 H2) (hd : ∀ σ H, Pv n σ H → nx σ H) : ForL (Itr lo n) g tb nx rt σ H :=
  for_range (D := ⟨nx, rt, nx, nx⟩) Pv h0 hs hd
theorem L_list {a : Addr} {xs : List V} {tb : TS} (Pv : Nat → L2.St → Hp → Prop) (h0 : Pv 0 σ H) (hl : ∀ i σ H, i ≤ xs.length → Pv i σ H → SqL K H a xs)
    (hs : ∀ i x σ H, xs[i]? = some x → Pv i σ H → g x σ H fun σ2 H2 => tb ⟨Pv (i + 1), rt, nx, Pv (i + 1)⟩ σ2 H2) (hd : ∀ σ H, Pv xs.length σ H → nx σ H) : ForL (Itl K a) g tb nx rt σ H :=
  for_list (D := ⟨nx, rt, nx, nx⟩) Pv h0 hl hs hd
theorem r_ilst {R : It → Hp → Prop} (h : te σ H fun x H1 => ∃ a, x = .ref a ∧ (∃ xs, SqL K H1 a xs) ∧ R (Itl K a) H1) : iList K te σ H R := h
theorem r_ilv {R : Addr → Prop} {a : Addr} {xs : List V} (hs : SqL K H a xs) (h : R a) : ∃ b, V.ref a = .ref b ∧ (∃ xs, SqL K H b xs) ∧ R b := ⟨a, rfl, ⟨xs, hs⟩, h⟩
theorem r_ilw {R : Addr → Prop} {a : Addr} {xs : List V} (hs : H a = some (.lst xs)) (h : R a) : ∃ b, V.ref a = .ref b ∧ (∃ xs, SqL K H b xs) ∧ R b := ⟨a, rfl, ⟨xs, .inl (.inl hs)⟩, h⟩
theorem r_ienum {R : It → Hp → Prop} (h : tl σ H fun vs H1 => ∃ a xs, vs = [.ref a] ∧ SqL K H1 a xs ∧ R (Ite K a) H1) : iEnum K tl σ H R := h
theorem r_irev {R : It → Hp → Prop} (h : tl σ H fun vs H1 => ∃ (a : Addr) (xs : List V), vs = [.ref a] ∧ SqL K H1 a xs ∧ R (Itv K a xs.length) H1) : iRev K tl σ H R := h
theorem r_itup {R : It → Hp → Prop} (h : te σ H fun x H1 => ∃ a, x = .ref a ∧ (∃ xs, SqT K H1 a xs) ∧ R (Itt K a) H1) : iTup K te σ H R := h
theorem r_ikeys {R : It → Hp → Prop} (h : te σ H fun x H1 => ∃ d o, x = .ref d ∧ ((∃ kvs, H1 d = some (.frz o (.dK kvs)) ∧ R (Itk d o kvs) H1) ∨ ∃ kvs, H1 d = some (.frz o (.dT kvs)) ∧ R (Itkt d o kvs) H1)) : iKeys te σ H R := h
theorem r_istr {R : It → Hp → Prop} (h : te σ H fun v H1 => ∃ x, v = .str x ∧ R (Its x) H1) : iStr te σ H R := h
/-! while -/
def Wh (W : Nat → L2.St → Hp → Prop) (m : Nat) (tb : TS) (nx : L2.St → Hp → Prop) (rt : VK) (σ : L2.St) (H : Hp) : Prop :=
  ∃ N : L2.St → Hp → Prop, (∀ σ' H', N σ' H' → ∃ m', m' < m ∧ W m' σ' H') ∧ tb ⟨N, rt, nx, N⟩ σ H
theorem r_while {tb : TS} (W : Nat → L2.St → Hp → Prop) (m0 : Nat) (h0 : W m0 σ H) (hs : ∀ m σ H, W m σ H → tc σ H fun b H1 => if b = true then Wh W m tb nx rt σ H1 else nx σ H1) : tWhile tc tb ⟨nx, rt, bk, ct⟩ σ H :=
  ⟨W, ⟨m0, h0⟩, hs⟩
theorem r_wh {tb : TS} {W : Nat → L2.St → Hp → Prop} {m : Nat} (h : tb ⟨fun σ' H' => ∃ m', m' < m ∧ W m' σ' H', rt, nx, fun σ' H' => ∃ m', m' < m ∧ W m' σ' H'⟩ σ H) : Wh W m tb nx rt σ H := ⟨_, fun _ _ h => h, h⟩
/-! comprehensions -/
def LcL (J : It) (g : TG) (tt : TT) (te : TE) (vs : List Nat) (σ : L2.St) (H1 : Hp) (Q : VK) : Prop := ∀ D, H1 D = none → ∃ W : Nat → Nat → Hp → Prop, (∃ m, W 0 m (upd H1 D (.lst []))) ∧ ∀ i m H, W i m H →
  (J.stop i H ∧ Q (.ref D) H) ∨ (J.go i H ∧ ∃ Nx : Hp → Prop, (∀ H', Nx H' → ∃ m', m' < m ∧ W (i + 1) m' H') ∧ ∀ x H', J.yld i H x H' → g x (wipe σ vs) H' fun σ2 H2 => wipe σ2 vs = wipe σ vs ∧ tt σ2 H2 fun b H3 =>
    if b = true then te σ2 H3 fun y H4 => ∃ acc, H4 D = some (.lst acc) ∧ acc.length < sizeLine ∧ Nx (upd H4 D (.lst (acc ++ [y]))) else Nx H3)
theorem r_lc {wi : TI} {vs : List Nat} (h : wi σ H fun J H1 => LcL J g tt te vs σ H1 Q) : tLc wi g tt te vs σ H Q := h
theorem C_range {lo : Int} {n : Nat} {vs : List Nat} (Pv : Addr → Nat → Hp → Prop) (h0 : ∀ D, H D = none → Pv D 0 (upd H D (.lst [])))
    (hs : ∀ D i H', i < n → Pv D i H' → g (.int (lo + i)) (wipe σ vs) H' fun σ2 H2 => wipe σ2 vs = wipe σ vs ∧ tt σ2 H2 fun b H3 =>
      if b = true then te σ2 H3 fun y H4 => ∃ acc, H4 D = some (.lst acc) ∧ acc.length < sizeLine ∧ Pv D (i + 1) (upd H4 D (.lst (acc ++ [y]))) else Pv D (i + 1) H3) (hd : ∀ D H', H D = none → Pv D n H' → Q (.ref D) H') : LcL (Itr lo n) g tt te vs σ H Q :=
  fun D hD => lc_range (Pv D) (h0 D hD) (hs D) (fun H' => hd D H' hD)
theorem C_list {a : Addr} {xs : List V} {vs : List Nat} (Pv : Addr → Nat → Hp → Prop) (h0 : ∀ D, H D = none → Pv D 0 (upd H D (.lst []))) (hl : ∀ D i H, i ≤ xs.length → Pv D i H → SqL K H a xs)
    (hs : ∀ D i x H', xs[i]? = some x → Pv D i H' → g x (wipe σ vs) H' fun σ2 H2 => wipe σ2 vs = wipe σ vs ∧ tt σ2 H2 fun b H3 =>
      if b = true then te σ2 H3 fun y H4 => ∃ acc, H4 D = some (.lst acc) ∧ acc.length < sizeLine ∧ Pv D (i + 1) (upd H4 D (.lst (acc ++ [y]))) else Pv D (i + 1) H3) (hd : ∀ D H', H D = none → Pv D xs.length H' → Q (.ref D) H') : LcL (Itl K a) g tt te vs σ H Q :=
  fun D hD => lc_list (K := K) (a := a) (xs := xs) (Pv D) (h0 D hD) (hl D) (hs D) (fun H' => hd D H' hD)
/-- a for, a comprehension over what is walked as w says -/
theorem L_it {J : It} {n : Nat} {Gd : Hp → Prop} {Y : Nat → Hp → V → Hp → Prop} (w : L2.Walk J n Gd Y) {tb : TS} (Pv : Nat → L2.St → Hp → Prop) (h0 : Pv 0 σ H) (hG : ∀ i σ H, i ≤ n → Pv i σ H → Gd H)
    (hs : ∀ i x σ H H', i < n → Pv i σ H → Y i H x H' → g x σ H' fun σ2 H2 => tb ⟨Pv (i + 1), rt, nx, Pv (i + 1)⟩ σ2 H2) (hd : ∀ σ H, Pv n σ H → nx σ H) : ForL J g tb nx rt σ H :=
  for_it w (D := ⟨nx, rt, nx, nx⟩) Pv h0 hG hs hd
theorem C_it {J : It} {n : Nat} {Gd : Hp → Prop} {Y : Nat → Hp → V → Hp → Prop} (w : L2.Walk J n Gd Y) {vs : List Nat} (Pv : Addr → Nat → Hp → Prop) (h0 : ∀ D, H D = none → Pv D 0 (upd H D (.lst []))) (hG : ∀ D i H, i ≤ n → Pv D i H → Gd H)
    (hs : ∀ D i x H1 H', i < n → Pv D i H1 → Y i H1 x H' → g x (wipe σ vs) H' fun σ2 H2 => wipe σ2 vs = wipe σ vs ∧ tt σ2 H2 fun b H3 =>
      if b = true then te σ2 H3 fun y H4 => ∃ acc, H4 D = some (.lst acc) ∧ acc.length < sizeLine ∧ Pv D (i + 1) (upd H4 D (.lst (acc ++ [y]))) else Pv D (i + 1) H3) (hd : ∀ D H', H D = none → Pv D n H' → Q (.ref D) H') : LcL J g tt te vs σ H Q :=
  fun D hD => lc_it w (Pv D) (h0 D hD) (hG D) (hs D) (fun H' => hd D H' hD)
theorem r_wip {vs : List Nat} {σ2 : L2.St} {B : Prop} (e : wipe σ2 vs = wipe σ vs) (h : B) : wipe σ2 vs = wipe σ vs ∧ B := ⟨e, h⟩
theorem r_d {c A B : Prop} [Decidable c] (h1 : c → A) (h2 : ¬ c → B) : if decide c = true then A else B := r_ite (fun h => h1 (of_decide_eq_true h)) (fun h => h2 (of_decide_eq_false h))
theorem r_nd {c A B : Prop} [Decidable c] (h1 : ¬ c → A) (h2 : c → B) : if (!decide c) = true then A else B := r_ite (fun h => h1 (of_decide_eq_false (by simpa using h))) (fun h => h2 (of_decide_eq_true (by simpa using h)))
theorem mulL {a b : Int} (h1 : -(2 ^ 64) < a) (h2 : a < 2 ^ 64) : CMul a b := .inl ⟨h1, h2⟩
theorem mulR {a b : Int} (h1 : -(2 ^ 64) < b) (h2 : b < 2 ^ 64) : CMul a b := .inr ⟨h1, h2⟩
theorem powS {a b : Int} (h0 : 0 ≤ b) (h1 : b ≤ 1000000) (h2 : a.natAbs < 2 ^ 64) : CPow a b := ⟨h0, h1, h2⟩
theorem divS {a b : Int} (h0 : 0 < b) (h1 : b.natAbs < 2 ^ 220) : CDivW a b := wide_div h0 h1 (by decide) (by decide)
end
theorem dint' {a b : Int} : decide (V.int a = V.int b) = decide (a = b) := decide_eq_decide.mpr ⟨fun h => V.int.inj h, fun h => by rw [h]⟩
theorem bits250 {a : Int} (h1 : -(2 ^ 250) < a) (h2 : a < 2 ^ 250) : a.natAbs < 2 ^ 250 := by
  have e : (2 : Int) ^ 250 = ((2 ^ 250 : Nat) : Int) := by decide +kernel
  rw [e] at h1 h2
  generalize (2 : Nat) ^ 250 = z at h1 h2 ⊢
  omega
theorem mulWW {a b : Int} (h1 : -1809251394333065553493296640760748560207343510400633813116524750123642650624 < a) (h2 : a < 1809251394333065553493296640760748560207343510400633813116524750123642650624) (h3 : -1809251394333065553493296640760748560207343510400633813116524750123642650624 < b) (h4 : b < 1809251394333065553493296640760748560207343510400633813116524750123642650624) : CMulW a b :=
  wide_mul (a := 250) (b := 250) (bits250 h1 h2) (bits250 h3 h4) (by decide) (by decide) (by decide)
/-- a power of a number of at most 250 bits -/
def CPowW (i j : Int) : Prop := 0 ≤ j ∧ j ≤ 1000 ∧ i.natAbs < 2 ^ 250
theorem op_powW {X : Cx} : OpR X (binaryOp .Pow) (rI CPowW fun i j => .int (i ^ j.toNat)) := opI fun i j _ _ _ _ _ hc q => by
  obtain ⟨h1, h2, h3⟩ := hc
  refine PyProof.Rows.pow_int h1 ?_ q
  have b := PyProof.Rows.intBits_le h3
  have m : (Builtin.Int.intBits i : Int) * j ≤ 250 * j := Int.mul_le_mul_of_nonneg_right (by omega) h1
  omega
theorem powWW {a b : Int} (h0 : 0 ≤ b) (h9 : b ≤ 1000) (h1 : -1809251394333065553493296640760748560207343510400633813116524750123642650624 < a) (h2 : a < 1809251394333065553493296640760748560207343510400633813116524750123642650624) : CPowW a b := ⟨h0, h9, bits250 h1 h2⟩
theorem hu65_of {A : Around} {k : Nat} (hr : Room k A) : A.units + 65 < cLine := by
  have := hr.un
  omega
theorem sz {n : Nat} (h : n ≤ 100000) : n ≤ sizeLine := Nat.le_trans h (by decide)
theorem szl {n : Nat} (h : n < 100000) : n < sizeLine := Nat.lt_of_lt_of_le h (by decide)
/-! ### heaps -/
/-- all that was tracked but at p is as it was -/
def But (p : Addr) (H H' : Hp) : Prop := ∀ b o, H b = some o → b ≠ p → H' b = some o
theorem But.refl {p : Addr} {H : Hp} : But p H H := fun _ _ h _ => h
theorem But.trans {p : Addr} {H H1 H2 : Hp} (a : But p H H1) (b : But p H1 H2) : But p H H2 := fun c o h n => b c o (a c o h n) n
theorem But.of {p : Addr} {H H' : Hp} (s : Same H H') : But p H H' := fun b o h _ => s b o h
theorem But.upd {p : Addr} {H : Hp} {o : HO} : But p H (upd H p o) := fun b u h n => by rw [upd_ne n]; exact h
theorem But.upd' {p q : Addr} {H H' : Hp} {o : HO} (h : But p H H') (n : H q = none) : But p H (L2.upd H' q o) := fun b u e k => by
  rw [upd_ne (ne_of_none e n)]
  exact h b u e k
theorem But.back1 {p : Addr} {H H' : Hp} {u : HO} (h : But p H H') (e : H p = some u) : Same H (L2.upd H' p u) := fun b o eb => by
  by_cases z : b = p
  · rw [z] at eb ⊢
    rw [L2.upd_same, ← eb, e]
  · rw [upd_ne z]
    exact h b o eb z
theorem atI_last {xs : List V} {v : V} : atI (xs ++ [v]) (-1) = some v := by
  have l : (xs ++ [v]).length = xs.length + 1 := by simp
  unfold atI ixN
  rw [l, if_neg (by decide), if_pos (by omega)]
  show (xs ++ [v])[((-1 : Int) + ((xs.length + 1 : Nat) : Int)).toNat]? = some v
  have : ((-1 : Int) + ((xs.length + 1 : Nat) : Int)).toNat = xs.length := by omega
  rw [this, List.getElem?_append_right (Nat.le_refl _), Nat.sub_self]
  rfl
theorem But.free {p q : Addr} {H H' : Hp} (b : But p H H') (hq : H' q = none) (hp' : H' p ≠ none) : H q = none := by
  cases e : H q with
  | none => rfl
  | some u =>
    by_cases z : q = p
    · rw [z] at hq
      exact absurd hq hp'
    · rw [b q u e z] at hq
      cases hq
theorem same_new {H : Hp} {p : Addr} {o : HO} (h : H p = none) : Same H (upd H p o) := fun b x e => by
  rw [upd_ne (ne_of_none e h)]
  exact e
theorem Same.upd' {q : Addr} {H H' : Hp} {o : HO} (h : Same H H') (n : H q = none) : Same H (L2.upd H' q o) := fun b u e => by
  rw [upd_ne (ne_of_none e n)]
  exact h b u e
/-- what is new since H may be changed -/
theorem Same.own {q : Addr} {H H' : Hp} {o : HO} (h : Same H H') (n : H q = none) : Same H (L2.upd H' q o) := Same.upd' h n
theorem ne_at {H : Hp} {a b : Addr} {o u : HO} (h : H a = some o) (h' : H b = some u) (n : o ≠ u) : a ≠ b := by
  intro e
  subst e
  rw [h] at h'
  exact n (Option.some.inj h')
theorem Same.free' {H H' : Hp} {q : Addr} (h : Same H H') (n : H' q = none) : H q = none := h.free n
theorem But.back {p : Addr} {H H1 H2 : Hp} (s : Same H H1) (n : H p = none) (b : But p H1 H2) : Same H H2 := fun c o e => b c o (s c o e) (ne_of_none e n)
/-- the bag: three whole numbers; the second one stays below 2 ^ 62, the third one counts -/
def BagAt (H : Hp) (p : Addr) (n : Nat) : Prop := ∃ a b c : Int, H p = some (.lst [.int a, .int b, .int c]) ∧ 0 ≤ b ∧ b < 4611686018427387904 ∧ 0 ≤ c ∧ c ≤ n
theorem BagAt.mono {H : Hp} {p : Addr} {n m : Nat} (h : BagAt H p n) (l : n ≤ m) : BagAt H p m := by
  obtain ⟨a, b, c, e, h1, h2, h3, h4⟩ := h
  exact ⟨a, b, c, e, h1, h2, h3, by omega⟩
theorem BagAt.there {H : Hp} {p : Addr} {n : Nat} (h : BagAt H p n) : H p ≠ none := by
  obtain ⟨a, b, c, e, _⟩ := h
  rw [e]
  simp
theorem BagAt.same {H H' : Hp} {p : Addr} {n : Nat} (h : BagAt H p n) (s : Same H H') : BagAt H' p n := by
  obtain ⟨a, b, c, e, r⟩ := h
  exact ⟨a, b, c, s _ _ e, r⟩
theorem BagAt.upd {H : Hp} {p q : Addr} {n : Nat} {o : HO} (h : BagAt H p n) (hq : H q = none) : BagAt (upd H q o) p n := h.same (same_new hq)
/-- what stood at another address is the bag no more -/
theorem BagAt.ne {H : Hp} {p q : Addr} {n : Nat} (h : BagAt H p n) {xs : List V} (e : H q = some (.tup xs)) : q ≠ p := by
  intro z
  subst z
  obtain ⟨a, b, c, e', _⟩ := h
  rw [e] at e'
  cases e'
end G
local macro_rules | `(tactic| walk_at "r1") => `(tactic| first
  | with_reducible refine G.r_seq ?_ | with_reducible refine G.r_asg ?_ | ((with_reducible refine' G.r_name ?r_h ?_); (case r_h => (simp only [List.map_cons, List.map_nil, L2.wipe, List.set_cons_zero, List.set_cons_succ]; exact rfl))) | with_reducible refine G.r_ret ?_ | with_reducible refine G.r_if ?_
  | ((with_reducible refine' G.r_var ?r_h ?_); (case r_h => rfl)) | with_reducible refine G.r_c ?_ | with_reducible refine G.r_op ?_ | with_reducible refine G.r_i0 ?_
  | with_reducible refine G.r_cons ?_ | with_reducible refine G.r_nil ?_ | with_reducible refine G.r_cal ?_ | with_reducible refine G.r_cb ?_ | with_reducible refine G.r_cbk ?_ | with_reducible refine G.r_chain ?_ | with_reducible refine G.r_test ?_ | with_reducible refine G.r_tB ?_
  | with_reducible refine G.r_bl ?_ | with_reducible refine G.r_next ?_ | ((with_reducible refine' G.r_eq ?r_h ?_); (case r_h => rfl)) | ((with_reducible refine' G.r_ne ?r_h ?_); (case r_h => rfl))
  | with_reducible refine G.r_u ?_ | with_reducible refine G.r_un ?_ | with_reducible refine G.r_and ?_ | with_reducible refine G.r_or ?_ | with_reducible refine G.r_not ?_ | with_reducible refine G.r_andV ?_ | with_reducible refine G.r_orV ?_
  | with_reducible refine G.r_notV ?_ | with_reducible refine G.r_ifE ?_ | with_reducible refine G.r_tup ?_ | with_reducible refine G.r_lst ?_ | with_reducible refine G.r_drop ?_ | with_reducible refine G.r_retN ?_
  | with_reducible refine G.r_brk ?_ | with_reducible refine G.r_cont ?_ | with_reducible refine G.r_sub ?_ | with_reducible refine G.r_gcons ?_ | with_reducible refine G.r_gnil ?_ | with_reducible refine G.r_bm ?_ | with_reducible refine G.r_m1 ?_ | with_reducible refine G.r_isS ?_ | with_reducible refine G.r_bm0 ?_
  | with_reducible refine G.r_slc ?_ | with_reducible refine G.r_nop ?_ | with_reducible refine G.r_part ?_ | with_reducible refine G.r_int ?_ | with_reducible refine G.r_yes2 ?_ | with_reducible refine G.r_revL ?_ | with_reducible refine G.r_dget ?_ | with_reducible refine G.r_din ?_ | with_reducible refine G.r_dnin ?_ | with_reducible refine G.r_dput ?_ | with_reducible refine G.r_yes ?_
  | with_reducible refine G.r_for ?_ | with_reducible refine G.r_rng1 ?_ | with_reducible refine G.r_rng2 ?_ | with_reducible refine G.r_ilst ?_ | with_reducible refine G.r_ienum ?_ | with_reducible refine G.r_irev ?_ | with_reducible refine G.r_itup ?_ | with_reducible refine G.r_ikeys ?_ | with_reducible refine G.r_istr ?_ | with_reducible refine G.r_lc ?_ | with_reducible refine G.r_wh ?_ | with_reducible refine G.r_pcons ?_ | with_reducible refine G.r_pnil ?_
  | ((with_reducible refine' G.r_rngv ?r_h ?r_e ?_); (case r_h => omega); (case r_e => omega))
  | ((with_reducible refine' G.r_wip ?r_h ?_); (case r_h => rfl))
  | ((with_reducible refine' G.r_ixl ?r_h ?r_e ?_); (case r_h => assumption); (case r_e => rfl))
  | ((with_reducible refine' G.r_ixt ?r_h ?r_e ?_); (case r_h => assumption); (case r_e => rfl))
  | ((with_reducible refine' G.r_gtup ?r_h ?r_e ?_); (case r_h => assumption); (case r_e => rfl))
  | ((with_reducible refine' G.r_i ?r_h ?_); (case r_h => first
      | (with_reducible exact G.mulL (by omega) (by omega)) | (with_reducible exact G.mulR (by omega) (by omega)) | (with_reducible exact G.mulR (by decide) (by decide)) | (with_reducible exact G.mulL (by decide) (by decide)) | (with_reducible exact G.powS (by omega) (by omega) (by omega)) | (with_reducible exact G.mulWW (by omega) (by omega) (by omega) (by omega)) | (with_reducible exact G.powWW (by omega) (by omega) (by omega) (by omega)) | (with_reducible exact G.divS (by omega) (by omega)) | (with_reducible exact G.divS (by assumption) (by assumption)) | (with_reducible assumption) | (show (0 : Int) < _; omega))))
local macro_rules | `(tactic| walk_at "rr") => `(tactic| repeat (walk_at "r1"))

namespace G
open PySem L2
/-! ### what kind of thing a value is -/
def kinds7 : List String := ["NoneType", "bool", "int", "str", "list", "tuple", "dict"]
theorem kit_tuple : ∀ T ∈ kinds7, kitB T "tuple" = some (T == "tuple") := by decide +kernel
theorem kit_list : ∀ T ∈ kinds7, kitB T "list" = some (T == "list") := by decide +kernel
theorem kit_str : ∀ T ∈ kinds7, kitB T "str" = some (T == "str") := by decide +kernel
theorem kit_bool : ∀ T ∈ kinds7, kitB T "bool" = some (T == "bool") := by decide +kernel
theorem kit_int : ∀ T ∈ kinds7, kitB T "int" = some (T == "int" || T == "bool") := by decide +kernel
theorem whole_of : ∀ T ∈ kinds7, ((T == "int" || T == "bool") && !(T == "bool")) = (T == "int") := by decide +kernel
section
variable {K : PySem.W.Frag} {H H' : Hp} {v : V} {t : Value}
theorem ty_tup {a : Addr} {xs : List V} (h : H a = some (.tup xs)) : TyX K H (.ref a) (.type "tuple") := .base (.tup h)
theorem ty_lst {a : Addr} {xs : List V} (h : H a = some (.lst xs)) : TyX K H (.ref a) (.type "list") := .base (.lst h)
theorem ty_dK {a : Addr} {xs : List (Key × V)} (h : H a = some (.dK xs)) : TyX K H (.ref a) (.type "dict") := .base (.dK h)
theorem ty_int {i : Int} : TyX K H (.int i) (.type "int") := .base (.int i)
theorem ty_str {i : Str} : TyX K H (.str i) (.type "str") := .base (.str i)
theorem ty_bl {i : Bool} : TyX K H (.bl i) (.type "bool") := .base (.bl i)
theorem ty_non : TyX K H .non (.type "NoneType") := .base .non
theorem TyOf.same (s : Same H H') (h : TyOf K H v t) : TyOf K H' v t := by
  cases h with
  | non => exact .non
  | bl x => exact .bl x
  | int x => exact .int x
  | str x => exact .str x
  | flt x => exact .flt x
  | lst e => exact .lst (s _ _ e)
  | frz e => exact .frz (s _ _ e)
  | tup e => exact .tup (s _ _ e)
  | dK e => exact .dK (s _ _ e)
  | dT e => exact .dT (s _ _ e)
  | ins e a b c d f => exact .ins (s _ _ e) a b c d f
theorem TyX.same (s : Same H H') (h : TyX K H v t) : TyX K H' v t := by
  cases h with
  | base h => exact .base (TyOf.same s h)
  | byt b => exact .byt b
  | set e => exact .set (s _ _ e)
  | kList e c => exact .kList e c
  | kTuple e c => exact .kTuple e c
  | kDict e c => exact .kDict e c
  | fTuple e => exact .fTuple (s _ _ e)
  | fDict e => exact .fDict (s _ _ e)
end
/-- v is something of one of the seven kinds -/
def Some7 (K : PySem.W.Frag) (H : Hp) (v : V) : Prop := ∃ T, TyX K H v (.type T) ∧ T ∈ kinds7
theorem Some7.same {K : PySem.W.Frag} {H H' : Hp} {v : V} (s : Same H H') (h : Some7 K H v) : Some7 K H' v := by
  obtain ⟨T, a, b⟩ := h
  exact ⟨T, TyX.same s a, b⟩
theorem any_non {K : PySem.W.Frag} {H : Hp} : Some7 K H .non := ⟨_, ty_non, by decide⟩
theorem any_bl {K : PySem.W.Frag} {H : Hp} {b : Bool} : Some7 K H (.bl b) := ⟨_, ty_bl, by decide⟩
theorem any_int {K : PySem.W.Frag} {H : Hp} {b : Int} : Some7 K H (.int b) := ⟨_, ty_int, by decide⟩
theorem any_str {K : PySem.W.Frag} {H : Hp} {b : Str} : Some7 K H (.str b) := ⟨_, ty_str, by decide⟩
theorem any_tup {K : PySem.W.Frag} {H : Hp} {a : Addr} {xs : List V} (h : H a = some (.tup xs)) : Some7 K H (.ref a) := ⟨_, ty_tup h, by decide⟩
theorem any_lst {K : PySem.W.Frag} {H : Hp} {a : Addr} {xs : List V} (h : H a = some (.lst xs)) : Some7 K H (.ref a) := ⟨_, ty_lst h, by decide⟩
theorem any_dK {K : PySem.W.Frag} {H : Hp} {a : Addr} {xs : List (Key × V)} (h : H a = some (.dK xs)) : Some7 K H (.ref a) := ⟨_, ty_dK h, by decide⟩
/-- a worth by its word and number -/
def isW (s : Str) (n : Int) : Bool := s == "num" || ((s == "at" || s == "box" || s == "go") && decide (0 ≤ n))
/-- v is a thing, and b says whether it is a worth -/
inductive Th (K : PySem.W.Frag) (H : Hp) : V → Bool → Prop
  | other {v : V} {T : String} (h : TyX K H v (.type T)) (m : T ∈ kinds7) (n : (T == "tuple") = false) : Th K H v false
  | tupN {a : Addr} {xs : List V} (h : H a = some (.tup xs)) (n : xs.length ≠ 2) : Th K H (.ref a) false
  | tupX {a : Addr} {x y : V} {T : String} (h : H a = some (.tup [x, y])) (hx : TyX K H x (.type T)) (m : T ∈ kinds7) (n : (T == "str") = false) : Th K H (.ref a) false
  | tupY {a : Addr} {s : Str} {y : V} {T : String} (h : H a = some (.tup [.str s, y])) (hy : TyX K H y (.type T)) (m : T ∈ kinds7) (n : (T == "int") = false) : Th K H (.ref a) false
  | tupW {a : Addr} {s : Str} {n : Int} (h : H a = some (.tup [.str s, .int n])) : Th K H (.ref a) (isW s n)
/-- only a whole number is of the kind int -/
theorem ty_is_int' {K : PySem.W.Frag} {H : Hp} {v : V} {t : Value} (h : TyX K H v t) (e : t = .type "int") : ∃ n, v = .int n := by
  cases h with
  | base h =>
    cases h with
    | int i => exact ⟨i, rfl⟩
    | _ => first | (cases e; done) | (injection e with e; exact absurd e (by decide))
  | _ => first | (cases e; done) | (injection e with e; exact absurd e (by decide))
theorem ty_is_str' {K : PySem.W.Frag} {H : Hp} {v : V} {t : Value} (h : TyX K H v t) (e : t = .type "str") : ∃ n, v = .str n := by
  cases h with
  | base h =>
    cases h with
    | str i => exact ⟨i, rfl⟩
    | _ => first | (cases e; done) | (injection e with e; exact absurd e (by decide))
  | _ => first | (cases e; done) | (injection e with e; exact absurd e (by decide))
theorem ty_is_int {K : PySem.W.Frag} {H : Hp} {v : V} (h : TyX K H v (.type "int")) : ∃ n, v = .int n := ty_is_int' h rfl
theorem ty_is_str {K : PySem.W.Frag} {H : Hp} {v : V} (h : TyX K H v (.type "str")) : ∃ n, v = .str n := ty_is_str' h rfl
/-- any tuple of two, of any kinds, is a thing -/
theorem Th.pair {K : PySem.W.Frag} {H : Hp} {a : Addr} {x y : V} (h : H a = some (.tup [x, y])) (hx : Some7 K H x) (hy : Some7 K H y) : ∃ b, Th K H (.ref a) b := by
  obtain ⟨T, tx, mx⟩ := hx
  obtain ⟨U, tu, mu⟩ := hy
  cases e : T == "str" with
  | false => exact ⟨_, .tupX h tx mx e⟩
  | true =>
    have e' := eq_of_beq e
    subst e'
    obtain ⟨s, rfl⟩ := ty_is_str tx
    cases e2 : U == "int" with
    | false => exact ⟨_, .tupY h tu mu e2⟩
    | true =>
      have e' := eq_of_beq e2
      subst e'
      obtain ⟨n, rfl⟩ := ty_is_int tu
      exact ⟨_, .tupW h⟩
theorem atI_there {α : Type} {xs : List α} {i : Int} (h0 : 0 ≤ i) (h1 : i < xs.length) : ∃ c, atI xs i = some c := by
  obtain ⟨j, rfl⟩ : ∃ j : Nat, i = (j : Int) := ⟨i.toNat, by omega⟩
  have hj : j < xs.length := by omega
  exact ⟨xs[j], atI_nat (List.getElem?_eq_getElem hj)⟩
theorem r_ixS' {H : Hp} {Q : VK} {z : Str} {i : Int} (hz : z.length ≤ sizeLine) (h0 : 0 ≤ i) (h1 : i < z.length) (h : ∀ c, Q (.str ⟨#[c]⟩) H) : rIxS (.str z) (.int i) H Q := by
  obtain ⟨c, e⟩ : ∃ c, atI z.cps.toList i = some c := atI_there h0 (by rw [Array.length_toList]; exact h1)
  exact ⟨z, i, c, rfl, rfl, hz, e, h c⟩
theorem Th.same {K : PySem.W.Frag} {H H' : Hp} {v : V} {b : Bool} (s : Same H H') (h : Th K H v b) : Th K H' v b := by
  cases h with
  | other h m n => exact .other (TyX.same s h) m n
  | tupN h n => exact .tupN (s _ _ h) n
  | tupX h hx m n => exact .tupX (s _ _ h) (TyX.same s hx) m n
  | tupY h hy m n => exact .tupY (s _ _ h) (TyX.same s hy) m n
  | tupW h => exact .tupW (s _ _ h)
/-- one of the odd things: no tuple, or one of none or two -/
inductive Odd (K : PySem.W.Frag) (H : Hp) : V → Prop
  | other {v : V} {T : String} (h : TyX K H v (.type T)) (m : T ∈ kinds7) (n : (T == "tuple") = false) : Odd K H v
  | tup0 {a : Addr} (h : H a = some (.tup [])) : Odd K H (.ref a)
  | tup2 {a : Addr} {s : Str} {n : Int} (h : H a = some (.tup [.str s, .int n])) : Odd K H (.ref a)
theorem Odd.some7 {K : PySem.W.Frag} {H : Hp} {v : V} (h : Odd K H v) : Some7 K H v := by
  cases h with
  | other h m n => exact ⟨_, h, m⟩
  | tup0 h => exact any_tup h
  | tup2 h => exact any_tup h
theorem Odd.thing {K : PySem.W.Frag} {H : Hp} {v : V} (h : Odd K H v) : ∃ b, Th K H v b := by
  cases h with
  | other h m n => exact ⟨_, .other h m n⟩
  | tup0 h => exact ⟨_, .tupN h (by decide)⟩
  | tup2 h => exact ⟨_, .tupW h⟩
end G

namespace G
open PySem L2
/-! ### a dict of the module's top: texts to texts -/
def keyS : Value → Option Str
  | .str x _ => some x
  | _ => none
theorem keyS_of {v : Value} {x : Str} (h : keyS v = some x) : ∃ t, v = .str x t := by
  cases v with
  | str y t =>
    have e : y = x := Option.some.inj h
    exact ⟨t, by rw [e]⟩
  | _ => cases h
def pairsS (l : List DictEntry) : List (Option Str × Option Str) := l.map fun e => (keyS e.key, keyS e.val)
theorem find_pairs (z : Str) : ∀ {l : List DictEntry} {ks : List (Str × Str)}, pairsS l = ks.map (fun p => (some p.1, some p.2)) →
    (∃ r, (match l.find? (·.key.isStr z) with | some e => some (some e.val) | none => if l.any (·.refKey) then none else some none) = some r ∧ match ks.find? (fun p => decide (p.1 = z)) with | some p => ∃ t, r = some (.str p.2 t) | none => r = none) ∧ l.any (·.refKey) = false
  | [], [], _ => ⟨⟨none, rfl, rfl⟩, rfl⟩
  | [], _ :: _, h => by cases h
  | _ :: _, [], h => by cases h
  | e :: r, k :: ks, h => by
    have h1 : (keyS e.key, keyS e.val) :: pairsS r = (some k.1, some k.2) :: ks.map (fun p => (some p.1, some p.2)) := h
    injection h1 with h2 h3
    obtain ⟨h4, h5⟩ := Prod.mk.inj h2
    obtain ⟨t, h6⟩ := keyS_of h4
    obtain ⟨u, h7⟩ := keyS_of h5
    obtain ⟨⟨q, e1, e2⟩, e3⟩ := find_pairs z h3
    have rk : (e.refKey : Bool) = false := by
      unfold DictEntry.refKey
      rw [h6]
    have e4 : (e :: r).any (·.refKey) = false := by
      rw [List.any_cons, rk, e3]
      rfl
    refine ⟨?_, e4⟩
    by_cases c : k.1 = z
    · have i1 : e.key.isStr z = true := by
        rw [h6, ← c]
        simp [Value.isStr]
      refine ⟨some e.val, ?_, ?_⟩
      · rw [List.find?_cons, i1]
      · rw [List.find?_cons, decide_eq_true c]
        exact ⟨u, by rw [h7]⟩
    · have i1 : e.key.isStr z = false := by
        rw [h6]
        simp [Value.isStr, c]
      refine ⟨q, ?_, ?_⟩
      · rw [List.find?_cons, i1, List.any_cons, rk]
        exact e1
      · rw [List.find?_cons, decide_eq_false c]
        exact e2
theorem nsIn_pairs {K : PySem.W.Frag} {d : Addr} {es : Array DictEntry} {n : Nat} {ks : List (Str × Str)} (l : K.lookup d = some ⟨.type "dict", none, .dict es n, #[]⟩) (h : pairsS es.toList = ks.map (fun p => (some p.1, some p.2))) (z : Str) :
    ∃ r, PySem.W.nsIn K d z = some r ∧ match ks.find? (fun p => decide (p.1 = z)) with | some p => ∃ t, r = some (.str p.2 t) | none => r = none := by
  unfold PySem.W.nsIn
  rw [l]
  exact (find_pairs z h).1
def marks : List (Str × Str) := [("num", ""), ("at", "@"), ("box", "b"), ("go", "g")]
theorem marks_some (z : Str) : (marks.find? (fun p => decide (p.1 = z))).isSome = (z == "num" || (z == "at" || z == "box" || z == "go")) := by
  unfold marks
  by_cases h1 : z = "num"
  · subst h1
    rfl
  by_cases h2 : z = "at"
  · subst h2
    decide +kernel
  by_cases h3 : z = "box"
  · subst h3
    decide +kernel
  by_cases h4 : z = "go"
  · subst h4
    decide +kernel
  · have b : ∀ y : Str, ¬ z = y → decide (y = z) = false ∧ (z == y) = false := fun y h => ⟨decide_eq_false fun e => h e.symm, beq_eq_false_iff_ne.mpr h⟩
    simp only [List.find?_cons, (b _ h1).1, (b _ h2).1, (b _ h3).1, (b _ h4).1, (b _ h1).2, (b _ h2).2, (b _ h3).2, (b _ h4).2, List.find?_nil, Option.isSome_none, Bool.or_false]
end G

namespace G
open PySem L2
/-! ### worths, as they stand in the heap -/
abbrev Wo := Str × Int
def wv (w : Wo) : List V := [.str w.1, .int w.2]
/-- v is a tuple of w's text and number -/
def WoAt (H : Hp) (v : V) (w : Wo) : Prop := ∃ a, v = .ref a ∧ H a = some (.tup (wv w)) ∧ PyData.strOk w.1 = true
theorem WoAt.mk {H : Hp} {a : Addr} {s : Str} {n : Int} (h : H a = some (.tup [.str s, .int n])) (o : PyData.strOk s = true) : WoAt H (.ref a) (s, n) := ⟨a, rfl, h, o⟩
abbrev Wos (H : Hp) := Paired (WoAt H)
def wd (w : Wo) : PyData := .tuple [.str w.1, .int w.2]
section
variable {K : PySem.W.Frag} {H H' : Hp} {v : V} {w : Wo} {xs : List V} {ws : List Wo} {p : Addr} {n : Nat}
theorem WoAt.same (s : Same H H') (h : WoAt H v w) : WoAt H' v w := by
  obtain ⟨a, e, h, o⟩ := h
  exact ⟨a, e, s _ _ h, o⟩
theorem Wos.same (s : Same H H') (h : Wos H xs ws) : Wos H' xs ws := Paired.mapP h fun _ _ => WoAt.same s
theorem WoAt.but (b : But p H H') (B : BagAt H p n) (h : WoAt H v w) : WoAt H' v w := by
  obtain ⟨a, e, h, o⟩ := h
  exact ⟨a, e, b _ _ h (B.ne h), o⟩
theorem Wos.but (b : But p H H') (B : BagAt H p n) (h : Wos H xs ws) : Wos H' xs ws := Paired.mapP h fun _ _ => WoAt.but b B
/-- another list at l -/
theorem WoAt.upd {l : Addr} {o : HO} {ys : List V} (hl : H l = some (.lst ys)) (h : WoAt H v w) : WoAt (upd H l o) v w := by
  obtain ⟨a, e, h, k⟩ := h
  exact ⟨a, e, by rw [upd_ne (ne_of h hl (by intro q; cases q))]; exact h, k⟩
theorem Wos.upd {l : Addr} {o : HO} {ys : List V} (hl : H l = some (.lst ys)) (h : Wos H xs ws) : Wos (L2.upd H l o) xs ws := Paired.mapP h fun _ _ => WoAt.upd hl
theorem WoAt.dp (h : WoAt H v w) : Dp K H v (wd w) := by
  obtain ⟨a, rfl, h, _⟩ := h
  exact .tup (.inl (.inl h)) (.cons (.str _) (.cons (.int _) .nil))
theorem Wos.dp : ∀ {xs : List V} {ws : List Wo}, Wos H xs ws → DpAll K H xs (ws.map wd)
  | _, _, .nil => .nil
  | _, _, .cons a b => .cons a.dp (Wos.dp b)
theorem Wos.len : ∀ {xs : List V} {ws : List Wo}, Wos H xs ws → xs.length = ws.length
  | _, _, .nil => rfl
  | _, _, .cons _ b => by rw [List.length_cons, List.length_cons, Wos.len b]
theorem Wos.app {ys : List V} {us : List Wo} (h : Wos H xs ws) (g : Wos H ys us) : Wos H (xs ++ ys) (ws ++ us) := by
  induction h with
  | nil => exact g
  | cons a _ ih => exact .cons a ih
theorem Wos.one (h : WoAt H v w) : Wos H [v] [w] := .cons h .nil
theorem Wos.get : ∀ {xs : List V} {ws : List Wo} {i : Nat} {v : V}, Wos H xs ws → xs[i]? = some v → ∃ w, ws[i]? = some w ∧ WoAt H v w
  | _, _, _, _, .nil, e => by cases e
  | _, _, 0, _, .cons a _, e => ⟨_, rfl, by rw [← Option.some.inj e]; exact a⟩
  | _, _, i + 1, _, .cons _ b, e => Wos.get (i := i) b e
theorem Wos.at : ∀ {xs : List V} {ws : List Wo} {i : Nat} {w : Wo}, Wos H xs ws → ws[i]? = some w → ∃ v, xs[i]? = some v ∧ WoAt H v w
  | _, _, _, _, .nil, e => by cases e
  | _, _, 0, _, .cons a _, e => ⟨_, rfl, by rw [← Option.some.inj e]; exact a⟩
  | _, _, i + 1, _, .cons _ b, e => Wos.at (i := i) b e
theorem Wos.take : ∀ {xs : List V} {ws : List Wo} (n : Nat), Wos H xs ws → Wos H (xs.take n) (ws.take n)
  | _, _, 0, _ => .nil
  | _, _, _ + 1, .nil => .nil
  | _, _, n + 1, .cons a b => .cons a (Wos.take n b)
theorem Wos.drop : ∀ {xs : List V} {ws : List Wo} (n : Nat), Wos H xs ws → Wos H (xs.drop n) (ws.drop n)
  | _, _, 0, h => h
  | _, _, _ + 1, .nil => .nil
  | _, _, n + 1, .cons _ b => Wos.drop n b
theorem Wos.rev {xs : List V} {ws : List Wo} (h : Wos H xs ws) : Wos H xs.reverse ws.reverse := by
  induction h with
  | nil => exact .nil
  | cons a _ ih =>
    rw [List.reverse_cons, List.reverse_cons]
    exact ih.app (.one a)
theorem eqv_wd (a b : Wo) : PyData.eqv (wd a) (wd b) = decide (a = b) := by
  obtain ⟨x, i⟩ := a
  obtain ⟨y, j⟩ := b
  show (x == y && (i == j && true)) = _
  rw [Bool.eq_iff_iff]
  simp
theorem eqvAll_wds : ∀ a b : List Wo, PyData.eqvAll (a.map wd) (b.map wd) = decide (a = b)
  | [], [] => rfl
  | [], _ :: _ => rfl
  | _ :: _, [] => rfl
  | x :: r, y :: s => by
    show (PyData.eqv (wd x) (wd y) && PyData.eqvAll (r.map wd) (s.map wd)) = _
    rw [eqv_wd, eqvAll_wds r s, Bool.eq_iff_iff]
    simp
theorem eqv_wds (a b : List Wo) : PyData.eqv (.list (a.map wd)) (.list (b.map wd)) = decide (a = b) := eqvAll_wds a b
theorem WoAt.ok (h : WoAt H v w) : PyData.strOk w.1 = true := by
  obtain ⟨_, _, _, k⟩ := h
  exact k
theorem Wos.ok : ∀ {xs : List V} {ws : List Wo}, Wos H xs ws → ∀ w ∈ ws, PyData.strOk w.1 = true
  | _, _, .nil, _, h => by cases h
  | _, _, .cons a b, w, h => by
    rcases List.mem_cons.mp h with e | e
    · rw [e]
      exact a.ok
    · exact Wos.ok b w e
theorem shaped_wd {a : Wo} (h : PyData.strOk a.1 = true) : SeqAt.shaped (wd a) = true := by
  simp [SeqAt.shaped, wd, PyData.canLay0, PyData.canLayAll0, PyData.depth, PyData.depthAll, h]
theorem lay_wds : ∀ a : List Wo, (∀ w ∈ a, PyData.strOk w.1 = true) → PyData.canLayAll0 (a.map wd) = true ∧ PyData.depthAll (a.map wd) ≤ 1
  | [], _ => ⟨by simp [PyData.canLayAll0], by simp [PyData.depthAll]⟩
  | x :: r, h => by
    obtain ⟨h1, h2⟩ := lay_wds r fun w m => h w (List.mem_cons_of_mem _ m)
    constructor
    · simp [PyData.canLayAll0, wd, PyData.canLay0, h1, h x List.mem_cons_self]
    · have e : PyData.depthAll ((x :: r).map wd) = max 1 (PyData.depthAll (r.map wd)) := by
        simp [PyData.depthAll, wd, PyData.depth]
      rw [e]
      omega
theorem shaped_wds {a : List Wo} (h : ∀ w ∈ a, PyData.strOk w.1 = true) : SeqAt.shaped (.list (a.map wd)) = true := by
  obtain ⟨h1, h2⟩ := lay_wds a h
  simp [SeqAt.shaped, PyData.canLay0, h1, PyData.depth]
  omega
theorem any_wds (w : Wo) (ws : List Wo) : ((ws.map wd).any fun z => PyData.eqv z (wd w)) = decide (w ∈ ws) := by
  rw [List.any_map, Bool.eq_iff_iff, List.any_eq_true]
  simp only [Function.comp, decide_eq_true_eq, eqv_wd]
  exact ⟨fun ⟨x, h1, h2⟩ => h2 ▸ h1, fun h => ⟨w, h, rfl⟩⟩
end
/-- a list of worths at a -/
def PileAt (H : Hp) (a : Addr) (ws : List Wo) : Prop := ∃ xs, H a = some (.lst xs) ∧ Wos H xs ws
theorem PileAt.same {H H' : Hp} {a : Addr} {ws : List Wo} (s : Same H H') (h : PileAt H a ws) : PileAt H' a ws := by
  obtain ⟨xs, e, h⟩ := h
  exact ⟨xs, s _ _ e, h.same s⟩
theorem PileAt.dp {K : PySem.W.Frag} {H : Hp} {a : Addr} {ws : List Wo} (h : PileAt H a ws) : Dp K H (.ref a) (.list (ws.map wd)) := by
  obtain ⟨xs, e, h⟩ := h
  exact .lst (.inl (.inl e)) h.dp
theorem PileAt.app {H : Hp} {l : Addr} {xs : List V} {ws us : List Wo} {ys : List V} (hl : H l = some (.lst ys)) (h : Wos H xs ws) (g : ws = us) : PileAt (upd H l (.lst xs)) l us := by
  subst g
  exact ⟨xs, upd_same, h.upd hl⟩
theorem paired_dp {K : PySem.W.Frag} {H : Hp} {v : V} {w : Wo} (h : WoAt H v w) : Dp K H v (wd w) := h.dp
theorem r_eqD {K : PySem.W.Frag} {H : Hp} {Q : VK} {x y : V} {d e : PyData} (h1 : Dp K H x d) (h2 : Dp K H y e) (s1 : SeqAt.shaped d = true) (s2 : SeqAt.shaped e = true) (q : Q (.bl (PyData.eqv d e)) H) : rEqD K x y H Q := ⟨d, e, h1, h2, s1, s2, q⟩
theorem r_neD {K : PySem.W.Frag} {H : Hp} {Q : VK} {x y : V} {d e : PyData} (h1 : Dp K H x d) (h2 : Dp K H y e) (s1 : SeqAt.shaped d = true) (s2 : SeqAt.shaped e = true) (q : Q (.bl (!PyData.eqv d e)) H) : rNeD K x y H Q := ⟨d, e, h1, h2, s1, s2, q⟩
theorem r_slL {K : PySem.W.Frag} {H : Hp} {Q : VK} {a : Addr} {xs : List V} {lo hi : Option Int} (h : SqL K H a xs) (q : ∀ p, H p = none → Q (.ref p) (upd H p (.lst (cutV xs lo hi)))) : rSlL K (.ref a) lo hi H Q := ⟨a, xs, rfl, h, q⟩
theorem cut_to (xs : List V) (n : Nat) : cutV xs none (some (n : Int)) = xs.take n := by
  unfold cutV
  rw [HT.sIx_none, HT.sIx_nat, List.drop_zero, Nat.sub_zero]
  by_cases h : n ≤ xs.length
  · rw [Nat.min_eq_left h]
  · rw [Nat.min_eq_right (by omega), List.take_of_length_le (Nat.le_refl _), List.take_of_length_le (by omega)]
end G

namespace G
open PySem L2 TL
/-! ### worths as texts -/
theorem dstr {a b : Str} : decide (V.str a = V.str b) = decide (a = b) := decide_eq_decide.mpr ⟨fun h => V.str.inj h, fun h => by rw [h]⟩
def markOf (s : Str) : Str := if s = "at" then "@" else if s = "box" then "b" else if s = "go" then "g" else ""
def numT (n : Int) : List Nat := if n < 0 then 45 :: numL n.natAbs else numL n.natAbs
def wt (w : Wo) : Str := markOf w.1 ++ Str.ofString (toString w.2)
theorem tl_int (n : Int) : tl (Str.ofString (toString n)) = numT n := by
  unfold numT
  by_cases h : n < 0
  · rw [if_pos h, PyProof.Rows.toString_neg h, tl_ofString, String.toList_append, List.map_append]
    have e : (0 : Int) - n = ((n.natAbs : Nat) : Int) := by omega
    rw [e, ← tl_ofString (toString ((n.natAbs : Nat) : Int)), tl_num]
    rfl
  · rw [if_neg h]
    have e : n = ((n.natAbs : Nat) : Int) := by omega
    rw [e, tl_num, Int.natAbs_natCast]
/-- what the laws hand to be written -/
def Word (s : Str) : Prop := s = "num" ∨ s = "at" ∨ s = "box" ∨ s = "go"
structure Good (w : Wo) : Prop where
  word : Word w.1
  low : w.1 = "num" ∨ 0 ≤ w.2
  lo : -(10 ^ 60) < w.2
  hi : w.2 < 10 ^ 60
theorem numL_60 {n : Int} (h1 : -(10 ^ 60) < n) (h2 : n < 10 ^ 60) : (numL n.natAbs).length ≤ 60 := by
  refine numL_len (by decide) ?_
  have e : ((10 : Nat) ^ 60 : Nat) = 1000000000000000000000000000000000000000000000000000000000000 := by decide
  have f : ((10 : Int) ^ 60 : Int) = 1000000000000000000000000000000000000000000000000000000000000 := by decide
  rw [e]
  rw [f] at h1 h2
  omega
theorem log_60 {n : Int} (h1 : -(10 ^ 60) < n) (h2 : n < 10 ^ 60) : n.natAbs.log2 < 1920 := by
  have f : ((10 : Int) ^ 60 : Int) = 1000000000000000000000000000000000000000000000000000000000000 := by decide
  rw [f] at h1 h2
  have : n.natAbs < 2 ^ 200 := by
    have g : (2 : Nat) ^ 200 = 1606938044258990275541962092341162602522202993782792835301376 := by decide
    rw [g]
    omega
  by_cases z : n.natAbs = 0
  · rw [z]
    decide
  · exact Nat.lt_of_lt_of_le ((Nat.log2_lt z).mpr this) (by decide)
theorem mark_len (s : Str) : (markOf s).length ≤ 1 := by
  unfold markOf
  split
  · decide
  split
  · decide
  split
  · decide
  · decide
theorem len_app' (a b : Str) : (a ++ b).length = a.length + b.length := by
  rw [len_tl, len_tl, len_tl, tl_append, List.length_append]
theorem num_len {n : Int} (h1 : -(10 ^ 60) < n) (h2 : n < 10 ^ 60) : (Str.ofString (toString n)).length ≤ 61 := by
  have := numL_60 h1 h2
  rw [len_tl, tl_int]
  unfold numT
  split
  · rw [List.length_cons]
    omega
  · omega
theorem wt_len {w : Wo} (g : Good w) : (wt w).length ≤ 62 := by
  have := num_len g.lo g.hi
  have := mark_len w.1
  unfold wt
  rw [len_app']
  omega
theorem word_cases {s : Str} (h : Word s) (h2 : s ≠ "num") : s = "at" ∨ s = "box" ∨ s = "go" := h.resolve_left h2
theorem marks_find {s : Str} (h : Word s) : (marks.find? (fun p => decide (p.1 = s))).map (·.2) = some (markOf s) := by
  rcases h with rfl | rfl | rfl | rfl <;> decide +kernel
theorem tl_wt (w : Wo) : tl (wt w) = tl (markOf w.1) ++ numT w.2 := by
  unfold wt
  rw [tl_append, tl_int]
theorem tl_cut1 {z : Str} (h : 1 ≤ z.length) : tl (cutS z (some 1) none) = (tl z).drop 1 := by
  show (((tl z).drop (HT.sIx z.length 0 (some ((1 : Nat) : Int)))).take (HT.sIx z.length z.length none - HT.sIx z.length 0 (some ((1 : Nat) : Int)))) = _
  rw [HT.sIx_nat, HT.sIx_none, Nat.min_eq_left h]
  exact List.take_of_length_le (by rw [List.length_drop, ← len_tl]; exact Nat.le_refl _)
theorem numL_head : ∀ (n c : Nat) (r : List Nat), numL n = c :: r → c = 48 → r = [] := by
  intro n
  induction n using Nat.strongRecOn with
  | _ n ih =>
    intro c r h e
    by_cases h10 : n < 10
    · rw [numL_lt h10] at h
      exact (List.cons.inj h).2.symm
    · rw [numL_step (by omega)] at h
      have ne := numL_ne (n / 10)
      cases hq : numL (n / 10) with
      | nil => exact absurd hq ne
      | cons c2 r2 =>
        rw [hq] at h
        have e2 : c2 = c := (List.cons.inj h).1
        have r0 := ih (n / 10) (by omega) c2 r2 hq (by rw [e2, e])
        rw [r0] at hq
        have v := numL_val (n / 10)
        rw [hq, e2, e] at v
        have : n / 10 = 0 := by
          rw [← v]
          rfl
        omega
theorem numL_cons (n : Nat) : ∃ c r, numL n = c :: r ∧ 48 ≤ c ∧ c ≤ 57 := by
  cases h : numL n with
  | nil => exact absurd h (numL_ne n)
  | cons c r =>
    have d := numL_digits n c (by rw [h]; exact List.mem_cons_self)
    exact ⟨c, r, rfl, d.1, d.2⟩
theorem figure {c : Nat} (h1 : 48 ≤ c) (h2 : c ≤ 57) : c ∈ (Str.ofString "0123456789").cps.toList := by
  have : (Str.ofString "0123456789").cps.toList = [48, 49, 50, 51, 52, 53, 54, 55, 56, 57] := by decide +kernel
  rw [this]
  have : c = 48 ∨ c = 49 ∨ c = 50 ∨ c = 51 ∨ c = 52 ∨ c = 53 ∨ c = 54 ∨ c = 55 ∨ c = 56 ∨ c = 57 := by omega
  rcases this with rfl | rfl | rfl | rfl | rfl | rfl | rfl | rfl | rfl | rfl <;> decide
theorem sign_eq {c : Nat} {s : String} {d : Nat} (h : (Str.ofString s).cps = #[d]) : ((⟨#[c]⟩ : Str) = Str.ofString s) ↔ c = d := by
  constructor
  · intro e
    have := congrArg Str.cps e
    rw [h] at this
    have e2 : [c] = [d] := congrArg Array.toList this
    exact (List.cons.inj e2).1
  · intro e
    subst e
    exact Str.ext' h.symm
def marked : List (Str × Str) := [("@", "at"), ("b", "box"), ("g", "go")]
/-- the first sign tells the word -/
theorem marked_digit {c : Nat} (h : c ≠ 64 ∧ c ≠ 98 ∧ c ≠ 103) : marked.find? (fun p => decide (p.1 = (⟨#[c]⟩ : Str))) = none := by
  have b : ∀ (s : String) (d : Nat), (Str.ofString s).cps = #[d] → c ≠ d → decide (Str.ofString s = (⟨#[c]⟩ : Str)) = false := fun s d e n => decide_eq_false fun q => n ((sign_eq e).mp q.symm)
  unfold marked
  simp only [List.find?_cons, b "@" 64 (by decide +kernel) h.1, b "b" 98 (by decide +kernel) h.2.1, b "g" 103 (by decide +kernel) h.2.2, List.find?_nil]
theorem tl_nil {z : Str} : tl z = [] ↔ z = "" := by
  constructor
  · intro h
    exact ext_tl (by rw [h]; decide +kernel)
  · intro h
    subst h
    decide +kernel
theorem atI0 {α : Type} (c : α) (r : List α) : atI (c :: r) 0 = some c := by
  simp [atI, ixN]
/-- how a worth's text begins -/
inductive Begins : Wo → Prop
  | digit {w : Wo} {c : Nat} {r : List Nat} (h : w.1 = "num") (n : 0 ≤ w.2) (e : tl (wt w) = numL w.2.natAbs) (e2 : numL w.2.natAbs = c :: r) (c0 : 48 ≤ c) (c1 : c ≤ 57) : Begins w
  | minus {w : Wo} (h : w.1 = "num") (n : w.2 < 0) (e : tl (wt w) = 45 :: numL w.2.natAbs) : Begins w
  | marked {w : Wo} {c : Nat} (n : 0 ≤ w.2) (e : tl (wt w) = c :: numL w.2.natAbs) (m : marked.find? (fun p => decide (p.1 = (⟨#[c]⟩ : Str))) = some (⟨#[c]⟩, w.1)) : Begins w
theorem begins {w : Wo} (g : Good w) : Begins w := by
  have e := tl_wt w
  unfold numT at e
  rcases g.word with h | h
  · rw [h] at e
    by_cases n : w.2 < 0
    · rw [if_pos n] at e
      exact .minus h n e
    · rw [if_neg n] at e
      obtain ⟨c, r, en, c0, c1⟩ := numL_cons w.2.natAbs
      exact .digit h (by omega) e en c0 c1
  · have n : 0 ≤ w.2 := by
      rcases g.low with q | q
      · rw [q] at h
        rcases h with h | h | h <;> exact absurd h (by decide +kernel)
      · exact q
    rw [if_neg (by omega)] at e
    rcases h with h | h | h
    · rw [h] at e
      exact .marked (c := 64) n e (by rw [h]; decide +kernel)
    · rw [h] at e
      exact .marked (c := 98) n e (by rw [h]; decide +kernel)
    · rw [h] at e
      exact .marked (c := 103) n e (by rw [h]; decide +kernel)
theorem begins_not {w : Wo} (b : Begins w) : wt w ≠ "" ∧ wt w ≠ "-0" := by
  have m0 : tl (Str.ofString "-0") = [45, 48] := by decide +kernel
  cases b with
  | @digit c r h n e e2 c0 c1 =>
    refine ⟨fun z => ?_, fun z => ?_⟩
    · have := tl_nil.mpr z
      rw [e, e2] at this
      cases this
    · rw [z, m0, e2] at e
      have := (List.cons.inj e).1
      omega
  | minus h n e =>
    refine ⟨fun z => ?_, fun z => ?_⟩
    · have := tl_nil.mpr z
      rw [e] at this
      cases this
    · rw [z, m0] at e
      have e3 := (List.cons.inj e).2
      have v := numL_val w.2.natAbs
      rw [← e3] at v
      have : w.2.natAbs = 0 := by
        rw [← v]
        rfl
      omega
  | @marked c n e m =>
    refine ⟨fun z => ?_, fun z => ?_⟩
    · have := tl_nil.mpr z
      rw [e] at this
      cases this
    · rw [z, m0] at e
      have e3 := (List.cons.inj e).1
      rw [← e3, marked_digit (by decide)] at m
      cases m
/-! piles as texts -/
def pileText (ws : List Wo) : Str := if ws = [] then "none" else Txt.join " " (ws.map wt)
theorem tl_blank : tl (Str.ofString " ") = [32] := by decide +kernel
theorem tl_pile {ws : List Wo} (h : ws ≠ []) : tl (pileText ws) = joinL [32] (ws.map fun w => tl (wt w)) := by
  unfold pileText
  rw [if_neg h, join_eq, tl_join, tl_blank, List.map_map]
  rfl
theorem signs_wt {w : Wo} (g : Good w) : (∃ c r, tl (wt w) = c :: r ∧ c ≠ 110) ∧ 32 ∉ tl (wt w) := by
  have f := fun n => numL_free (n := n) (s := 32) (.inl (by decide))
  cases begins g with
  | @digit c r h n e e2 c0 c1 =>
    rw [e]
    exact ⟨⟨c, r, e2, by omega⟩, f _⟩
  | minus h n e =>
    rw [e]
    refine ⟨⟨45, _, rfl, by decide⟩, fun m => ?_⟩
    rcases List.mem_cons.mp m with m | m
    · cases m
    · exact f _ m
  | @marked c n e m =>
    have nc : c = 64 ∨ c = 98 ∨ c = 103 := by
      by_cases q : c ≠ 64 ∧ c ≠ 98 ∧ c ≠ 103
      · rw [marked_digit q] at m
        cases m
      · omega
    rw [e]
    refine ⟨⟨c, _, rfl, by omega⟩, fun m => ?_⟩
    rcases List.mem_cons.mp m with m | m
    · omega
    · exact f _ m
theorem joinL_len {k : Nat} : ∀ {ps : List (List Nat)}, (∀ p ∈ ps, p.length ≤ k) → (joinL [32] ps).length ≤ (k + 1) * ps.length
  | [], _ => Nat.zero_le _
  | [p], h => by
    have := h p List.mem_cons_self
    show p.length ≤ _
    simp
    omega
  | p :: q :: r, h => by
    have h1 := h p List.mem_cons_self
    have h2 := joinL_len (ps := q :: r) fun x m => h x (List.mem_cons_of_mem _ m)
    show (p ++ ([32] ++ joinL [32] (q :: r))).length ≤ (k + 1) * (q :: r).length.succ
    rw [List.length_append, List.length_append, Nat.mul_succ]
    simp only [List.length_singleton]
    omega
theorem pile_text_len {ws : List Wo} (g : ∀ w ∈ ws, Good w) (l : ws.length ≤ 1000) : (pileText ws).length ≤ 63000 := by
  by_cases h : ws = []
  · unfold pileText
    rw [if_pos h]
    decide
  · rw [len_tl, tl_pile h]
    have := joinL_len (k := 62) (ps := ws.map fun w => tl (wt w)) fun p m => by
      obtain ⟨w, mw, rfl⟩ := List.mem_map.mp m
      have := wt_len (g w mw)
      rw [len_tl] at this
      exact this
    rw [List.length_map] at this
    omega
theorem pile_not_none {ws : List Wo} (g : ∀ w ∈ ws, Good w) (h : ws ≠ []) : pileText ws ≠ "none" := by
  intro e
  have := tl_pile h
  rw [e] at this
  cases ws with
  | nil => exact h rfl
  | cons w r =>
    obtain ⟨⟨c, q, e2, nc⟩, -⟩ := signs_wt (g w List.mem_cons_self)
    have e3 : tl (Str.ofString "none") = [110, 111, 110, 101] := by decide +kernel
    rw [e3] at this
    cases r with
    | nil =>
      have : [110, 111, 110, 101] = tl (wt w) := this
      rw [e2] at this
      exact nc (List.cons.inj this).1.symm
    | cons w2 r =>
      have : [110, 111, 110, 101] = tl (wt w) ++ ([32] ++ joinL [32] ((w2 :: r).map fun w => tl (wt w))) := this
      rw [e2] at this
      exact nc (List.cons.inj this).1.symm
theorem pile_split {ws : List Wo} (g : ∀ w ∈ ws, Good w) (h : ws ≠ []) : Txt.split (pileText ws) " " = ws.map wt := by
  unfold pileText
  rw [if_neg h]
  refine split_join (y := Str.ofString " ") (s := 32) (S := []) tl_blank (by decide +kernel) (by simpa using h) fun p m => ?_
  obtain ⟨w, mw, rfl⟩ := List.mem_map.mp m
  exact (signs_wt (g w mw)).2
/-- the law's own way: a blank ahead of each -/
def glue (ws : List Wo) : List Nat := (ws.map fun w => 32 :: tl (wt w)).flatten
theorem glue_drop : ∀ {ws : List Wo}, ws ≠ [] → (glue ws).drop 1 = joinL [32] (ws.map fun w => tl (wt w))
  | [], h => absurd rfl h
  | [w], _ => by simp [glue, joinL]
  | w :: v :: r, _ => by
    have ih := glue_drop (ws := v :: r) (by simp)
    have e : glue (w :: v :: r) = 32 :: (tl (wt w) ++ glue (v :: r)) := rfl
    have e2 : glue (v :: r) = 32 :: (glue (v :: r)).drop 1 := rfl
    rw [e, e2, ih]
    rfl
theorem glue_snoc (ws : List Wo) (w : Wo) : glue (ws ++ [w]) = glue ws ++ 32 :: tl (wt w) := by
  unfold glue
  rw [List.map_append, List.flatten_append]
  simp
theorem glue_len {ws : List Wo} (g : ∀ w ∈ ws, Good w) : (glue ws).length ≤ 63 * ws.length := by
  induction ws with
  | nil => exact Nat.zero_le _
  | cons w r ih =>
    have h1 := wt_len (g w List.mem_cons_self)
    rw [len_tl] at h1
    have h2 := ih fun x m => g x (List.mem_cons_of_mem _ m)
    have e : glue (w :: r) = 32 :: (tl (wt w) ++ glue r) := rfl
    rw [e]
    simp only [List.length_cons, List.length_append]
    omega
end G

namespace G
open PySem L2
/-! ### data that can be laid, no deeper than n -/
def Ok (n : Nat) (d : PyData) : Prop := PyData.canLay0 d = true ∧ d.depth ≤ n
theorem Ok.int {n : Nat} (i : Int) : Ok n (.int i) := ⟨rfl, by simp [PyData.depth]⟩
theorem Ok.str {n : Nat} {s : Str} (h : PyData.strOk s = true) : Ok n (.str s) := ⟨by simp [PyData.canLay0, h], by simp [PyData.depth]⟩
def OkAll (n : Nat) (ds : List PyData) : Prop := PyData.canLayAll0 ds = true ∧ PyData.depthAll ds ≤ n
theorem OkAll.nil {n : Nat} : OkAll n [] := ⟨by simp [PyData.canLayAll0], by simp [PyData.depthAll]⟩
theorem OkAll.cons {n : Nat} {d : PyData} {ds : List PyData} (h : Ok n d) (g : OkAll n ds) : OkAll n (d :: ds) := ⟨by simp [PyData.canLayAll0, h.1, g.1], by
  have := h.2
  have := g.2
  simp only [PyData.depthAll]
  omega⟩
theorem OkAll.map {α : Type} {n : Nat} {f : α → PyData} : ∀ {l : List α}, (∀ x ∈ l, Ok n (f x)) → OkAll n (l.map f)
  | [], _ => .nil
  | _ :: _, h => .cons (h _ List.mem_cons_self) (OkAll.map fun y m => h y (List.mem_cons_of_mem _ m))
theorem Ok.list {n : Nat} {ds : List PyData} (h : OkAll n ds) : Ok (n + 1) (.list ds) := ⟨by simp [PyData.canLay0, h.1], by
  have := h.2
  simp only [PyData.depth]
  omega⟩
theorem Ok.tuple {n : Nat} {ds : List PyData} (h : OkAll n ds) : Ok (n + 1) (.tuple ds) := ⟨by simp [PyData.canLay0, h.1], by
  have := h.2
  simp only [PyData.depth]
  omega⟩
theorem Ok.shaped {n : Nat} {d : PyData} (h : Ok n d) (l : n ≤ 64) : SeqAt.shaped d = true := by
  unfold SeqAt.shaped
  rw [h.1, Bool.true_and]
  exact decide_eq_true (Nat.le_trans h.2 l)
theorem Ok.refl {n : Nat} {d : PyData} (h : Ok n d) : PyData.eqv d d = true := PySem.SeqAt.eqv_refl d h.1
theorem ok_wd {w : Wo} (h : PyData.strOk w.1 = true) : Ok 1 (wd w) := .tuple (.cons (.str h) (.cons (.int _) .nil))
/-- two readings of the same data -/
theorem r_neSelf {K : PySem.W.Frag} {H : Hp} {Q : VK} {x y : V} {d : PyData} {n : Nat} (h1 : Dp K H x d) (h2 : Dp K H y d) (o : Ok n d) (l : n ≤ 64) (q : Q (.bl false) H) : rNeD K x y H Q :=
  ⟨d, d, h1, h2, o.shaped l, o.shaped l, by rw [o.refl]; exact q⟩
theorem r_eqSelf {K : PySem.W.Frag} {H : Hp} {Q : VK} {x y : V} {d : PyData} {n : Nat} (h1 : Dp K H x d) (h2 : Dp K H y d) (o : Ok n d) (l : n ≤ 64) (q : Q (.bl true) H) : rEqD K x y H Q :=
  ⟨d, d, h1, h2, o.shaped l, o.shaped l, by rw [o.refl]; exact q⟩
end G

namespace G
open PySem L2 TL
theorem rows_ints_dp {K : PySem.W.Frag} {H : Hp} : ∀ ns : List Int, DpAll K H (ns.map V.int) (ns.map PyData.int)
  | [] => .nil
  | _ :: r => .cons (.int _) (rows_ints_dp r)
/-! ### rows of programs -/
def strsS (l : List Value) : List (Option Str) := l.map keyS
theorem vals_strs : ∀ {l : List Value} {xs : List Str}, strsS l = xs.map some → Vals (xs.map V.str) l
  | [], [], _ => .nil
  | [], _ :: _, h => by cases h
  | _ :: _, [], h => by cases h
  | v :: r, x :: xs, h => by
    have h1 : keyS v :: strsS r = some x :: xs.map some := h
    injection h1 with h2 h3
    obtain ⟨t, rfl⟩ := keyS_of h2
    exact .cons ⟨t, rfl⟩ (vals_strs h3)
/-- a tuple of texts at the module's top -/
def TopT (K : PySem.W.Frag) (a : Addr) (xs : List Str) : Prop := ∃ (o : Obj) (its : Array Value) (n : Nat), K.lookup a = some o ∧ o.cls = .type "tuple" ∧ o.data = .seq its n ∧ its.size ≤ sizeLine ∧ Vals (xs.map V.str) its.toList
theorem TopT.at {K : PySem.W.Frag} {H : Hp} {a : Addr} {xs : List Str} (h : TopT K a xs) : SqT K H a (xs.map V.str) := .inr h
theorem TopT.of {K : PySem.W.Frag} {a : Addr} {d : Option Addr} {its : Array Value} {n : Nat} {sl : Array (Option Value)} {xs : List Str} (l : K.lookup a = some ⟨.type "tuple", d, .seq its n, sl⟩) (h : strsS its.toList = xs.map some) (hz : xs.length ≤ 100) : TopT K a xs := by
  refine ⟨_, its, n, l, rfl, rfl, ?_, vals_strs h⟩
  have := congrArg List.length h
  unfold strsS at this
  rw [List.length_map, List.length_map, Array.length_toList] at this
  exact sz (by omega)
theorem inV_strs (s : Str) (xs : List Str) : inV (.str s) (xs.map V.str) = decide (s ∈ xs) := by
  unfold inV
  rw [List.any_map, Bool.eq_iff_iff, List.any_eq_true, decide_eq_true_eq]
  constructor
  · rintro ⟨y, my, e⟩
    have : y = s := by simpa [eqV] using e
    exact this ▸ my
  · intro m
    exact ⟨s, m, by simp [eqV]⟩
def reaching : List Str := ["pick", "drop", "lift", "go", "back"]
def leading : List Str := ["keep", "call", "jump", "if"]
def bare : List Str := ["add", "less", "box", "get", "set", "tell", "sweep"]
abbrev Row := Str × Option Int
def rowV (r : Row) : List V := .str r.1 :: (match r.2 with | none => [] | some n => [.int n])
def RowAt (H : Hp) (v : V) (r : Row) : Prop := ∃ a, v = .ref a ∧ H a = some (.tup (rowV r))
theorem RowAt.same {H H' : Hp} {v : V} {r : Row} (s : Same H H') (h : RowAt H v r) : RowAt H' v r := by
  obtain ⟨a, e, h⟩ := h
  exact ⟨a, e, s _ _ h⟩
inductive GoodRow (many : Int) : Row → Prop
  | bare {s : Str} (h : s ∈ bare) : GoodRow many (s, none)
  | put {n : Int} (l : -(10 ^ 60) < n) (h : n < 10 ^ 60) : GoodRow many ("put", some n)
  | reach {s : Str} {n : Int} (h : s ∈ reaching) (l : 0 ≤ n) (u : n < 10 ^ 60) : GoodRow many (s, some n)
  | lead {s : Str} {n : Int} (h : s ∈ leading) (l : 0 ≤ n) (u : n ≤ many) (m : many ≤ 1000) : GoodRow many (s, some n)
/-! rows as texts -/
def parts (r : Row) : List Str := r.1 :: (match r.2 with | none => [] | some n => [Str.ofString (toString n)])
def rowText (r : Row) : Str := Txt.join " " (parts r)
def progText (rs : List Row) : Str := Txt.join "; " (rs.map rowText)
theorem tl_part : tl (Str.ofString "; ") = [59, 32] := by decide +kernel
/-- small letters -/
def Small (s : Str) : Prop := 1 ≤ s.length ∧ s.length ≤ 10 ∧ ∀ c ∈ tl s, 97 ≤ c ∧ c ≤ 122
def allWords : List Str := "put" :: (reaching ++ leading ++ bare)
theorem small_all : ∀ s ∈ allWords, (decide (1 ≤ s.length) && decide (s.length ≤ 10) && (tl s).all fun c => decide (97 ≤ c) && decide (c ≤ 122)) = true := by decide +kernel
theorem small_of {s : Str} (h : s ∈ allWords) : Small s := by
  have := small_all s h
  simp only [Bool.and_eq_true, decide_eq_true_eq, List.all_eq_true] at this
  exact ⟨this.1.1, this.1.2, this.2⟩
theorem GoodRow.small {m : Int} {r : Row} (g : GoodRow m r) : Small r.1 := by
  cases g with
  | bare h => exact small_of (List.mem_cons_of_mem _ (List.mem_append_right _ h))
  | put l h => exact small_of List.mem_cons_self
  | reach h l u => exact small_of (List.mem_cons_of_mem _ (List.mem_append_left _ (List.mem_append_left _ h)))
  | lead h l u m => exact small_of (List.mem_cons_of_mem _ (List.mem_append_left _ (List.mem_append_right _ h)))
theorem GoodRow.num {m : Int} {r : Row} (g : GoodRow m r) {n : Int} (e : r.2 = some n) : -(10 ^ 60) < n ∧ n < 10 ^ 60 := by
  have p60 : (1000 : Int) < 10 ^ 60 := by decide +kernel
  cases g with
  | bare h => cases e
  | put l h =>
    cases e
    exact ⟨l, h⟩
  | reach h l u =>
    cases e
    exact ⟨by omega, u⟩
  | lead h l u m =>
    cases e
    exact ⟨by omega, by omega⟩
theorem numT_signs {n : Int} {c : Nat} (h : c ∈ numT n) : c = 45 ∨ (48 ≤ c ∧ c ≤ 57) := by
  unfold numT at h
  split at h
  · rcases List.mem_cons.mp h with e | m
    · exact .inl e
    · exact .inr (numL_digits _ c m)
  · exact .inr (numL_digits _ c h)
/-- the signs of a row's parts: no blank, no ; -/
theorem part_signs {m : Int} {r : Row} (g : GoodRow m r) : ∀ p ∈ parts r, 1 ≤ p.length ∧ p.length ≤ 61 ∧ ∀ c ∈ tl p, c ≠ 32 ∧ c ≠ 59 := by
  intro p mp
  have s := g.small
  rcases List.mem_cons.mp mp with e | mp
  · rw [e]
    exact ⟨s.1, by have := s.2.1; omega, fun c mc => by have := s.2.2 c mc; omega⟩
  · obtain ⟨w, o⟩ := r
    cases o with
    | none => cases mp
    | some n =>
      have b := g.num rfl
      rw [List.mem_singleton.mp mp]
      refine ⟨?_, num_len b.1 b.2, fun c mc => ?_⟩
      · rw [len_tl, tl_int]
        unfold numT
        have := numL_ne n.natAbs
        split
        · simp
        · exact List.length_pos_iff.mpr this
      · rw [tl_int] at mc
        have := numT_signs mc
        omega
theorem parts_ne (r : Row) : parts r ≠ [] := by
  unfold parts
  simp
theorem row_split {m : Int} {r : Row} (g : GoodRow m r) : Txt.split (rowText r) " " = parts r :=
  split_join (y := Str.ofString " ") (s := 32) (S := []) tl_blank (by decide +kernel) (parts_ne r) fun p mp hc => ((part_signs g p mp).2.2 32 hc).1 rfl
theorem joinL_mem {S : List Nat} {c : Nat} : ∀ {ps : List (List Nat)}, c ∈ joinL S ps → c ∈ S ∨ ∃ p ∈ ps, c ∈ p
  | [], h => by cases h
  | [p], h => .inr ⟨p, List.mem_cons_self, h⟩
  | p :: q :: r, h => by
    have h : c ∈ p ++ (S ++ joinL S (q :: r)) := h
    rcases List.mem_append.mp h with h | h
    · exact .inr ⟨p, List.mem_cons_self, h⟩
    rcases List.mem_append.mp h with h | h
    · exact .inl h
    · rcases joinL_mem h with h | ⟨x, mx, h⟩
      · exact .inl h
      · exact .inr ⟨x, List.mem_cons_of_mem _ mx, h⟩
theorem tl_row (r : Row) : tl (rowText r) = joinL [32] ((parts r).map tl) := by
  unfold rowText
  rw [join_eq, tl_join, tl_blank]
theorem row_signs {m : Int} {r : Row} (g : GoodRow m r) : 59 ∉ tl (rowText r) := by
  intro h
  rw [tl_row] at h
  rcases joinL_mem h with h | ⟨p, mp, h⟩
  · cases List.mem_singleton.mp h
  · obtain ⟨q, mq, rfl⟩ := List.mem_map.mp mp
    exact ((part_signs g q mq).2.2 59 h).2 rfl
theorem prog_split {m : Int} {rs : List Row} (g : ∀ r ∈ rs, GoodRow m r) (h : rs ≠ []) : Txt.split (progText rs) "; " = rs.map rowText :=
  split_join (y := Str.ofString "; ") (s := 59) (S := [32]) tl_part (by decide +kernel) (by simpa using h) fun p mp => by
    obtain ⟨r, mr, rfl⟩ := List.mem_map.mp mp
    exact row_signs (g r mr)
theorem joinS_len {S : List Nat} {k : Nat} : ∀ {ps : List (List Nat)}, (∀ p ∈ ps, p.length ≤ k) → (joinL S ps).length ≤ (k + S.length) * ps.length
  | [], _ => Nat.zero_le _
  | [p], h => by
    have := h p List.mem_cons_self
    show p.length ≤ _
    simp
    omega
  | p :: q :: r, h => by
    have h1 := h p List.mem_cons_self
    have h2 := joinS_len (S := S) (ps := q :: r) fun x m => h x (List.mem_cons_of_mem _ m)
    show (p ++ (S ++ joinL S (q :: r))).length ≤ (k + S.length) * (q :: r).length.succ
    rw [List.length_append, List.length_append, Nat.mul_succ]
    omega
theorem row_len {m : Int} {r : Row} (g : GoodRow m r) : (rowText r).length ≤ 124 := by
  rw [len_tl, tl_row]
  have := joinS_len (S := [32]) (k := 61) (ps := (parts r).map tl) fun p mp => by
    obtain ⟨q, mq, rfl⟩ := List.mem_map.mp mp
    have := (part_signs g q mq).2.1
    rw [len_tl] at this
    exact this
  have l : (parts r).length ≤ 2 := by
    unfold parts
    obtain ⟨w, o⟩ := r
    cases o <;> simp
  rw [List.length_map] at this
  simp only [List.length_singleton] at this
  omega
theorem tl_prog (rs : List Row) : tl (progText rs) = joinL [59, 32] (rs.map fun r => tl (rowText r)) := by
  unfold progText
  rw [join_eq, tl_join, tl_part, List.map_map]
  rfl
theorem prog_len {m : Int} {rs : List Row} (g : ∀ r ∈ rs, GoodRow m r) (l : rs.length ≤ 100) : (progText rs).length ≤ 12600 := by
  rw [len_tl, tl_prog]
  have := joinS_len (S := [59, 32]) (k := 124) (ps := rs.map fun r => tl (rowText r)) fun p mp => by
    obtain ⟨r, mr, rfl⟩ := List.mem_map.mp mp
    have := row_len (g r mr)
    rw [len_tl] at this
    exact this
  rw [List.length_map] at this
  simp only [List.length_cons, List.length_nil] at this
  omega
theorem prog_nil {rs : List Row} {m : Int} (g : ∀ r ∈ rs, GoodRow m r) : progText rs = "" ↔ rs = [] := by
  constructor
  · intro h
    cases rs with
    | nil => rfl
    | cons r q =>
      exfalso
      have s := (g r List.mem_cons_self).small.1
      have e := tl_nil.mpr h
      rw [tl_prog] at e
      have l : 1 ≤ (tl (rowText r)).length := by
        rw [tl_row]
        have e1 : (parts r).map tl = tl r.1 :: (match r.2 with | none => [] | some n => [Str.ofString (toString n)]).map tl := rfl
        rw [e1]
        rw [len_tl] at s
        cases (match r.2 with | none => [] | some n => [Str.ofString (toString n)]).map tl with
        | nil => exact s
        | cons a b =>
          show 1 ≤ (tl r.1 ++ ([32] ++ joinL [32] (a :: b))).length
          rw [List.length_append]
          omega
      cases q with
      | nil =>
        have e : tl (rowText r) = [] := e
        rw [e] at l
        exact absurd l (by decide)
      | cons r2 q =>
        have e : tl (rowText r) ++ ([59, 32] ++ joinL [59, 32] ((r2 :: q).map fun r => tl (rowText r))) = [] := e
        rw [List.append_eq_nil_iff] at e
        rw [e.1] at l
        exact absurd l (by decide)
  · intro h
    subst h
    rfl
theorem row_item {r : Row} {k : Nat} {x : V} (h : (rowV r)[k]? = some x) : ∃ p, (parts r)[k]? = some p ∧ (x = .str p ∨ ∃ n, x = .int n ∧ p = Str.ofString (toString n) ∧ r.2 = some n) := by
  obtain ⟨w, o⟩ := r
  cases o with
  | none =>
    cases k with
    | zero =>
      cases h
      exact ⟨w, rfl, .inl rfl⟩
    | succ k => cases h
  | some n =>
    cases k with
    | zero =>
      cases h
      exact ⟨w, rfl, .inl rfl⟩
    | succ k =>
      cases k with
      | zero =>
        cases h
        exact ⟨_, rfl, .inr ⟨n, rfl, rfl, rfl⟩⟩
      | succ k => cases h
theorem rowV_len (r : Row) : (rowV r).length = (parts r).length := by
  obtain ⟨w, o⟩ := r
  cases o <;> rfl
theorem parts_le (r : Row) : (parts r).length ≤ 2 := by
  obtain ⟨w, o⟩ := r
  cases o <;> simp [parts]
theorem wt_num (n : Int) : wt ("num", n) = Str.ofString (toString n) := by
  refine ext_tl ?_
  rw [tl_wt, tl_int]
  have : tl (markOf (Str.ofString "num")) = [] := by decide +kernel
  show tl (markOf (Str.ofString "num")) ++ _ = _
  rw [this]
  rfl
theorem row_text1 (s : Str) : rowText (s, none) = s := by
  refine ext_tl ?_
  rw [tl_row]
  rfl
theorem row_text2 (s : Str) (n : Int) : rowText (s, some n) = s ++ " " ++ Str.ofString (toString n) := by
  refine ext_tl ?_
  rw [tl_row, tl_append, tl_append, tl_blank, List.append_assoc]
  rfl
def nums (r : Row) : List Int := match r.2 with | none => [] | some n => [n]
theorem cut1 (xs : List V) : cutV xs (some 1) none = xs.drop 1 := by
  unfold cutV
  rw [HT.sIx_none, show (1 : Int) = ((1 : Nat) : Int) from rfl, HT.sIx_nat]
  by_cases h : 1 ≤ xs.length
  · rw [Nat.min_eq_left h]
    exact List.take_of_length_le (by rw [List.length_drop]; exact Nat.le_refl _)
  · have : xs = [] := List.eq_nil_of_length_eq_zero (by omega)
    subst this
    rfl
theorem parts_tail (r : Row) : ((parts r).map V.str).drop 1 = ((nums r).map fun n => wt ("num", n)).map V.str := by
  obtain ⟨w, o⟩ := r
  cases o with
  | none => rfl
  | some n =>
    show [V.str (Str.ofString (toString n))] = [V.str (wt ("num", n))]
    rw [wt_num]
theorem rowV_nums (r : Row) : rowV r = .str r.1 :: (nums r).map V.int := by
  obtain ⟨w, o⟩ := r
  cases o <;> rfl
theorem good_num {n : Int} (l : -(10 ^ 60) < n) (u : n < 10 ^ 60) : Good ("num", n) := ⟨.inl rfl, .inl rfl, l, u⟩
/-! rows as data -/
def rowd (r : Row) : PyData := .tuple (.str r.1 :: (nums r).map PyData.int)
theorem RowAt.dp {K : PySem.W.Frag} {H : Hp} {v : V} {r : Row} (h : RowAt H v r) : Dp K H v (rowd r) := by
  obtain ⟨a, rfl, e⟩ := h
  rw [rowV_nums] at e
  exact .tup (.inl (.inl e)) (.cons (.str _) (rows_ints_dp _))
theorem rows_dp {K : PySem.W.Frag} {H : Hp} : ∀ {xs : List V} {rs : List Row}, Paired (RowAt H) xs rs → DpAll K H xs (rs.map rowd)
  | _, _, .nil => .nil
  | _, _, .cons a b => .cons a.dp (rows_dp b)
theorem small_ok {s : Str} (h : Small s) : PyData.strOk s = true := by
  unfold PyData.strOk
  rw [← Array.all_toList, List.all_eq_true]
  intro c mc
  have := h.2.2 c mc
  exact decide_eq_true (by omega)
theorem row_ok {m : Int} {r : Row} (g : GoodRow m r) : Ok 2 (rowd r) := .tuple (.cons (.str (small_ok g.small)) (.map fun n _ => .int n))
end G

namespace G
open PySem L2
/-! ### papers of pieces, as they stand in the heap -/
/-- the heap without the addresses ns: what stands there may change -/
def del (ns : List Addr) (H : Hp) : Hp := fun a => if a ∈ ns then none else H a
section
variable {ns : List Addr} {H H' : Hp} {a p : Addr} {o : HO}
theorem del_at (h : H a = some o) (n : a ∉ ns) : del ns H a = some o := by
  unfold del
  rw [if_neg n]
  exact h
theorem of_del (h : del ns H a = some o) : H a = some o ∧ a ∉ ns := by
  unfold del at h
  by_cases m : a ∈ ns
  · rw [if_pos m] at h
    cases h
  · rw [if_neg m] at h
    exact ⟨h, m⟩
theorem del_sub : Same (del ns H) H := fun b u e => (of_del e).1
theorem del_keep (h : ∀ b u, H b = some u → b ∉ ns → H' b = some u) : Same (del ns H) (del ns H') := fun b u e => by
  obtain ⟨h1, h2⟩ := of_del e
  exact del_at (h b u h1 h2) h2
theorem del_same (h : Same H H') : Same (del ns H) (del ns H') := del_keep fun b u e _ => h b u e
theorem del_but (h : But p H H') (m : p ∈ ns) : Same (del ns H) (del ns H') := del_keep fun b u e n => h b u e fun q => n (q ▸ m)
theorem del_upd (m : p ∈ ns) : Same (del ns H) (del ns (upd H p o)) := del_but But.upd m
/-- a new object whose address is to be left out from now on -/
theorem del_more (h : H a = none) : Same (del ns H) (del (a :: ns) H) := fun b u e => by
  obtain ⟨h1, h2⟩ := of_del e
  exact del_at h1 fun m => by
    rcases List.mem_cons.mp m with q | q
    · subst q
      rw [h] at h1
      cases h1
    · exact h2 q
theorem del_less : Same (del (a :: ns) H) (del ns H) := fun b u e => by
  obtain ⟨h1, h2⟩ := of_del e
  exact del_at h1 fun m => h2 (List.mem_cons_of_mem _ m)
end
/-- a list of lists of worths -/
def PileV (H : Hp) (v : V) (ws : List Wo) : Prop := ∃ l, v = .ref l ∧ PileAt H l ws
theorem vint {a b : Int} : (V.int a = V.int b) ↔ a = b := ⟨fun h => V.int.inj h, fun h => by rw [h]⟩
theorem dint {a b : Int} : decide (V.int a = V.int b) = decide (a = b) := decide_eq_decide.mpr vint
abbrev Pc := Int × List Wo
/-- a piece: a tuple of what it lies on and its worths -/
def PcAt (H : Hp) (v : V) (pc : Pc) : Prop := ∃ t l, v = .ref t ∧ H t = some (.tup [.int pc.1, .ref l]) ∧ PileAt H l pc.2
def PcsAt (H : Hp) (a : Addr) (pcs : List Pc) : Prop := ∃ xs, H a = some (.lst xs) ∧ Paired (PcAt H) xs pcs
def PilesAt (H : Hp) (a : Addr) (ps : List (List Wo)) : Prop := ∃ xs, H a = some (.lst xs) ∧ Paired (PileV H) xs ps
def IntsAt (H : Hp) (a : Addr) (ns : List Int) : Prop := H a = some (.lst (ns.map V.int))
def PaperAt (H : Hp) (v : V) (pcs : List Pc) (tops : List Int) : Prop := ∃ t a b, v = .ref t ∧ H t = some (.tup [.ref a, .ref b]) ∧ PcsAt H a pcs ∧ IntsAt H b tops
section
variable {H H' : Hp} {v : V} {a : Addr}
theorem PileV.same {ws : List Wo} (s : Same H H') (h : PileV H v ws) : PileV H' v ws := by
  obtain ⟨l, e, h⟩ := h
  exact ⟨l, e, h.same s⟩
theorem PcAt.same {pc : Pc} (s : Same H H') (h : PcAt H v pc) : PcAt H' v pc := by
  obtain ⟨t, l, e, h1, h2⟩ := h
  exact ⟨t, l, e, s _ _ h1, h2.same s⟩
theorem PcsAt.same {pcs : List Pc} (s : Same H H') (h : PcsAt H a pcs) : PcsAt H' a pcs := by
  obtain ⟨xs, e, h⟩ := h
  exact ⟨xs, s _ _ e, Paired.mapP h fun _ _ => PcAt.same s⟩
theorem PilesAt.same {pcs : List (List Wo)} (s : Same H H') (h : PilesAt H a pcs) : PilesAt H' a pcs := by
  obtain ⟨xs, e, h⟩ := h
  exact ⟨xs, s _ _ e, Paired.mapP h fun _ _ => PileV.same s⟩
theorem IntsAt.same {ns : List Int} (s : Same H H') (h : IntsAt H a ns) : IntsAt H' a ns := s _ _ h
theorem PaperAt.same {pcs : List Pc} {tops : List Int} (s : Same H H') (h : PaperAt H v pcs tops) : PaperAt H' v pcs tops := by
  obtain ⟨t, a, b, e, h1, h2, h3⟩ := h
  exact ⟨t, a, b, e, s _ _ h1, h2.same s, h3.same s⟩
end
theorem paired_len {α β : Type} {F : α → β → Prop} {xs : List α} {ys : List β} (h : Paired F xs ys) : xs.length = ys.length := by
  induction h with
  | nil => rfl
  | cons _ _ ih => rw [List.length_cons, List.length_cons, ih]
theorem paired_app {α β : Type} {F : α → β → Prop} {xs zs : List α} {ys us : List β} (h : Paired F xs ys) (g : Paired F zs us) : Paired F (xs ++ zs) (ys ++ us) := by
  induction h with
  | nil => exact g
  | cons a _ ih => exact .cons a ih
theorem paired_get {α β : Type} {F : α → β → Prop} : ∀ {xs : List α} {ys : List β} {i : Nat} {v : α}, Paired F xs ys → xs[i]? = some v → ∃ w, ys[i]? = some w ∧ F v w
  | _, _, _, _, .nil, e => by cases e
  | _, _, 0, _, .cons a _, e => ⟨_, rfl, by rw [← Option.some.inj e]; exact a⟩
  | _, _, i + 1, _, .cons _ b, e => paired_get (i := i) b e
theorem paired_at {α β : Type} {F : α → β → Prop} : ∀ {xs : List α} {ys : List β} {i : Nat} {w : β}, Paired F xs ys → ys[i]? = some w → ∃ v, xs[i]? = some v ∧ F v w
  | _, _, _, _, .nil, e => by cases e
  | _, _, 0, _, .cons a _, e => ⟨_, rfl, by rw [← Option.some.inj e]; exact a⟩
  | _, _, i + 1, _, .cons _ b, e => paired_at (i := i) b e
/-- the pile of the piece u, by the piles up to each piece -/
def pileAt (piles : List (List Wo)) (u : Int) : List Wo := if 0 ≤ u then piles.getD u.toNat [] else []
/-- what the law draws: pieces that lie on earlier ones, the piles up to each, tops -/
structure Raw (size : Int) (most : Nat) (raw : List Pc) (piles : List (List Wo)) (tops : List Int) : Prop where
  len : raw.length ≤ most
  plen : piles.length = raw.length
  pc : ∀ (i : Nat) (x : Pc), raw[i]? = some x → -1 ≤ x.1 ∧ x.1 < i ∧ 1 ≤ x.2.length ∧ (x.2.length : Int) ≤ size
  pile : ∀ (i : Nat) (x : Pc), raw[i]? = some x → piles[i]? = some (pileAt piles x.1 ++ x.2)
  tlen : tops.length ≤ 100
  top : ∀ t ∈ tops, -1 ≤ t ∧ t < raw.length
/-- as far as the pieces go -/
structure Raw0 (size : Int) (raw : List Pc) (piles : List (List Wo)) : Prop where
  plen : piles.length = raw.length
  pc : ∀ (i : Nat) (x : Pc), raw[i]? = some x → -1 ≤ x.1 ∧ x.1 < i ∧ 1 ≤ x.2.length ∧ (x.2.length : Int) ≤ size
  pile : ∀ (i : Nat) (x : Pc), raw[i]? = some x → piles[i]? = some (pileAt piles x.1 ++ x.2)
  hi : ∀ (i : Nat) (ws : List Wo), piles[i]? = some ws → (ws.length : Int) ≤ size * (i + 1)
theorem Raw0.nil (size : Int) : Raw0 size [] [] := ⟨rfl, fun i x h => by simp at h, fun i x h => by simp at h, fun i x h => by simp at h⟩
theorem pileAt_snoc {piles : List (List Wo)} {u : Int} (ws : List Wo) (h : u < piles.length) : pileAt (piles ++ [ws]) u = pileAt piles u := by
  unfold pileAt
  by_cases h0 : 0 ≤ u
  · rw [if_pos h0, if_pos h0, List.getD_eq_getElem?_getD, List.getD_eq_getElem?_getD, List.getElem?_append_left (by omega)]
  · rw [if_neg h0, if_neg h0]
theorem Raw0.snoc {size : Int} {raw : List Pc} {piles : List (List Wo)} (h : Raw0 size raw piles) {u : Int} {ws : List Wo} (h0 : -1 ≤ u) (h1 : u < raw.length) (h2 : 1 ≤ ws.length) (h3 : (ws.length : Int) ≤ size) (hs : 0 ≤ size) :
    Raw0 size (raw ++ [(u, ws)]) (piles ++ [pileAt piles u ++ ws]) := by
  have pl := h.plen
  have at0 : ∀ {i : Nat} {x : Pc}, (raw ++ [(u, ws)])[i]? = some x → (raw[i]? = some x ∧ i < raw.length) ∨ (i = raw.length ∧ x = (u, ws)) := by
    intro i x e
    by_cases c : i < raw.length
    · rw [List.getElem?_append_left c] at e
      exact .inl ⟨e, c⟩
    · rw [List.getElem?_append_right (by omega)] at e
      have z : i - raw.length = 0 := by
        cases q : i - raw.length with
        | zero => rfl
        | succ k =>
          rw [q] at e
          simp at e
      rw [z] at e
      exact .inr ⟨by omega, (Option.some.inj e).symm⟩
  refine ⟨by rw [List.length_append, List.length_append, pl]; rfl, fun i x e => ?_, fun i x e => ?_, fun i zs e => ?_⟩
  · rcases at0 e with ⟨e, _⟩ | ⟨rfl, rfl⟩
    · exact h.pc i x e
    · exact ⟨h0, h1, h2, h3⟩
  · rcases at0 e with ⟨e, c⟩ | ⟨rfl, rfl⟩
    · have q := h.pc i x e
      rw [List.getElem?_append_left (by omega), pileAt_snoc _ (by omega)]
      exact h.pile i x e
    · rw [← pl, List.getElem?_append_right (Nat.le_refl _), Nat.sub_self, pileAt_snoc _ (by omega)]
      rfl
  · by_cases c : i < piles.length
    · rw [List.getElem?_append_left c] at e
      exact h.hi i zs e
    · rw [List.getElem?_append_right (by omega)] at e
      have z : i - piles.length = 0 := by
        cases q : i - piles.length with
        | zero => rfl
        | succ k =>
          rw [q] at e
          simp at e
      rw [z] at e
      have e := Option.some.inj e
      subst e
      rw [List.length_append]
      have ei : i = piles.length := by omega
      have key : ((pileAt piles u).length : Int) ≤ size * i := by
        unfold pileAt
        by_cases c0 : 0 ≤ u
        · rw [if_pos c0, List.getD_eq_getElem?_getD]
          have lt : u.toNat < piles.length := by omega
          rw [List.getElem?_eq_getElem lt]
          have q := h.hi u.toNat _ (List.getElem?_eq_getElem lt)
          refine Int.le_trans q ?_
          exact Int.mul_le_mul_of_nonneg_left (by omega) hs
        · rw [if_neg c0]
          have := Int.mul_nonneg hs (show (0 : Int) ≤ i by omega)
          simpa using this
      have e3 : size * ((i : Int) + 1) = size * i + size := by rw [Int.mul_add, Int.mul_one]
      rw [e3]
      omega
theorem wos_del {ns : List Addr} {H : Hp} {xs : List V} {ws : List Wo} (h : Wos H xs ws) (k : ∀ a ∈ ns, ∃ ys, H a = some (.lst ys)) : Wos (del ns H) xs ws :=
  Paired.mapP h fun v w ⟨a, e, q, o⟩ => ⟨a, e, del_at q (fun m => by
    obtain ⟨ys, z⟩ := k a m
    rw [q] at z
    exact absurd z (by simp)), o⟩
theorem BagAt.lst {H : Hp} {p : Addr} {n : Nat} (h : BagAt H p n) : ∃ ys, H p = some (.lst ys) := by
  obtain ⟨a, b, c, e, _⟩ := h
  exact ⟨_, e⟩
end G

namespace G
open PySem L2
/-! ### wells: three whole numbers; the second one below 10 ^ 42, the third one counts -/
def WellAt (H : Hp) (p : Addr) (n : Nat) : Prop := ∃ a b c : Int, H p = some (.lst [.int a, .int b, .int c]) ∧ 0 ≤ a ∧ 0 ≤ b ∧ b < 1000000000000000000000000000000000000000000 ∧ 0 ≤ c ∧ c ≤ n
theorem WellAt.mono {H : Hp} {p : Addr} {n m : Nat} (h : WellAt H p n) (l : n ≤ m) : WellAt H p m := by
  obtain ⟨a, b, c, e, h0, h1, h2, h3, h4⟩ := h
  exact ⟨a, b, c, e, h0, h1, h2, h3, by omega⟩
theorem WellAt.lst {H : Hp} {p : Addr} {n : Nat} (h : WellAt H p n) : ∃ ys, H p = some (.lst ys) := by
  obtain ⟨a, b, c, e, _⟩ := h
  exact ⟨_, e⟩
theorem WellAt.there {H : Hp} {p : Addr} {n : Nat} (h : WellAt H p n) : H p ≠ none := by
  obtain ⟨a, b, c, e, _⟩ := h
  rw [e]
  simp
theorem WellAt.same {H H' : Hp} {p : Addr} {n : Nat} (h : WellAt H p n) (s : Same H H') : WellAt H' p n := by
  obtain ⟨a, b, c, e, r⟩ := h
  exact ⟨a, b, c, s _ _ e, r⟩
end G

namespace Q
open PySem L2 G TL
def top (i : Nat) : Stmt := PySem.Challenge.pw_manygoings_k56_programs_written_and_read.main.body.getD i (.Pass ⟨0, 0, 0, 0⟩)
section
variable {P : Program} {w : World} {K : PySem.W.Frag} {mg : Str → Option Value} {base : Heap}

/-! ### is_whole -/
abbrev s_is_whole : Stmt := top 7
theorem sc_is_whole : FnScope ["thing"] ["thing"] (defScope s_is_whole) := ⟨rfl, rfl, rfl, by decide +kernel, rfl, by decide +kernel, by decide +kernel⟩
def sp_is_whole (K : PySem.W.Frag) : Sp := fun vs H Q _ => ∃ (v : V) (T : String), vs = [v] ∧ TyX K H v (.type T) ∧ T ∈ kinds7 ∧ Q (.bl (T == "int")) H
theorem ok_is_whole {fa : Addr} {fd : FuncData} (F : Fun K "is_whole" "is_whole" s_is_whole fa fd) (TX : Tx mg) :
    FnOk P w K mg base CX0 1 fa fd ["thing"] (sp_is_whole K) := by
  refine F.ok sc_is_whole (fun vs H Q E h => ?_) (fun cdv A outer s H vs Q E hr h => ?_)
  · obtain ⟨v, T, rfl, hT, hm, q⟩ := h
    rfl
  · obtain ⟨v, T, rfl, hT, hm, q⟩ := h
    have hu := hu_of hr
    have hu64 := hr.units
    have hu65 := hu65_of hr
    rw [← whole_of T hm] at q
    refine ⟨_, (pss_one (ps_ret (pe_and (pe_callB call_isi (by rfl) TX.n_isinstance (by decide +kernel) (pa_cons (pv 0) (pa_cons (pe_bltn (v := .ty "int") (by rfl) TX.n_int (by decide +kernel) rfl) pa_nil))) (pe_one (pe_not (pe_callB call_isi (by rfl) TX.n_isinstance (by decide +kernel) (pa_cons (pv 0) (pa_cons (pe_bltn (v := .ty "bool") (by rfl) TX.n_bool (by decide +kernel) rfl) pa_nil)))))))), ?_⟩
    refine r_begin (show L2.start _ _ = [some _] from rfl) ?_
    try dsimp only [cxOf]
    walk_at "rr"
    refine r_isi hT (kit_int T hm) ?_
    walk_at "rr"
    refine r_ite (fun hc => ?_) (fun hc => ?_)
    · walk_at "rr"
      refine r_isi hT (kit_bool T hm) ?_
      walk_at "rr"
      rw [hc, Bool.true_and] at q
      exact q
    · rw [hc, Bool.false_and] at q
      exact q
/-! ### read_figures -/
abbrev s_read_figures : Stmt := top 8
theorem sc_read_figures : FnScope ["text", "sign"] ["text"] (defScope s_read_figures) := ⟨rfl, rfl, rfl, by decide +kernel, rfl, by decide +kernel, by decide +kernel⟩
def sp_read_figures (_ : PySem.W.Frag) : Sp := fun vs H Q _ => ∃ (z : Str) (n : Nat), vs = [.str z] ∧ tl z = numL n ∧ (numL n).length ≤ 60 ∧ Q (.int (n : Int)) H
theorem ok_read_figures {fa : Addr} {fd : FuncData} (F : Fun K "read_figures" "read_figures" s_read_figures fa fd) (TX : Tx mg)
    {tFi tMo : Tok}
    (g_FIGURES : mg "FIGURES" = some (.str "0123456789" tFi))
    (g_MOST : mg "MOST" = some (.int 60 tMo)) :
    FnOk P w K mg base CX0 1 fa fd ["text"] (sp_read_figures K) := by
  refine F.ok sc_read_figures (fun vs H Q E h => ?_) (fun cdv A outer s H vs Q E hr h => ?_)
  · obtain ⟨z, n, rfl, ez, hn, q⟩ := h
    rfl
  · obtain ⟨z, n, rfl, ez, hn, q⟩ := h
    have hu := hu_of hr
    have hu64 := hr.units
    have hu65 := hu65_of hr
    obtain ⟨c, r, en, c0, c1⟩ := numL_cons n
    have lz : z.length = (numL n).length := by rw [len_tl, ez]
    have l1 : 1 ≤ (numL n).length := by rw [en]; simp
    refine ⟨_, (pss_cons (ps_if (PW.pt (pw_or (pt_not (pt_val (pe_callB call_isi (by rfl) TX.n_isinstance (by decide +kernel) (pa_cons (pv 0) (pa_cons (pe_bltn (v := .ty "str") (by rfl) TX.n_str (by decide +kernel) rfl) pa_nil))))) (pw_or (pt_cmpR op_eq (pv 0) pe_str (nomark _)) (pw_or1 (pt_cmpR op_gt (pe_callB call_len (by rfl) TX.n_len (by decide +kernel) (pa_cons (pv 0) pa_nil)) (pe_glob (v := .int _) (by rfl) g_MOST ⟨_, rfl⟩) (nomark _)))))) (pss_one ps_never) pss_nil)
  (pss_cons (ps_for PassesOwn.never rfl (pi_str (pv 0)) (pg_name (i := 1) sc_read_figures.nd rfl (Or.inl rfl))
  (pss_one (ps_if (pt_cmpR op_notIn_sign (pv 1) (pe_glob (v := .str _) (by rfl) g_FIGURES ⟨_, rfl⟩) rfl) (pss_one ps_never) pss_nil)))
  (pss_cons (ps_if (PW.pt (pw_and (pt_cmpR op_eq (pe_ix ix_str (pv 0) pe_int (fun _ _ => rfl)) pe_str (nomark _)) (pw_and1 (pt_cmpR op_gt (pe_callB call_len (by rfl) TX.n_len (by decide +kernel) (pa_cons (pv 0) pa_nil)) pe_int (nomark _))))) (pss_one ps_never) pss_nil)
  (pss_one (ps_ret (pe_callTy call_int_str (by rfl) TX.n_int (by decide +kernel) (pa_cons (pv 0) pa_nil))))))), ?_⟩
    refine r_begin (show L2.start _ _ = [some _, none] from rfl) ?_
    try dsimp only [cxOf]
    walk_at "rr"
    refine r_isi ty_str (kit_str _ (by decide)) ?_
    walk_at "rr"
    refine r_itF rfl ?_
    walk_at "rr"
    rw [dstr]
    refine r_itF (decide_eq_false fun e => ?_) ?_
    · have := tl_nil.mpr e
      rw [ez] at this
      exact numL_ne n this
    walk_at "rr"
    refine r_lenS (sz (by omega)) ?_
    walk_at "rr"
    refine r_itF (decide_eq_false (by omega)) ?_
    walk_at "rr"
    refine ⟨z, rfl, ?_⟩
    refine L_it walk_str (fun i σ H1 => ∃ u, σ = [some (.str z), u] ∧ H1 = H) ⟨_, rfl, rfl⟩ (fun _ _ _ _ _ => trivial) ?_ ?_
    · rintro i x σ H1 H2 hi ⟨u, rfl, e1⟩ ⟨e2, d, ed, rfl⟩
      have md : d ∈ tl z := Array.mem_toList_iff.mpr (Array.mem_of_getElem? ed)
      rw [ez] at md
      have dd := numL_digits n d md
      walk_at "rr"
      refine ⟨d, _, rfl, rfl, ?_⟩
      refine r_bl ?_
      refine r_itF (by rw [decide_eq_true (figure dd.1 dd.2)]; rfl) ?_
      walk_at "rr"
      exact ⟨_, rfl, e2.trans e1⟩
    · rintro σ H1 ⟨u, rfl, rfl⟩
      have at0 : atI z.cps.toList 0 = some c := by
        rw [show z.cps.toList = tl z from rfl, ez, en]
        exact atI0 c r
      have fin : PySem.intText? z = some (n : Int) := by
        have := intText_digits (x := z) (by rw [show z.cps.toList = numL n from ez]; exact numL_digits n) (by rw [show z.cps.toList = numL n from ez]; exact numL_ne n) (by omega)
        rw [show z.cps.toList = numL n from ez, numL_val] at this
        exact this
      walk_at "rr"
      refine r_ixS (sz (by omega)) at0 ?_
      walk_at "rr"
      rw [dstr]
      refine r_d (fun hc => ?_) (fun hc => ?_)
      · have := (sign_eq (s := "0") (d := 48) (by decide +kernel)).mp hc
        have r0 := numL_head n c r en this
        walk_at "rr"
        refine r_lenS (sz (by omega)) ?_
        walk_at "rr"
        refine r_itF (decide_eq_false (by rw [lz, en, r0]; simp)) ?_
        walk_at "rr"
        exact ⟨z, _, rfl, fin, by omega, q⟩
      · refine r_itF rfl ?_
        walk_at "rr"
        exact ⟨z, _, rfl, fin, by omega, q⟩
/-! ### read_worth -/
abbrev s_read_worth : Stmt := top 9
theorem sc_read_worth : FnScope ["text"] ["text"] (defScope s_read_worth) := ⟨rfl, rfl, rfl, by decide +kernel, rfl, by decide +kernel, by decide +kernel⟩
def sp_read_worth (_ : PySem.W.Frag) : Sp := fun vs H Q _ => ∃ (w : Wo), vs = [.str (wt w)] ∧ Good w ∧
  ∀ (t : Addr) (H' : Hp), H t = none → Same H H' → WoAt H' (.ref t) w → Q (.ref t) H'
theorem ok_read_worth {fa : Addr} {fd : FuncData} (F : Fun K "read_worth" "read_worth" s_read_worth fa fd) (TX : Tx mg)
    (C_read_figures : Cal P w K mg base CX0 1 "read_figures" ["text"] (sp_read_figures K))
    {dD : Addr} {esD : Array DictEntry} {nD : Nat}
    (d_MARKED : KDict K w dD esD nD)
    (g_MARKED : mg "MARKED" = some (.ref dD))
    (m_MARKED : ∀ z : Str, ∃ r, PySem.W.nsIn K dD z = some r ∧ match marked.find? (fun p => decide (p.1 = z)) with | some p => ∃ t, r = some (.str p.2 t) | none => r = none) :
    FnOk P w K mg base CX0 2 fa fd ["text"] (sp_read_worth K) := by
  refine F.ok sc_read_worth (fun vs H Q E h => ?_) (fun cdv A outer s H vs Q E hr h => ?_)
  · obtain ⟨w0, rfl, g, q⟩ := h
    rfl
  · obtain ⟨w0, rfl, g, q⟩ := h
    have hu := hu_of hr
    have hu64 := hr.units
    have hu65 := hu65_of hr
    have bg := begins g
    obtain ⟨n1, n2⟩ := begins_not bg
    have zl : (wt w0).length ≤ sizeLine := sz (Nat.le_trans (wt_len g) (by decide))
    have l60 := numL_60 g.lo g.hi
    have wok : PyData.strOk w0.1 = true := by
      rcases g.word with h | h | h | h <;> rw [h] <;> decide +kernel
    refine ⟨_, (pss_cons (ps_if (PW.pt (pw_or (pt_not (pt_val (pe_callB call_isi (by rfl) TX.n_isinstance (by decide +kernel) (pa_cons (pv 0) (pa_cons (pe_bltn (v := .ty "str") (by rfl) TX.n_str (by decide +kernel) rfl) pa_nil))))) (pw_or (pt_cmpR op_eq (pv 0) pe_str (nomark _)) (pw_or1 (pt_cmpR op_eq (pv 0) pe_str (nomark _)))))) (pss_one ps_never) pss_nil)
  (pss_cons (ps_if (pt_cmpR (op_in_kd d_MARKED) (pe_ix ix_str (pv 0) pe_int (fun _ _ => rfl)) (pe_glob (v := .ref _) (by rfl) g_MARKED rfl) (by with_unfolding_all rfl)) (pss_one (ps_ret (pe_tup (pa_cons (pe_ix ix_kdict (pe_glob (v := .ref _) (by rfl) g_MARKED rfl) (pe_ix ix_str (pv 0) pe_int (fun _ _ => rfl)) (fun _ _ => rfl)) (pa_cons (pe_cal C_read_figures (hr.mono (by decide)) (by rfl) pass0 (pa_cons (pe_slice sl_str (pv 0) (po_some pe_int) po_none) pa_nil)) pa_nil))))) pss_nil)
  (pss_cons (ps_if (pt_cmpR op_eq (pe_ix ix_str (pv 0) pe_int (fun _ _ => rfl)) pe_str (nomark _)) (pss_one (ps_ret (pe_tup (pa_cons pe_str (pa_cons (pe_un un_neg (pe_cal C_read_figures (hr.mono (by decide)) (by rfl) pass0 (pa_cons (pe_slice sl_str (pv 0) (po_some pe_int) po_none) pa_nil))) pa_nil))))) pss_nil)
  (pss_one (ps_ret (pe_tup (pa_cons pe_str (pa_cons (pe_cal C_read_figures (hr.mono (by decide)) (by rfl) pass0 (pa_cons (pv 0) pa_nil)) pa_nil)))))))), ?_⟩
    refine r_begin (show L2.start _ _ = [some _] from rfl) ?_
    try dsimp only [cxOf]
    walk_at "rr"
    refine r_isi ty_str (kit_str _ (by decide)) ?_
    walk_at "rr"
    refine r_itF rfl ?_
    walk_at "rr"
    rw [dstr]
    refine r_itF (decide_eq_false n1) ?_
    walk_at "rr"
    rw [dstr]
    refine r_itF (decide_eq_false n2) ?_
    cases bg with
    | @digit c r h n e e2 c0 c1 =>
      have at0 : atI (wt w0).cps.toList 0 = some c := by
        rw [show (wt w0).cps.toList = tl (wt w0) from rfl, e, e2]
        exact atI0 c r
      walk_at "rr"
      refine r_ixS zl at0 ?_
      walk_at "rr"
      obtain ⟨ro, er, is⟩ := m_MARKED ⟨#[c]⟩
      rw [marked_digit (by omega)] at is
      have is : ro = none := is
      refine ⟨_, ro, rfl, rfl, er, ?_⟩
      rw [is]
      refine r_bl ?_
      refine r_itF rfl ?_
      walk_at "rr"
      refine r_ixS zl at0 ?_
      walk_at "rr"
      rw [dstr]
      refine r_itF (decide_eq_false fun z => ?_) ?_
      · have := (sign_eq (s := "-") (d := 45) (by decide +kernel)).mp z
        omega
      walk_at "rr"
      refine ⟨wt w0, w0.2.natAbs, rfl, e, l60, ?_⟩
      walk_at "rr"
      refine ⟨by show 2 ≤ sizeLine; decide, fun t ht => ?_⟩
      walk_at "rr"
      refine q t _ ht (same_new ht) ⟨t, rfl, ?_, wok⟩
      rw [upd_same]
      show some (HO.tup [V.str "num", V.int (w0.2.natAbs : Int)]) = some (HO.tup [V.str w0.1, V.int w0.2])
      rw [h]
      have : (w0.2.natAbs : Int) = w0.2 := by omega
      rw [this]
    | minus h n e =>
      have at0 : atI (wt w0).cps.toList 0 = some 45 := by
        rw [show (wt w0).cps.toList = tl (wt w0) from rfl, e]
        exact atI0 _ _
      walk_at "rr"
      refine r_ixS zl at0 ?_
      walk_at "rr"
      obtain ⟨ro, er, is⟩ := m_MARKED ⟨#[45]⟩
      rw [marked_digit (by decide)] at is
      have is : ro = none := is
      refine ⟨_, ro, rfl, rfl, er, ?_⟩
      rw [is]
      refine r_bl ?_
      refine r_itF rfl ?_
      walk_at "rr"
      refine r_ixS zl at0 ?_
      walk_at "rr"
      rw [dstr]
      refine r_itT (decide_eq_true ((sign_eq (s := "-") (d := 45) (by decide +kernel)).mpr rfl)) ?_
      walk_at "rr"
      refine r_slS zl ?_
      walk_at "rr"
      refine ⟨_, w0.2.natAbs, rfl, ?_, l60, ?_⟩
      · rw [tl_cut1 (by rw [len_tl, e]; simp), e]
        rfl
      walk_at "rr"
      refine ⟨by show 2 ≤ sizeLine; decide, fun t ht => ?_⟩
      walk_at "rr"
      refine q t _ ht (same_new ht) ⟨t, rfl, ?_, wok⟩
      rw [upd_same]
      show some (HO.tup [V.str "num", V.int (-(w0.2.natAbs : Int))]) = some (HO.tup [V.str w0.1, V.int w0.2])
      rw [h]
      have : -(w0.2.natAbs : Int) = w0.2 := by omega
      rw [this]
    | @marked c n e m =>
      have at0 : atI (wt w0).cps.toList 0 = some c := by
        rw [show (wt w0).cps.toList = tl (wt w0) from rfl, e]
        exact atI0 _ _
      walk_at "rr"
      refine r_ixS zl at0 ?_
      walk_at "rr"
      obtain ⟨ro, er, is⟩ := m_MARKED ⟨#[c]⟩
      rw [m] at is
      obtain ⟨tk, is⟩ := is
      refine ⟨_, ro, rfl, rfl, er, ?_⟩
      rw [is]
      refine r_bl ?_
      refine r_itT rfl ?_
      walk_at "rr"
      refine r_ixS zl at0 ?_
      walk_at "rr"
      refine ⟨dD, _, .str w0.1, rfl, rfl, ⟨esD, nD, _, d_MARKED.at_, d_MARKED.lit, by rw [er, is], ⟨tk, rfl⟩⟩, ?_⟩
      walk_at "rr"
      refine r_slS zl ?_
      walk_at "rr"
      refine ⟨_, w0.2.natAbs, rfl, ?_, l60, ?_⟩
      · rw [tl_cut1 (by rw [len_tl, e]; simp), e]
        rfl
      walk_at "rr"
      refine ⟨by show 2 ≤ sizeLine; decide, fun t ht => ?_⟩
      walk_at "rr"
      refine q t _ ht (same_new ht) ⟨t, rfl, ?_, wok⟩
      rw [upd_same]
      show some (HO.tup [V.str w0.1, V.int (w0.2.natAbs : Int)]) = some (HO.tup [V.str w0.1, V.int w0.2])
      have : (w0.2.natAbs : Int) = w0.2 := by omega
      rw [this]
/-! ### is_row -/
abbrev s_is_row : Stmt := top 14
theorem sc_is_row : FnScope ["thing", "many"] ["thing", "many"] (defScope s_is_row) := ⟨rfl, rfl, rfl, by decide +kernel, rfl, by decide +kernel, by decide +kernel⟩
def sp_is_row (_ : PySem.W.Frag) : Sp := fun vs H Q _ => ∃ (v : V) (r : Row) (many : Int), vs = [v, .int many] ∧ RowAt H v r ∧ GoodRow many r ∧ Q (.bl true) H
theorem ok_is_row {fa : Addr} {fd : FuncData} (F : Fun K "is_row" "is_row" s_is_row fa fd) (TX : Tx mg)
    (C_is_whole : Cal P w K mg base CX0 1 "is_whole" ["thing"] (sp_is_whole K))
    {aRe aLe2 aBa : Addr}
    (g_REACHING : mg "REACHING" = some (.ref aRe))
    (g_LEADING : mg "LEADING" = some (.ref aLe2))
    (g_BARE : mg "BARE" = some (.ref aBa))
    (t_REACHING : TopT K aRe reaching)
    (t_LEADING : TopT K aLe2 leading)
    (t_BARE : TopT K aBa bare) :
    FnOk P w K mg base CX0 2 fa fd ["thing", "many"] (sp_is_row K) := by
  refine F.ok sc_is_row (fun vs H Q E h => ?_) (fun cdv A outer s H vs Q E hr h => ?_)
  · obtain ⟨v, r, many, rfl, ⟨a, rfl, ea⟩, g, q⟩ := h
    rfl
  · obtain ⟨v, r, many, rfl, ⟨a, rfl, ea⟩, g, q⟩ := h
    have hu := hu_of hr
    have hu64 := hr.units
    have hu65 := hu65_of hr
    refine ⟨_, (pss_cons (ps_if (PW.pt (pw_or (pt_not (pt_val (pe_callB call_isi (by rfl) TX.n_isinstance (by decide +kernel) (pa_cons (pv 0) (pa_cons (pe_bltn (v := .ty "tuple") (by rfl) TX.n_tuple (by decide +kernel) rfl) pa_nil))))) (pw_or (pt_cmpR op_lt (pe_callB call_len (by rfl) TX.n_len (by decide +kernel) (pa_cons (pv 0) pa_nil)) pe_int (nomark _)) (pw_or1 (pt_cmpR op_gt (pe_callB call_len (by rfl) TX.n_len (by decide +kernel) (pa_cons (pv 0) pa_nil)) pe_int (nomark _)))))) (pss_one (ps_ret pe_bl)) pss_nil)
  (pss_cons (ps_if (pt_not (pt_val (pe_callB call_isi (by rfl) TX.n_isinstance (by decide +kernel) (pa_cons (pe_ix ix_tup (pv 0) pe_int (fun _ _ => rfl)) (pa_cons (pe_bltn (v := .ty "str") (by rfl) TX.n_str (by decide +kernel) rfl) pa_nil))))) (pss_one (ps_ret pe_bl)) pss_nil)
  (pss_cons (ps_if (pt_cmpR op_eq (pe_callB call_len (by rfl) TX.n_len (by decide +kernel) (pa_cons (pv 0) pa_nil)) pe_int (nomark _)) (pss_one (ps_ret (pe_cmpR op_in_seq (pe_ix ix_tup (pv 0) pe_int (fun _ _ => rfl)) (pe_glob (v := .ref _) (by rfl) g_BARE rfl) (by rfl)))) pss_nil)
  (pss_cons (ps_if (pt_not (pt_val (pe_cal C_is_whole (hr.mono (by decide)) (by rfl) pass0 (pa_cons (pe_ix ix_tup (pv 0) pe_int (fun _ _ => rfl)) pa_nil)))) (pss_one (ps_ret pe_bl)) pss_nil)
  (pss_cons (ps_if (pt_cmpR op_eq (pe_ix ix_tup (pv 0) pe_int (fun _ _ => rfl)) pe_str (nomark _)) (pss_one (ps_ret pe_bl)) pss_nil)
  (pss_cons (ps_if (pt_cmpR op_in_seq (pe_ix ix_tup (pv 0) pe_int (fun _ _ => rfl)) (pe_glob (v := .ref _) (by rfl) g_REACHING rfl) (by rfl)) (pss_one (ps_ret (pe_cmpR op_ge (pe_ix ix_tup (pv 0) pe_int (fun _ _ => rfl)) pe_int (nomark _)))) pss_nil)
  (pss_one (ps_ret (pe_and (pe_cmpR op_in_seq (pe_ix ix_tup (pv 0) pe_int (fun _ _ => rfl)) (pe_glob (v := .ref _) (by rfl) g_LEADING rfl) (by rfl)) (pe_one (pe_chain op_le op_le pe_int (pe_ix ix_tup (pv 0) pe_int (fun _ _ => rfl)) (pv 1)))))))))))), ?_⟩
    refine r_begin (show L2.start _ _ = [some _, some _] from rfl) ?_
    try dsimp only [cxOf]
    walk_at "rr"
    refine r_isi (ty_tup ea) (kit_tuple _ (by decide)) ?_
    walk_at "rr"
    refine r_itF rfl ?_
    walk_at "rr"
    refine r_lent ea ?_
    cases g with
    | @bare s h =>
      have ea' : H a = some (.tup [.str s]) := ea
      walk_at "rr"
      refine r_itF (by rfl) ?_
      walk_at "rr"
      refine r_lent ea' ?_
      walk_at "rr"
      refine r_itF (by rfl) ?_
      walk_at "rr"
      refine r_isi ty_str (kit_str _ (by decide)) ?_
      walk_at "rr"
      refine r_itF rfl ?_
      walk_at "rr"
      refine r_lent ea' ?_
      walk_at "rr"
      refine r_itT (by rfl) ?_
      walk_at "rr"
      refine ⟨aBa, _, rfl, .inr t_BARE.at, rfl, by decide, ?_⟩
      rw [inV_strs, decide_eq_true h]
      exact q
    | @put n l h =>
      have ea' : H a = some (.tup [.str "put", .int n]) := ea
      walk_at "rr"
      refine r_itF (by rfl) ?_
      walk_at "rr"
      refine r_lent ea' ?_
      walk_at "rr"
      refine r_itF (by rfl) ?_
      walk_at "rr"
      refine r_isi ty_str (kit_str _ (by decide)) ?_
      walk_at "rr"
      refine r_itF rfl ?_
      walk_at "rr"
      refine r_lent ea' ?_
      walk_at "rr"
      refine r_itF (by rfl) ?_
      walk_at "rr"
      refine ⟨_, _, rfl, ty_int, by decide, ?_⟩
      walk_at "rr"
      refine r_itF rfl ?_
      walk_at "rr"
      refine r_itT (by rfl) ?_
      walk_at "rr"
      exact q
    | @reach s n h l u =>
      have ea' : H a = some (.tup [.str s, .int n]) := ea
      walk_at "rr"
      refine r_itF (by rfl) ?_
      walk_at "rr"
      refine r_lent ea' ?_
      walk_at "rr"
      refine r_itF (by rfl) ?_
      walk_at "rr"
      refine r_isi ty_str (kit_str _ (by decide)) ?_
      walk_at "rr"
      refine r_itF rfl ?_
      walk_at "rr"
      refine r_lent ea' ?_
      walk_at "rr"
      refine r_itF (by rfl) ?_
      walk_at "rr"
      refine ⟨_, _, rfl, ty_int, by decide, ?_⟩
      walk_at "rr"
      refine r_itF rfl ?_
      walk_at "rr"
      have np : s ≠ "put" := by
        intro e
        rw [e] at h
        exact absurd h (by decide)
      rw [dstr]
      refine r_itF (decide_eq_false np) ?_
      walk_at "rr"
      refine ⟨aRe, _, rfl, .inr t_REACHING.at, rfl, by decide, ?_⟩
      rw [inV_strs, decide_eq_true h]
      refine r_bl ?_
      refine r_itT rfl ?_
      walk_at "rr"
      rw [decide_eq_true l]
      exact q
    | @lead s n h l u m =>
      have ea' : H a = some (.tup [.str s, .int n]) := ea
      walk_at "rr"
      refine r_itF (by rfl) ?_
      walk_at "rr"
      refine r_lent ea' ?_
      walk_at "rr"
      refine r_itF (by rfl) ?_
      walk_at "rr"
      refine r_isi ty_str (kit_str _ (by decide)) ?_
      walk_at "rr"
      refine r_itF rfl ?_
      walk_at "rr"
      refine r_lent ea' ?_
      walk_at "rr"
      refine r_itF (by rfl) ?_
      walk_at "rr"
      refine ⟨_, _, rfl, ty_int, by decide, ?_⟩
      walk_at "rr"
      refine r_itF rfl ?_
      walk_at "rr"
      have np : s ≠ "put" := by
        intro e
        rw [e] at h
        exact absurd h (by decide)
      have nr : ¬ s ∈ reaching := by
        intro e
        revert h e
        unfold leading reaching
        simp only [List.mem_cons, List.not_mem_nil, or_false]
        rintro (rfl | rfl | rfl | rfl) <;> decide
      rw [dstr]
      refine r_itF (decide_eq_false np) ?_
      walk_at "rr"
      refine ⟨aRe, _, rfl, .inr t_REACHING.at, rfl, by decide, ?_⟩
      rw [inV_strs, decide_eq_false nr]
      refine r_bl ?_
      refine r_itF rfl ?_
      walk_at "rr"
      refine ⟨aLe2, _, rfl, .inr t_LEADING.at, rfl, by decide, ?_⟩
      rw [inV_strs, decide_eq_true h]
      refine r_bl ?_
      refine r_itT rfl ?_
      walk_at "rr"
      refine r_itT (decide_eq_true l) ?_
      walk_at "rr"
      rw [decide_eq_true u]
      exact q
/-! ### is_program -/
abbrev s_is_program : Stmt := top 15
theorem sc_is_program : FnScope ["thing", "row"] ["thing"] (defScope s_is_program) := ⟨rfl, rfl, rfl, by decide +kernel, rfl, by decide +kernel, by decide +kernel⟩
def sp_is_program (_ : PySem.W.Frag) : Sp := fun vs H Q _ => ∃ (a : Addr) (xs : List V) (rs : List Row), vs = [.ref a] ∧ H a = some (.lst xs) ∧ Paired (RowAt H) xs rs ∧ (∀ r ∈ rs, GoodRow (rs.length : Int) r) ∧ Q (.bl true) H
theorem ok_is_program {fa : Addr} {fd : FuncData} (F : Fun K "is_program" "is_program" s_is_program fa fd) (TX : Tx mg)
    (C_is_row : Cal P w K mg base CX0 2 "is_row" ["thing", "many"] (sp_is_row K)) :
    FnOk P w K mg base CX0 3 fa fd ["thing"] (sp_is_program K) := by
  refine F.ok sc_is_program (fun vs H Q E h => ?_) (fun cdv A outer s H vs Q E hr h => ?_)
  · obtain ⟨a, xs, rs, rfl, ea, wr, g, q⟩ := h
    rfl
  · obtain ⟨a, xs, rs, rfl, ea, wr, g, q⟩ := h
    have hu := hu_of hr
    have hu64 := hr.units
    have hu65 := hu65_of hr
    have lx := paired_len wr
    refine ⟨_, (pss_cons (ps_if (pt_not (pt_val (pe_callB call_isi (by rfl) TX.n_isinstance (by decide +kernel) (pa_cons (pv 0) (pa_cons (pe_bltn (v := .ty "list") (by rfl) TX.n_list (by decide +kernel) rfl) pa_nil))))) (pss_one (ps_ret pe_bl)) pss_nil)
  (pss_cons (ps_for PassesOwn.never rfl (pi_list (pv 0)) (pg_name (i := 1) sc_is_program.nd rfl (Or.inl rfl))
  (pss_one (ps_if (pt_not (pt_val (pe_cal C_is_row (hr.mono (by decide)) (by rfl) pass0 (pa_cons (pv 1) (pa_cons (pe_callB call_len (by rfl) TX.n_len (by decide +kernel) (pa_cons (pv 0) pa_nil)) pa_nil))))) (pss_one (ps_ret pe_bl)) pss_nil)))
  (pss_one (ps_ret pe_bl)))), ?_⟩
    refine r_begin (show L2.start _ _ = [some _, none] from rfl) ?_
    try dsimp only [cxOf]
    walk_at "rr"
    refine r_isi (ty_lst ea) (kit_list _ (by decide)) ?_
    walk_at "rr"
    refine r_itF rfl ?_
    walk_at "rr"
    refine r_ilw ea ?_
    refine L_list (xs := xs) (fun i σ H1 => ∃ (u : Option V), σ = [some (.ref a), u] ∧ H1 = H) ⟨_, rfl, rfl⟩ ?_ ?_ ?_
    · rintro i σ H1 hi ⟨u, rfl, e1⟩
      rw [e1]
      exact .inl (.inl ea)
    · rintro i x σ H1 hx ⟨u, rfl, e1⟩
      subst e1
      obtain ⟨r, er, hr1⟩ := G.paired_get wr hx
      walk_at "rr"
      refine r_lenl ea ?_
      rw [lx]
      refine ⟨x, r, _, rfl, hr1, g r (List.mem_of_getElem? er), ?_⟩
      walk_at "rr"
      refine r_itF rfl ?_
      walk_at "rr"
      exact ⟨_, rfl, rfl⟩
    · rintro σ H1 ⟨u, rfl, e1⟩
      subst e1
      walk_at "rr"
      exact q
/-! ### show_program -/
abbrev s_show_program : Stmt := top 17
theorem sc_show_program : FnScope ["rows", "row", "part"] ["rows"] (defScope s_show_program) := ⟨rfl, rfl, rfl, by decide +kernel, rfl, by decide +kernel, by decide +kernel⟩
def sp_show_program (_ : PySem.W.Frag) : Sp := fun vs H Q _ => ∃ (a : Addr) (xs : List V) (rs : List Row) (m : Int), vs = [.ref a] ∧ H a = some (.lst xs) ∧ Paired (RowAt H) xs rs ∧ (∀ r ∈ rs, GoodRow m r) ∧ rs.length ≤ 100 ∧ ∀ H', Same H H' → Q (.str (progText rs)) H'
theorem ok_show_program {fa : Addr} {fd : FuncData} (F : Fun K "show_program" "show_program" s_show_program fa fd) (TX : Tx mg) :
    FnOk P w K mg base CX0 1 fa fd ["rows"] (sp_show_program K) := by
  refine F.ok sc_show_program (fun vs H Q E h => ?_) (fun cdv A outer s H vs Q E hr h => ?_)
  · obtain ⟨a, xs, rs, m, rfl, ea, wr, g, l, q⟩ := h
    rfl
  · obtain ⟨a, xs, rs, m, rfl, ea, wr, g, l, q⟩ := h
    have hu := hu_of hr
    have hu64 := hr.units
    have hu65 := hu65_of hr
    have lx := paired_len wr
    refine ⟨_, (pss_one (ps_ret (pe_join pe_str (pe_lc (own := [("row", 1)]) (g := gName 1) (tt := tYes) rfl sc_show_program.nd (pi_list (pv 0)) (blkOk_by (own := [("row", 1)]) (N := ["rows", "row", "part"]) (sc := defScope s_show_program) (by decide +kernel)) (fun _ _ _ _ _ => (pg_name (i := 1) sc_show_program.nd rfl (Or.inl rfl))) (fun _ _ _ _ _ => pts_nil) (fun _ _ _ _ _ => (kPE (tM1 (rJoin K) _ _) (pe_join pe_str (pe_lc (own := [("part", 2)]) (g := gName 2) (tt := tYes) rfl sc_show_program.nd (kPI (iTup K _) (pi_tup (pv 1)) rfl) (blkOk_by (own := [("part", 2)]) (N := ["rows", "row", "part"]) (sc := ({ kind := .function, names := [(".0", .local), ("row", .local)], isGenerator := false, isCoroutine := false } : Scope)) (by decide +kernel)) (fun _ _ _ _ _ => (pg_name (i := 2) sc_show_program.nd rfl (Or.inl rfl))) (fun _ _ _ _ _ => pts_nil) (fun _ _ _ _ _ => (pe_callTy (CallR.or call_str_int SkE.call_str_str) (by rfl) TX.n_str (by decide +kernel) (pa_cons (pv 2) pa_nil))))) rfl)))))), ?_⟩
    refine r_begin (show L2.start _ _ = [some _, none, none] from rfl) ?_
    try dsimp only [cxOf]
    walk_at "rr"
    refine r_ilw ea ?_
    refine C_list (xs := xs) (fun D i H1 => H D = none ∧ H1 D = some (.lst (((rs.take i).map rowText).map V.str)) ∧ Same H H1) (fun D hD => ⟨hD, upd_same, same_new hD⟩) ?_ ?_ ?_
    · rintro D i H1 hi ⟨hD, eD, s1⟩
      exact .inl (.inl (s1 _ _ ea))
    · rintro D i x H1 hx ⟨hD, eD, s1⟩
      have hi : i < xs.length := (List.getElem?_eq_some_iff.mp hx).1
      obtain ⟨r, er, t, rfl, et⟩ := G.paired_get wr hx
      have gr := g r (List.mem_of_getElem? er)
      have et1 := s1 _ _ et
      walk_at "rr"
      refine ⟨t, rfl, ⟨_, .inl (.inl et1)⟩, ?_⟩
      have gs := part_signs gr
      have pl := parts_le r
      refine C_it (walk_tup (xs := rowV r)) (fun Z k H2 => H1 Z = none ∧ H2 Z = some (.lst (((parts r).take k).map V.str)) ∧ Same H1 H2) (fun Z hZ => ⟨hZ, upd_same, same_new hZ⟩) ?_ ?_ ?_
      · rintro Z k H2 hk ⟨hZ, eZ, s2⟩
        exact .inl (.inl (s2 _ _ et1))
      · rintro Z k x H2 H3 hk ⟨hZ, eZ, s2⟩ ⟨rfl, ex⟩
        obtain ⟨p, ep, hp⟩ := row_item ex
        have fin : upd H3 Z (.lst (((parts r).take k).map V.str ++ [V.str p])) Z = some (.lst (((parts r).take (k + 1)).map V.str)) := by
          rw [upd_same, List.take_add_one, ep, List.map_append]
          rfl
        walk_at "rr"
        rcases hp with rfl | ⟨n, rfl, rfl, en⟩
        · exact .inr ⟨_, rfl, _, eZ, szl (by simp; omega), hZ, fin, Same.own s2 hZ⟩
        · have b := gr.num en
          exact .inl ⟨_, rfl, log_60 b.1 b.2, _, eZ, szl (by simp; omega), hZ, fin, Same.own s2 hZ⟩
      · rintro Z H2 hZ ⟨_, eZ, s2⟩
        rw [rowV_len, List.take_length] at eZ
        have nZ : D ≠ Z := ne_of_none eD hZ
        refine ⟨_, Z, parts r, rfl, rfl, .inl (.inl (.inl eZ)), ?_, ?_⟩
        · have e1 : (Str.ofString " ").length = 1 := by decide +kernel
          rw [e1]
          have : ∀ ps : List Str, (∀ p ∈ ps, p.length ≤ 61) → (ps.map (·.length)).sum ≤ 61 * ps.length := by
            intro ps
            induction ps with
            | nil => intro _; exact Nat.zero_le _
            | cons p q ih =>
              intro h
              have h1 := h p List.mem_cons_self
              have h2 := ih fun x m => h x (List.mem_cons_of_mem _ m)
              rw [List.map_cons, List.sum_cons, List.length_cons]
              omega
          have := this (parts r) fun p mp => (gs p mp).2.1
          omega
        · refine ⟨_, s2 _ _ eD, szl (by simp; omega), hD, ?_, Same.own (s1.trans s2) hD⟩
          rw [upd_same, List.take_add_one, er, List.map_append, List.map_append]
          rfl
    · rintro D H1 hD ⟨_, eD, s1⟩
      rw [lx, List.take_length] at eD
      refine ⟨_, D, _, rfl, rfl, .inl (.inl (.inl eD)), ?_, q H1 s1⟩
      have e1 : (Str.ofString "; ").length = 2 := by decide +kernel
      rw [e1]
      have : ∀ ps : List Row, (∀ p ∈ ps, GoodRow m p) → ((ps.map rowText).map (·.length)).sum ≤ 124 * ps.length := by
        intro ps
        induction ps with
        | nil => intro _; exact Nat.zero_le _
        | cons p q ih =>
          intro h
          have h1 := row_len (h p List.mem_cons_self)
          have h2 := ih fun x m => h x (List.mem_cons_of_mem _ m)
          rw [List.map_cons, List.map_cons, List.sum_cons, List.length_cons]
          omega
      have := this rs g
      rw [List.length_map]
      omega
/-! ### read_number -/
abbrev s_read_number : Stmt := top 18
theorem sc_read_number : FnScope ["text", "worth"] ["text"] (defScope s_read_number) := ⟨rfl, rfl, rfl, by decide +kernel, rfl, by decide +kernel, by decide +kernel⟩
def sp_read_number (_ : PySem.W.Frag) : Sp := fun vs H Q _ => ∃ (n : Int), vs = [.str (wt ("num", n))] ∧ -(10 ^ 60) < n ∧ n < 10 ^ 60 ∧ ∀ H', Same H H' → Q (.int n) H'
theorem ok_read_number {fa : Addr} {fd : FuncData} (F : Fun K "read_number" "read_number" s_read_number fa fd) (TX : Tx mg)
    (C_read_worth : Cal P w K mg base CX0 2 "read_worth" ["text"] (sp_read_worth K)) :
    FnOk P w K mg base CX0 3 fa fd ["text"] (sp_read_number K) := by
  refine F.ok sc_read_number (fun vs H Q E h => ?_) (fun cdv A outer s H vs Q E hr h => ?_)
  · obtain ⟨n, rfl, l, u, q⟩ := h
    rfl
  · obtain ⟨n, rfl, l, u, q⟩ := h
    have hu := hu_of hr
    have hu64 := hr.units
    have hu65 := hu65_of hr
    refine ⟨_, (pss_cons (ps_set (i := 1) sc_read_number.nd rfl (Or.inl rfl) (pe_cal C_read_worth (hr.mono (by decide)) (by rfl) pass0 (pa_cons (pv 0) pa_nil)))
  (pss_cons (ps_if (pt_cmpR op_ne (pe_ix ix_tup (pv 1) pe_int (fun _ _ => rfl)) pe_str (nomark _)) (pss_one ps_never) pss_nil)
  (pss_one (ps_ret (pe_ix ix_tup (pv 1) pe_int (fun _ _ => rfl)))))), ?_⟩
    refine r_begin (show L2.start _ _ = [some _, none] from rfl) ?_
    try dsimp only [cxOf]
    walk_at "rr"
    refine ⟨("num", n), rfl, good_num l u, fun t H1 ht s1 hw => ?_⟩
    obtain ⟨a, e, ea, -⟩ := hw
    cases e
    have ea' : H1 t = some (.tup [.str "num", .int n]) := ea
    walk_at "rr"
    refine r_itF (by rfl) ?_
    walk_at "rr"
    exact q H1 s1
/-! ### read_program -/
abbrev s_read_program : Stmt := top 19
theorem sc_read_program : FnScope ["text", "rows", "part", "words", "word"] ["text"] (defScope s_read_program) := ⟨rfl, rfl, rfl, by decide +kernel, rfl, by decide +kernel, by decide +kernel⟩
def sp_read_program (_ : PySem.W.Frag) : Sp := fun vs H Q _ => ∃ (rs : List Row), vs = [.str (progText rs)] ∧ (∀ r ∈ rs, GoodRow (rs.length : Int) r) ∧ rs.length ≤ 100 ∧
  ∀ (l : Addr) (xs : List V) (H' : Hp), H l = none → Same H H' → H' l = some (.lst xs) → Paired (RowAt H') xs rs → Q (.ref l) H'
theorem ok_read_program {fa : Addr} {fd : FuncData} (F : Fun K "read_program" "read_program" s_read_program fa fd) (TX : Tx mg)
    (C_is_program : Cal P w K mg base CX0 3 "is_program" ["thing"] (sp_is_program K))
    (C_read_number : Cal P w K mg base CX0 3 "read_number" ["text"] (sp_read_number K)) :
    FnOk P w K mg base CX0 4 fa fd ["text"] (sp_read_program K) := by
  refine F.ok sc_read_program (fun vs H Q E h => ?_) (fun cdv A outer s H vs Q E hr h => ?_)
  · obtain ⟨rs, rfl, g, l, q⟩ := h
    rfl
  · obtain ⟨rs, rfl, g, l, q⟩ := h
    have hu := hu_of hr
    have hu64 := hr.units
    have hu65 := hu65_of hr
    have pl := prog_len g l
    refine ⟨_, (pss_cons (ps_if (pt_not (pt_val (pe_callB call_isi (by rfl) TX.n_isinstance (by decide +kernel) (pa_cons (pv 0) (pa_cons (pe_bltn (v := .ty "str") (by rfl) TX.n_str (by decide +kernel) rfl) pa_nil))))) (pss_one ps_never) pss_nil)
  (pss_cons (ps_set (i := 1) sc_read_program.nd rfl (Or.inl rfl) (pe_lst pa_nil))
  (pss_cons (ps_if (pt_cmpR op_ne (pv 0) pe_str (nomark _)) (pss_one (ps_for PassesOwn.never rfl (pi_list (pe_split (pv 0) pe_str)) (pg_name (i := 2) sc_read_program.nd rfl (Or.inl rfl))
  (pss_cons (ps_set (i := 3) sc_read_program.nd rfl (Or.inl rfl) (pe_split (pv 2) pe_str))
  (pss_one (ps_expr (pe_bm PySem.F.plainAttrs_list PySem.F.slot_list_append PySem.F.type_list_append mt_append (pv 1) (pa_cons (pe_op op_catT (pe_tup (pa_cons (pe_ix ix_list (pv 3) pe_int (fun _ _ => rfl)) pa_nil)) (pe_callTy call_tuple_of (by rfl) TX.n_tuple (by decide +kernel) (pa_cons (pe_lc (own := [("word", 4)]) (g := gName 4) (tt := tYes) rfl sc_read_program.nd (pi_list (pe_slice sl_list (pv 3) (po_some pe_int) po_none)) (blkOk_by (own := [("word", 4)]) (N := ["text", "rows", "part", "words", "word"]) (sc := defScope s_read_program) (by decide +kernel)) (fun _ _ _ _ _ => (pg_name (i := 4) sc_read_program.nd rfl (Or.inl rfl))) (fun _ _ _ _ _ => pts_nil) (fun _ _ _ _ _ => (pe_cal C_read_number (hr.mono (by decide)) (by rfl) pass0 (pa_cons (pv 4) pa_nil)))) pa_nil))) pa_nil))))))) pss_nil)
  (pss_cons (ps_if (pt_not (pt_val (pe_cal C_is_program (hr.mono (by decide)) (by rfl) pass0 (pa_cons (pv 1) pa_nil)))) (pss_one ps_never) pss_nil)
  (pss_one (ps_ret (pv 1))))))), ?_⟩
    refine r_begin (show L2.start _ _ = [some _, none, none, none, none] from rfl) ?_
    try dsimp only [cxOf]
    walk_at "rr"
    refine r_isi ty_str (kit_str _ (by decide)) ?_
    walk_at "rr"
    refine r_itF rfl ?_
    walk_at "rr"
    refine ⟨Nat.zero_le _, fun z hz => ?_⟩
    have s1 := same_new (o := .lst []) hz
    have ez : (upd H z (.lst [])) z = some (.lst []) := upd_same
    generalize upd H z (.lst []) = H1 at s1 ez ⊢
    walk_at "rr"
    rw [dstr]
    by_cases hc : rs = []
    · refine r_itF (by rw [decide_eq_true ((prog_nil g).mpr hc)]; rfl) ?_
      walk_at "rr"
      subst hc
      refine ⟨z, [], [], rfl, ez, .nil, fun r m => (by cases m), ?_⟩
      walk_at "rr"
      refine r_itF rfl ?_
      walk_at "rr"
      exact q z [] H1 hz s1 ez .nil
    refine r_itT (by rw [decide_eq_false (fun e => hc ((prog_nil g).mp e))]; rfl) ?_
    walk_at "rr"
    refine ⟨_, _, rfl, rfl, by decide +kernel, by show _ + 2 ≤ sizeLine; exact sz (by omega), fun p hp => ?_⟩
    rw [prog_split g hc]
    have s2 := s1.trans (same_new (o := .lst ((rs.map rowText).map V.str)) hp)
    have ep : (upd H1 p (.lst ((rs.map rowText).map V.str))) p = some (.lst ((rs.map rowText).map V.str)) := upd_same
    have ez2 := same_new (o := .lst ((rs.map rowText).map V.str)) hp _ _ ez
    have npz : p ≠ z := fun e => by rw [e, ez] at hp; cases hp
    generalize upd H1 p (.lst ((rs.map rowText).map V.str)) = H2 at s2 ep ez2 ⊢
    refine r_ilw ep ?_
    refine L_list (xs := (rs.map rowText).map V.str) (fun i σ H3 => ∃ (u2 u3 u4 : Option V) (xs : List V), σ = [some (.str (progText rs)), some (.ref z), u2, u3, u4] ∧ Same H H3 ∧ H3 p = some (.lst ((rs.map rowText).map V.str)) ∧ H3 z = some (.lst xs) ∧ Paired (RowAt H3) xs (rs.take i) ∧ xs.length = i)
      ⟨_, _, _, [], rfl, s2, ep, ez2, .nil, rfl⟩ ?_ ?_ ?_
    · rintro i σ H3 hi ⟨u2, u3, u4, xs, rfl, s3, ep3, ez3, w3, l3⟩
      exact .inl (.inl ep3)
    · rintro i x σ H3 hx ⟨u2, u3, u4, xs, rfl, s3, ep3, ez3, w3, l3⟩
      rw [List.map_map, List.getElem?_map] at hx
      obtain ⟨r, er, rfl⟩ := Option.map_eq_some_iff.mp hx
      have hi : i < rs.length := (List.getElem?_eq_some_iff.mp er).1
      have gr := g r (List.mem_of_getElem? er)
      have rl := row_len gr
      show gName 2 (.str (rowText r)) _ _ _
      walk_at "rr"
      refine ⟨_, _, rfl, rfl, by decide +kernel, by show (rowText r).length + 2 ≤ sizeLine; exact sz (by omega), fun w hw => ?_⟩
      show gName 3 _ _ _ _
      rw [show Txt.split (rowText r) " " = parts r from row_split gr]
      have s4 := s3.trans (same_new (o := .lst ((parts r).map V.str)) hw)
      have ew : (upd H3 w (.lst ((parts r).map V.str))) w = some (.lst ((parts r).map V.str)) := upd_same
      have s34 := same_new (o := .lst ((parts r).map V.str)) hw
      generalize upd H3 w (.lst ((parts r).map V.str)) = H4 at s4 ew s34 ⊢
      have ez4 := s34 _ _ ez3
      walk_at "rr"
      refine r_tyL ez4 ?_
      walk_at "rr"
      refine r_ixl ew (at_of (show (0 : Int) = ((0 : Nat) : Int) from rfl) (show ((parts r).map V.str)[0]? = some (V.str r.1) from rfl)) ?_
      walk_at "rr"
      refine ⟨by show 1 ≤ sizeLine; decide, fun t1 ht1 => ?_⟩
      have s45 := same_new (o := .tup [.str r.1]) ht1
      have et1 : (upd H4 t1 (.tup [.str r.1])) t1 = some (.tup [.str r.1]) := upd_same
      have ew5 := s45 _ _ ew
      generalize upd H4 t1 (.tup [.str r.1]) = H5 at s45 et1 ew5 ⊢
      walk_at "rr"
      refine r_slL (.inl (.inl ew5)) fun c hc => ?_
      rw [cut1, parts_tail]
      have s56 := same_new (o := .lst (((nums r).map fun n => wt ("num", n)).map V.str)) hc
      have ec6 : (upd H5 c (.lst (((nums r).map fun n => wt ("num", n)).map V.str))) c = some (.lst (((nums r).map fun n => wt ("num", n)).map V.str)) := upd_same
      have et6 := s56 _ _ et1
      generalize upd H5 c (.lst (((nums r).map fun n => wt ("num", n)).map V.str)) = H6 at s56 ec6 et6 ⊢
      have nl : (nums r).length ≤ 1 := by
        unfold nums
        obtain ⟨w, o⟩ := r
        cases o <;> simp
      refine r_ilw ec6 ?_
      refine C_list (xs := ((nums r).map fun n => wt ("num", n)).map V.str) (fun D k H7 => H6 D = none ∧ H7 D = some (.lst (((nums r).take k).map V.int)) ∧ Same H6 H7) (fun D hD => ⟨hD, upd_same, same_new hD⟩) ?_ ?_ ?_
      · rintro D k H7 hk ⟨hD, eD, s7⟩
        exact .inl (.inl (s7 _ _ ec6))
      · rintro D k x H7 hx ⟨hD, eD, s7⟩
        rw [List.map_map, List.getElem?_map] at hx
        obtain ⟨n, en, rfl⟩ := Option.map_eq_some_iff.mp hx
        have hk : k < (nums r).length := (List.getElem?_eq_some_iff.mp en).1
        have mn := List.mem_of_getElem? en
        have e2 : r.2 = some n := by
          unfold nums at mn
          cases e : r.2 with
          | none => rw [e] at mn; cases mn
          | some n2 => rw [e] at mn; rw [List.mem_singleton.mp mn]
        have b := gr.num e2
        walk_at "rr"
        refine ⟨n, rfl, b.1, b.2, fun H8 s8 => ?_⟩
        refine ⟨_, s8 _ _ eD, szl (by simp; omega), hD, ?_, Same.own (s7.trans s8) hD⟩
        rw [upd_same, List.take_add_one, en, List.map_append]
        rfl
      · rintro D H7 hD ⟨_, eD, s7⟩
        rw [List.length_map, List.length_map, List.take_length] at eD
        walk_at "rr"
        refine ⟨D, _, rfl, .inl ⟨.inl (.inl eD), fun t2 ht2 => ?_⟩⟩
        have s78 := same_new (o := .tup ((nums r).map V.int)) ht2
        have et2 : (upd H7 t2 (.tup ((nums r).map V.int))) t2 = some (.tup ((nums r).map V.int)) := upd_same
        have et18 := s78 _ _ (s7 _ _ et6)
        generalize upd H7 t2 (.tup ((nums r).map V.int)) = H8 at s78 et2 et18 ⊢
        have s38 : Same H3 H8 := ((((s34.trans s45).trans s56).trans s7).trans s78)
        have hzH := hz
        have fin : ∀ (t : Addr) (H9 : Hp), Same H8 H9 → RowAt H9 (.ref t) r → ∃ (v2 v3 v4 : Option V) (ys : List V), [some (V.str (progText rs)), some (V.ref z), some (V.str (rowText r)), some (V.ref w), u4] = [some (V.str (progText rs)), some (V.ref z), v2, v3, v4] ∧ Same H (upd H9 z (.lst (xs ++ [V.ref t]))) ∧ (upd H9 z (.lst (xs ++ [V.ref t]))) p = some (.lst ((rs.map rowText).map V.str)) ∧ (upd H9 z (.lst (xs ++ [V.ref t]))) z = some (.lst ys) ∧ Paired (RowAt (upd H9 z (.lst (xs ++ [V.ref t])))) ys (rs.take (i + 1)) ∧ ys.length = i + 1 := by
          intro t H9 s9 hr9
          have s39 := s38.trans s9
          have up : ∀ {v : V} {r : Row}, RowAt H9 v r → RowAt (upd H9 z (.lst (xs ++ [V.ref t]))) v r := by
            rintro v r ⟨a, e, h⟩
            exact ⟨a, e, by rw [upd_ne (fun e => by rw [e, s39 _ _ ez3] at h; cases h)]; exact h⟩
          refine ⟨_, _, _, xs ++ [V.ref t], rfl, Same.own (s3.trans s39) hzH, by rw [upd_ne npz]; exact s39 _ _ ep3, upd_same, ?_, by rw [List.length_append, l3]; rfl⟩
          rw [List.take_add_one, er]
          exact paired_app (Paired.mapP w3 fun _ _ h => up (h.same s39)) (.cons (up hr9) .nil)
        refine ⟨t1, t2, _, _, rfl, rfl, .inl (.inl et18), .inl (.inl et2), by simp, sz (by simp; omega), fun en => ?_, fun en t3 ht3 => ?_⟩
        · walk_at "rr"
          refine r_app (s38 _ _ ez3) (szl (by omega)) ?_
          walk_at "rr"
          refine fin t1 H8 (Same.refl H8) ⟨t1, rfl, ?_⟩
          rw [rowV_nums, en]
          exact et18
        · have s89 := same_new (o := .tup ([V.str r.1] ++ (nums r).map V.int)) ht3
          walk_at "rr"
          refine r_app (s89 _ _ (s38 _ _ ez3)) (szl (by omega)) ?_
          walk_at "rr"
          exact fin t3 _ s89 ⟨t3, rfl, by rw [rowV_nums]; exact upd_same⟩
    · rintro σ H3 ⟨u2, u3, u4, xs, rfl, s3, ep3, ez3, w3, l3⟩
      rw [List.length_map, List.length_map, List.take_length] at w3
      walk_at "rr"
      refine ⟨z, xs, rs, rfl, ez3, w3, g, ?_⟩
      walk_at "rr"
      refine r_itF rfl ?_
      walk_at "rr"
      exact q z xs H3 hz s3 ez3 w3
/-! ### _law_cell_at -/
abbrev s__law_cell_at : Stmt := top 21
theorem sc__law_cell_at : FnScope ["script", "k"] ["script", "k"] (defScope s__law_cell_at) := ⟨rfl, rfl, rfl, by decide +kernel, rfl, by decide +kernel, by decide +kernel⟩
def sp__law_cell_at (K : PySem.W.Frag) : Sp := fun vs H Q _ => ∃ (a : Addr) (ns : List Int) (k : Int), vs = [.ref a, .int k] ∧ SqL K H a (ns.map V.int) ∧ 0 ≤ k ∧ ns.length ≤ 63 ∧ ∀ c : Int, Q (.int c) H
theorem ok__law_cell_at {fa : Addr} {fd : FuncData} (F : Fun K "_law_cell_at" "_law_cell_at" s__law_cell_at fa fd) (TX : Tx mg) :
    FnOk P w K mg base CX0 1 fa fd ["script", "k"] (sp__law_cell_at K) := by
  refine F.ok sc__law_cell_at (fun vs H Q E h => ?_) (fun cdv A outer s H vs Q E hr h => ?_)
  · obtain ⟨a, ns, k, rfl, hS, hk, hn, q⟩ := h
    rfl
  · obtain ⟨a, ns, k, rfl, hS, hk, hn, q⟩ := h
    have hu := hu_of hr
    have hu64 := hr.units
    have hu65 := hu65_of hr
    refine ⟨_, (pss_cons (ps_if (pt_cmpR op_lt (pv 1) (pe_callB call_len (by rfl) TX.n_len (by decide +kernel) (pa_cons (pv 0) pa_nil)) (nomark _)) (pss_one (ps_ret (pe_ix ix_list (pv 0) (pv 1) (fun _ _ => rfl)))) pss_nil)
  (pss_one (ps_ret pe_int))), ?_⟩
    refine r_begin (show L2.start _ _ = [some _, some _] from rfl) ?_
    try dsimp only [cxOf]
    walk_at "rr"
    refine ⟨_, _, rfl, .inl ⟨_, hS, rfl⟩, ?_⟩
    walk_at "rr"
    refine r_d (fun hc => ?_) (fun hc => ?_)
    · walk_at "rr"
      rw [List.length_map] at hc
      obtain ⟨j, rfl⟩ : ∃ j : Nat, k = (j : Int) := ⟨k.toNat, by omega⟩
      have hj : j < ns.length := by omega
      have e : (ns.map V.int)[j]? = some (.int ns[j]) := by
        rw [List.getElem?_map, List.getElem?_eq_getElem hj]
        rfl
      refine r_ixL hS (atI_nat e) ?_
      exact q _
    · walk_at "rr"
      exact q _
/-! ### _law_stir -/
abbrev s__law_stir : Stmt := top 22
theorem sc__law_stir : FnScope ["seed", "turn", "number"] ["seed", "turn"] (defScope s__law_stir) := ⟨rfl, rfl, rfl, by decide +kernel, rfl, by decide +kernel, by decide +kernel⟩
def sp__law_stir (_ : PySem.W.Frag) : Sp := fun vs H Q _ => ∃ (s t : Int), vs = [.int s, .int t] ∧ 0 ≤ s ∧ s < 1000000000000000000000000000000000000000000 ∧ 0 ≤ t ∧ t ≤ 1000000000 ∧ ∀ i : Int, 0 ≤ i → Q (.int i) H
theorem ok__law_stir {fa : Addr} {fd : FuncData} (F : Fun K "_law_stir" "_law_stir" s__law_stir fa fd) (TX : Tx mg) :
    FnOk P w K mg base CX0 1 fa fd ["seed", "turn"] (sp__law_stir K) := by
  refine F.ok sc__law_stir (fun vs H Q E h => ?_) (fun cdv A outer s H vs Q E hr h => ?_)
  · obtain ⟨s, t, rfl, s0, s1, t0, t1, k⟩ := h
    rfl
  · obtain ⟨s, t, rfl, s0, s1, t0, t1, k⟩ := h
    have hu := hu_of hr
    have hu64 := hr.units
    have hu65 := hu65_of hr
    refine ⟨_, (pss_cons (ps_set (i := 2) sc__law_stir.nd rfl (Or.inl rfl) (pe_op op_add (pe_op op_mulW (pe_op op_add (pv 0) pe_int) pe_int) (pe_op op_mulW (pe_op op_add (pv 1) pe_int) pe_int)))
  (pss_one (ps_ret (pe_op op_mod (pe_op op_powW (pv 2) pe_int) pe_int)))), ?_⟩
    refine r_begin (show L2.start _ _ = [some _, some _, none] from rfl) ?_
    try dsimp only [cxOf]
    walk_at "rr"
    exact k _ (Int.emod_nonneg _ (by decide))
/-! ### _law_well -/
abbrev s__law_well : Stmt := top 23
theorem sc__law_well : FnScope ["cell", "k", "seed"] ["cell", "k"] (defScope s__law_well) := ⟨rfl, rfl, rfl, by decide +kernel, rfl, by decide +kernel, by decide +kernel⟩
def sp__law_well (_ : PySem.W.Frag) : Sp := fun vs H Q _ => ∃ (c k : Int), vs = [.int c, .int k] ∧ 0 ≤ k ∧ k ≤ 1000 ∧ ∀ (p : Addr) (H' : Hp), H p = none → Same H H' → WellAt H' p 0 → Q (.ref p) H'
theorem ok__law_well {fa : Addr} {fd : FuncData} (F : Fun K "_law_well" "_law_well" s__law_well fa fd) (TX : Tx mg)
    (C__law_stir : Cal P w K mg base CX0 1 "_law_stir" ["seed", "turn"] (sp__law_stir K)) :
    FnOk P w K mg base CX0 2 fa fd ["cell", "k"] (sp__law_well K) := by
  refine F.ok sc__law_well (fun vs H Q E h => ?_) (fun cdv A outer s H vs Q E hr h => ?_)
  · obtain ⟨c, k, rfl, k0, k1, q⟩ := h
    rfl
  · obtain ⟨c, k, rfl, k0, k1, q⟩ := h
    have hu := hu_of hr
    have hu64 := hr.units
    have hu65 := hu65_of hr
    have e40 : (10 : Int) ^ Int.toNat 40 = 10000000000000000000000000000000000000000 := by decide +kernel
    have e18 : (10 : Int) ^ Int.toNat 18 = 1000000000000000000 := by decide +kernel
    have g1 := Int.emod_nonneg c (show (10000000000000000000000000000000000000000 : Int) ≠ 0 by decide)
    have g2 := Int.emod_lt_of_pos c (show (0 : Int) < 10000000000000000000000000000000000000000 by decide)
    refine ⟨_, (pss_cons (ps_set (i := 2) sc__law_well.nd rfl (Or.inl rfl) (pe_op op_add (pe_op op_mul (pe_op op_mod (pv 0) (pe_op op_pow pe_int pe_int)) pe_int) (pv 1)))
  (pss_cons (ps_if (pt_cmpR op_ge (pv 0) (pe_op op_pow pe_int pe_int) (nomark _)) (pss_one (ps_ret (pe_lst (pa_cons (pe_op op_sub (pv 0) (pe_op op_pow pe_int pe_int)) (pa_cons (pv 2) (pa_cons pe_int pa_nil)))))) pss_nil)
  (pss_one (ps_ret (pe_lst (pa_cons (pe_cal C__law_stir (hr.mono (by decide)) (by rfl) pass0 (pa_cons (pv 2) (pa_cons pe_int pa_nil))) (pa_cons (pv 2) (pa_cons pe_int pa_nil)))))))), ?_⟩
    refine r_begin (show L2.start _ _ = [some _, some _, none] from rfl) ?_
    try dsimp only [cxOf]
    walk_at "rr"
    rw [e40, e18]
    refine r_d (fun hc => ?_) (fun hc => ?_)
    · walk_at "rr"
      rw [e18]
      refine ⟨by show 3 ≤ sizeLine; decide, fun p hp => ?_⟩
      walk_at "rr"
      exact q p _ hp (same_new hp) ⟨_, _, _, upd_same, by omega, by omega, by omega, by decide, by decide⟩
    · walk_at "rr"
      refine ⟨_, 0, rfl, by omega, by omega, by decide, by decide, fun i i0 => ?_⟩
      walk_at "rr"
      refine ⟨by show 3 ≤ sizeLine; decide, fun p hp => ?_⟩
      exact q p _ hp (same_new hp) ⟨_, _, _, upd_same, i0, by omega, by omega, by decide, by decide⟩
/-! ### _law_draw -/
abbrev s__law_draw : Stmt := top 24
theorem sc__law_draw : FnScope ["well", "many", "taken"] ["well", "many"] (defScope s__law_draw) := ⟨rfl, rfl, rfl, by decide +kernel, rfl, by decide +kernel, by decide +kernel⟩
def sp__law_draw (_ : PySem.W.Frag) : Sp := fun vs H Q _ => ∃ (p : Addr) (m : Int) (n : Nat), vs = [.ref p, .int m] ∧ WellAt H p n ∧ 0 < m ∧ m.natAbs < 2 ^ 220 ∧ n < 1000000000 ∧
  ∀ (i : Int) (H' : Hp), 0 ≤ i → i < m → But p H H' → WellAt H' p (n + 1) → Q (.int i) H'
theorem ok__law_draw {fa : Addr} {fd : FuncData} (F : Fun K "_law_draw" "_law_draw" s__law_draw fa fd) (TX : Tx mg)
    (C__law_stir : Cal P w K mg base CX0 1 "_law_stir" ["seed", "turn"] (sp__law_stir K)) :
    FnOk P w K mg base CX0 2 fa fd ["well", "many"] (sp__law_draw K) := by
  refine F.ok sc__law_draw (fun vs H Q E h => ?_) (fun cdv A outer s H vs Q E hr h => ?_)
  · obtain ⟨p, m, n, rfl, ⟨a, b, c, eb, h0, h1, h2, h3, h4⟩, hm, hm2, hn, k⟩ := h
    rfl
  · obtain ⟨p, m, n, rfl, ⟨a, b, c, eb, h0, h1, h2, h3, h4⟩, hm, hm2, hn, k⟩ := h
    have hu := hu_of hr
    have hu64 := hr.units
    have hu65 := hu65_of hr
    refine ⟨_, (pss_cons (ps_if (pt_cmpR op_eq (pe_ix ix_list (pv 0) pe_int (fun _ _ => rfl)) pe_int (nomark _)) (pss_cons (ps_asg (pe_op op_add (pe_ix ix_list (pv 0) pe_int (fun _ _ => rfl)) pe_int) (pg_sub (pv 0) pe_int set_list))
  (pss_one (ps_asg (pe_cal C__law_stir (hr.mono (by decide)) (by rfl) pass0 (pa_cons (pe_ix ix_list (pv 0) pe_int (fun _ _ => rfl)) (pa_cons (pe_ix ix_list (pv 0) pe_int (fun _ _ => rfl)) pa_nil))) (pg_sub (pv 0) pe_int set_list)))) pss_nil)
  (pss_cons (ps_set (i := 2) sc__law_draw.nd rfl (Or.inl rfl) (pe_op op_mod (pe_ix ix_list (pv 0) pe_int (fun _ _ => rfl)) (pv 1)))
  (pss_cons (ps_asg (pe_op op_fdivW (pe_ix ix_list (pv 0) pe_int (fun _ _ => rfl)) (pv 1)) (pg_sub (pv 0) pe_int set_list))
  (pss_one (ps_ret (pv 2)))))), ?_⟩
    refine r_begin (show L2.start _ _ = [some _, some _, none] from rfl) ?_
    try dsimp only [cxOf]
    walk_at "rr"
    rw [dint']
    refine r_d (fun hc => ?_) (fun hc => ?_)
    · walk_at "rr"
      refine r_setL (j := 2) (ys := [.int a, .int b, .int (c + 1)]) eb rfl rfl ?_
      have e2 : (upd H p (.lst [.int a, .int b, .int (c + 1)])) p = some (.lst [.int a, .int b, .int (c + 1)]) := upd_same
      walk_at "rr"
      refine ⟨b, c + 1, rfl, h1, h2, by omega, by omega, fun i i0 => ?_⟩
      walk_at "rr"
      refine r_setL (j := 0) (ys := [.int i, .int b, .int (c + 1)]) e2 rfl rfl ?_
      have e3 : (upd (upd H p (.lst [.int a, .int b, .int (c + 1)])) p (.lst [.int i, .int b, .int (c + 1)])) p = some (.lst [.int i, .int b, .int (c + 1)]) := upd_same
      walk_at "rr"
      refine r_setL (j := 0) (ys := [.int (i / m), .int b, .int (c + 1)]) e3 rfl rfl ?_
      walk_at "rr"
      exact k _ _ (Int.emod_nonneg _ (by omega)) (Int.emod_lt_of_pos _ hm) ((But.upd.trans But.upd).trans But.upd) ⟨_, _, _, upd_same, Int.ediv_nonneg i0 (by omega), h1, h2, by omega, by omega⟩
    · walk_at "rr"
      refine r_setL (j := 0) (ys := [.int (a / m), .int b, .int c]) eb rfl rfl ?_
      walk_at "rr"
      exact k _ _ (Int.emod_nonneg _ (by omega)) (Int.emod_lt_of_pos _ hm) But.upd ⟨_, _, _, upd_same, Int.ediv_nonneg h0 (by omega), h1, h2, h3, by omega⟩
/-! ### _law_wide -/
abbrev s__law_wide : Stmt := top 25
theorem sc__law_wide : FnScope ["well", "number"] ["well"] (defScope s__law_wide) := ⟨rfl, rfl, rfl, by decide +kernel, rfl, by decide +kernel, by decide +kernel⟩
def sp__law_wide (_ : PySem.W.Frag) : Sp := fun vs H Q _ => ∃ (p : Addr) (n : Nat), vs = [.ref p] ∧ WellAt H p n ∧ n + 10 < 1000000000 ∧
  ∀ (i : Int) (H' : Hp), 0 ≤ i → i < 10 ^ 60 → But p H H' → WellAt H' p (n + 3) → Q (.int i) H'
theorem ok__law_wide {fa : Addr} {fd : FuncData} (F : Fun K "_law_wide" "_law_wide" s__law_wide fa fd) (TX : Tx mg)
    (C__law_draw : Cal P w K mg base CX0 2 "_law_draw" ["well", "many"] (sp__law_draw K)) :
    FnOk P w K mg base CX0 3 fa fd ["well"] (sp__law_wide K) := by
  refine F.ok sc__law_wide (fun vs H Q E h => ?_) (fun cdv A outer s H vs Q E hr h => ?_)
  · obtain ⟨p, n, rfl, hw, hn, k⟩ := h
    rfl
  · obtain ⟨p, n, rfl, hw, hn, k⟩ := h
    have hu := hu_of hr
    have hu64 := hr.units
    have hu65 := hu65_of hr
    have e30 : (10 : Int) ^ Int.toNat 30 = 1000000000000000000000000000000 := by decide +kernel
    have e60 : (10 : Int) ^ 60 = 1000000000000000000000000000000000000000000000000000000000000 := by decide +kernel
    rw [e60] at k
    refine ⟨_, (pss_cons (ps_set (i := 1) sc__law_wide.nd rfl (Or.inl rfl) (pe_cal C__law_draw (hr.mono (by decide)) (by rfl) pass0 (pa_cons (pv 0) (pa_cons (pe_op op_powW pe_int pe_int) pa_nil))))
  (pss_cons (ps_if (pt_cmpR op_eq (pe_cal C__law_draw (hr.mono (by decide)) (by rfl) pass0 (pa_cons (pv 0) (pa_cons pe_int pa_nil))) pe_int (nomark _)) (pss_one (ps_set (i := 1) sc__law_wide.nd rfl (Or.inl rfl) (pe_op op_add (pe_op op_mulW (pv 1) (pe_op op_powW pe_int pe_int)) (pe_cal C__law_draw (hr.mono (by decide)) (by rfl) pass0 (pa_cons (pv 0) (pa_cons (pe_op op_powW pe_int pe_int) pa_nil)))))) pss_nil)
  (pss_one (ps_ret (pv 1))))), ?_⟩
    refine r_begin (show L2.start _ _ = [some _, none] from rfl) ?_
    try dsimp only [cxOf]
    walk_at "rr"
    rw [e30]
    refine ⟨p, _, _, rfl, hw, by decide, by decide, by omega, fun i H1 i0 i1 b1 W1 => ?_⟩
    walk_at "rr"
    refine ⟨p, 2, _, rfl, W1, by decide, by decide, by omega, fun j H2 _ _ b2 W2 => ?_⟩
    walk_at "rr"
    rw [dint']
    refine r_d (fun hc => ?_) (fun hc => ?_)
    · walk_at "rr"
      rw [e30]
      refine ⟨p, _, _, rfl, W2, by decide, by decide, by omega, fun i2 H3 j0 j1 b3 W3 => ?_⟩
      walk_at "rr"
      exact k _ _ (by omega) (by omega) ((b1.trans b2).trans b3) (W3.mono (by omega))
    · walk_at "rr"
      exact k i _ i0 (by omega) (b1.trans b2) (W2.mono (by omega))
/-! ### _law_row -/
abbrev s__law_row : Stmt := top 26
theorem sc__law_row : FnScope ["well", "many", "words", "at", "number"] ["well", "many"] (defScope s__law_row) := ⟨rfl, rfl, rfl, by decide +kernel, rfl, by decide +kernel, by decide +kernel⟩
def sp__law_row (_ : PySem.W.Frag) : Sp := fun vs H Q _ => ∃ (p : Addr) (many : Int) (n : Nat), vs = [.ref p, .int many] ∧ WellAt H p n ∧ 0 ≤ many ∧ many ≤ 1000 ∧ n + 20 < 1000000000 ∧
  ∀ (t : Addr) (r : Row) (H' : Hp), H t = none → RowAt H' (.ref t) r → GoodRow many r → But p H H' → Q (.ref t) H'
def words17 : List Str := ["put", "pick", "drop", "lift", "go", "back", "keep", "call", "jump", "if", "add", "less", "box", "get", "set", "tell", "sweep"]
theorem word_at {i : Int} (h0 : 0 ≤ i) (h1 : i < 17) : ∃ s : Str, atI (words17.map V.str) i = some (.str s) ∧ (9 < i → s ∈ bare) ∧ (5 < i → i ≤ 9 → s ∈ leading) ∧ (0 < i → i ≤ 5 → s ∈ reaching) ∧ (i = 0 → s = "put") := by
  have c : i = 0 ∨ i = 1 ∨ i = 2 ∨ i = 3 ∨ i = 4 ∨ i = 5 ∨ i = 6 ∨ i = 7 ∨ i = 8 ∨ i = 9 ∨ i = 10 ∨ i = 11 ∨ i = 12 ∨ i = 13 ∨ i = 14 ∨ i = 15 ∨ i = 16 := by omega
  rcases c with rfl | rfl | rfl | rfl | rfl | rfl | rfl | rfl | rfl | rfl | rfl | rfl | rfl | rfl | rfl | rfl | rfl <;> exact ⟨_, rfl, by decide +kernel, by decide +kernel, by decide +kernel, by decide +kernel⟩
theorem ok__law_row {fa : Addr} {fd : FuncData} (F : Fun K "_law_row" "_law_row" s__law_row fa fd) (TX : Tx mg)
    (C__law_draw : Cal P w K mg base CX0 2 "_law_draw" ["well", "many"] (sp__law_draw K))
    (C__law_wide : Cal P w K mg base CX0 3 "_law_wide" ["well"] (sp__law_wide K)) :
    FnOk P w K mg base CX0 4 fa fd ["well", "many"] (sp__law_row K) := by
  refine F.ok sc__law_row (fun vs H Q E h => ?_) (fun cdv A outer s H vs Q E hr h => ?_)
  · obtain ⟨p, many, n, rfl, hw, m0, m1, hn, k⟩ := h
    rfl
  · obtain ⟨p, many, n, rfl, hw, m0, m1, hn, k⟩ := h
    have hu := hu_of hr
    have hu64 := hr.units
    have hu65 := hu65_of hr
    have p60 : (6 : Int) < 10 ^ 60 := by decide +kernel
    refine ⟨_, (pss_cons (ps_set (i := 2) sc__law_row.nd rfl (Or.inl rfl) (pe_lst (pa_cons pe_str (pa_cons pe_str (pa_cons pe_str (pa_cons pe_str (pa_cons pe_str (pa_cons pe_str (pa_cons pe_str (pa_cons pe_str (pa_cons pe_str (pa_cons pe_str (pa_cons pe_str (pa_cons pe_str (pa_cons pe_str (pa_cons pe_str pa_nil))))))))))))))))
  (pss_cons (ps_set (i := 2) sc__law_row.nd rfl (Or.inl rfl) (pe_op op_cat (pv 2) (pe_lst (pa_cons pe_str (pa_cons pe_str (pa_cons pe_str pa_nil))))))
  (pss_cons (ps_set (i := 3) sc__law_row.nd rfl (Or.inl rfl) (pe_cal C__law_draw (hr.mono (by decide)) (by rfl) pass0 (pa_cons (pv 0) (pa_cons pe_int pa_nil))))
  (pss_cons (ps_if (pt_cmpR op_gt (pv 3) pe_int (nomark _)) (pss_one (ps_ret (pe_tup (pa_cons (pe_ix ix_list (pv 2) (pv 3) (fun _ _ => rfl)) pa_nil)))) pss_nil)
  (pss_cons (ps_if (pt_cmpR op_gt (pv 3) pe_int (nomark _)) (pss_one (ps_ret (pe_tup (pa_cons (pe_ix ix_list (pv 2) (pv 3) (fun _ _ => rfl)) (pa_cons (pe_cal C__law_draw (hr.mono (by decide)) (by rfl) pass0 (pa_cons (pv 0) (pa_cons (pe_op op_add (pv 1) pe_int) pa_nil))) pa_nil))))) pss_nil)
  (pss_cons (ps_set (i := 4) sc__law_row.nd rfl (Or.inl rfl) (pe_cal C__law_draw (hr.mono (by decide)) (by rfl) pass0 (pa_cons (pv 0) (pa_cons pe_int pa_nil))))
  (pss_cons (ps_if (pt_cmpR op_eq (pe_cal C__law_draw (hr.mono (by decide)) (by rfl) pass0 (pa_cons (pv 0) (pa_cons pe_int pa_nil))) pe_int (nomark _)) (pss_one (ps_set (i := 4) sc__law_row.nd rfl (Or.inl rfl) (pe_cal C__law_wide (hr.mono (by decide)) (by rfl) pass0 (pa_cons (pv 0) pa_nil)))) pss_nil)
  (pss_cons (ps_if (pt_cmpR op_gt (pv 3) pe_int (nomark _)) (pss_one (ps_ret (pe_tup (pa_cons (pe_ix ix_list (pv 2) (pv 3) (fun _ _ => rfl)) (pa_cons (pv 4) pa_nil))))) pss_nil)
  (pss_one (ps_ret (pe_tup (pa_cons pe_str (pa_cons (pe_op op_mul (pv 4) (pe_op op_sub pe_int (pe_op op_mul pe_int (pe_cal C__law_draw (hr.mono (by decide)) (by rfl) pass0 (pa_cons (pv 0) (pa_cons pe_int pa_nil)))))) pa_nil))))))))))))), ?_⟩
    refine r_begin (show L2.start _ _ = [some _, some _, none, none, none] from rfl) ?_
    try dsimp only [cxOf]
    walk_at "rr"
    refine ⟨by show 14 ≤ sizeLine; decide, fun l1 hl1 => ?_⟩
    walk_at "rr"
    refine ⟨by show 3 ≤ sizeLine; decide, fun l2 hl2 => ?_⟩
    have nl : l1 ≠ l2 := fun e => by rw [← e, upd_same] at hl2; cases hl2
    walk_at "rr"
    refine r_cat (by rw [upd_ne nl]; exact upd_same) upd_same (sz (by simp)) fun c hc => ?_
    have ec : (upd (upd (upd H l1 (.lst [.str "put", .str "pick", .str "drop", .str "lift", .str "go", .str "back", .str "keep", .str "call", .str "jump", .str "if", .str "add", .str "less", .str "box", .str "get"])) l2 (.lst [.str "set", .str "tell", .str "sweep"])) c (.lst (words17.map V.str))) c = some (.lst (words17.map V.str)) := upd_same
    have s1 : Same H (upd (upd (upd H l1 (.lst [.str "put", .str "pick", .str "drop", .str "lift", .str "go", .str "back", .str "keep", .str "call", .str "jump", .str "if", .str "add", .str "less", .str "box", .str "get"])) l2 (.lst [.str "set", .str "tell", .str "sweep"])) c (.lst (words17.map V.str))) := ((same_new hl1).trans (same_new hl2)).trans (same_new hc)
    have hcH : H c = none := ((same_new hl1).trans (same_new hl2)).free hc
    show gName 2 _ _ (upd _ c (.lst (words17.map V.str))) _
    generalize upd (upd (upd H l1 (.lst [.str "put", .str "pick", .str "drop", .str "lift", .str "go", .str "back", .str "keep", .str "call", .str "jump", .str "if", .str "add", .str "less", .str "box", .str "get"])) l2 (.lst [.str "set", .str "tell", .str "sweep"])) c (.lst (words17.map V.str)) = H1 at ec s1 ⊢
    have W1 := hw.same s1
    have ncp : c ≠ p := fun e => hw.there (by rw [← e]; exact hcH)
    walk_at "rr"
    refine ⟨p, 17, _, rfl, W1, by decide, by decide, by omega, fun at_ H2 a0 a1 b2 W2 => ?_⟩
    have ec2 := b2 _ _ ec ncp
    obtain ⟨s, es, h9, h5, h1, h0⟩ := word_at a0 a1
    have b02 : But p H H2 := (But.of s1).trans b2
    have fin : ∀ (t : Addr) (r : Row) (H' : Hp), H' t = none → But p H2 H' → WellAt H' p 0 ∨ H' p ≠ none → GoodRow many r → Q (.ref t) (upd H' t (.tup (rowV r))) := fun t r H' ht b' hp' g =>
      k t r _ ((b02.trans b').free ht (hp'.elim WellAt.there id)) ⟨t, rfl, upd_same⟩ g ((b02.trans b').trans (But.of (same_new ht)))
    walk_at "rr"
    refine r_d (fun c9 => ?_) (fun c9 => ?_)
    · walk_at "rr"
      refine r_ixl ec2 es ?_
      walk_at "rr"
      refine ⟨by show 1 ≤ sizeLine; decide, fun t ht => ?_⟩
      exact fin t (s, none) H2 ht But.refl (.inr W2.there) (.bare (h9 (by omega)))
    walk_at "rr"
    refine r_d (fun c5 => ?_) (fun c5 => ?_)
    · walk_at "rr"
      refine r_ixl ec2 es ?_
      walk_at "rr"
      refine ⟨p, _, _, rfl, W2, by omega, by omega, by omega, fun d H3 d0 d1 b3 W3 => ?_⟩
      walk_at "rr"
      refine ⟨by show 2 ≤ sizeLine; decide, fun t ht => ?_⟩
      exact fin t (s, some d) H3 ht b3 (.inr W3.there) (.lead (h5 (by omega) (by omega)) d0 (by omega) m1)
    walk_at "rr"
    refine ⟨p, 6, _, rfl, W2, by decide, by decide, by omega, fun num H3 d0 d1 b3 W3 => ?_⟩
    walk_at "rr"
    refine ⟨p, 2, _, rfl, W3, by decide, by decide, by omega, fun two H4 _ _ b4 W4 => ?_⟩
    have b24 := b3.trans b4
    walk_at "rr"
    rw [dint']
    refine r_d (fun c2 => ?_) (fun c2 => ?_)
    · walk_at "rr"
      refine ⟨p, _, rfl, W4, by omega, fun num H5 d0 d2 b5 W5 => ?_⟩
      have b25 := b24.trans b5
      have W5 := W5.mono (show n + 1 + 1 + 1 + 3 ≤ n + 10 by omega)
      walk_at "rr"
      refine r_d (fun c0 => ?_) (fun c0 => ?_)
      · walk_at "rr"
        refine r_ixl (b25 _ _ ec2 ncp) es ?_
        walk_at "rr"
        refine ⟨by show 2 ≤ sizeLine; decide, fun t ht => ?_⟩
        exact fin t (s, some num) H5 ht b25 (.inr W5.there) (.reach (h1 (by omega) (by omega)) d0 d2)
      · walk_at "rr"
        refine ⟨p, 2, _, rfl, W5, by decide, by decide, by omega, fun two H6 t0 t1 b6 W6 => ?_⟩
        walk_at "rr"
        refine ⟨by show 2 ≤ sizeLine; decide, fun t ht => ?_⟩
        have e2 : two = 0 ∨ two = 1 := by omega
        have g : GoodRow many ("put", some (num * (1 - 2 * two))) := by
          rcases e2 with e | e <;> rw [e]
          · rw [show (1 : Int) - 2 * 0 = 1 from rfl, Int.mul_one]
            exact .put (by omega) d2
          · rw [show (1 : Int) - 2 * 1 = -1 from rfl, Int.mul_neg, Int.mul_one]
            exact .put (by omega) (by omega)
        exact fin t _ H6 ht (b25.trans b6) (.inr W6.there) g
    · have b25 := b24
      have W5 := W4.mono (show n + 1 + 1 + 1 ≤ n + 10 by omega)
      have d2 : num < 10 ^ 60 := by omega
      obtain ⟨H5, rfl⟩ : ∃ z, z = H4 := ⟨_, rfl⟩
      walk_at "rr"
      refine r_d (fun c0 => ?_) (fun c0 => ?_)
      · walk_at "rr"
        refine r_ixl (b25 _ _ ec2 ncp) es ?_
        walk_at "rr"
        refine ⟨by show 2 ≤ sizeLine; decide, fun t ht => ?_⟩
        exact fin t (s, some num) H5 ht b25 (.inr W5.there) (.reach (h1 (by omega) (by omega)) d0 d2)
      · walk_at "rr"
        refine ⟨p, 2, _, rfl, W5, by decide, by decide, by omega, fun two H6 t0 t1 b6 W6 => ?_⟩
        walk_at "rr"
        refine ⟨by show 2 ≤ sizeLine; decide, fun t ht => ?_⟩
        have e2 : two = 0 ∨ two = 1 := by omega
        have g : GoodRow many ("put", some (num * (1 - 2 * two))) := by
          rcases e2 with e | e <;> rw [e]
          · rw [show (1 : Int) - 2 * 0 = 1 from rfl, Int.mul_one]
            exact .put (by omega) d2
          · rw [show (1 : Int) - 2 * 1 = -1 from rfl, Int.mul_neg, Int.mul_one]
            exact .put (by omega) (by omega)
        exact fin t _ H6 ht (b25.trans b6) (.inr W6.there) g
/-! ### _law_program -/
abbrev s__law_program : Stmt := top 27
theorem sc__law_program : FnScope ["cells", "most", "head", "many", "k"] ["cells", "most"] (defScope s__law_program) := ⟨rfl, rfl, rfl, by decide +kernel, rfl, by decide +kernel, by decide +kernel⟩
def sp__law_program (K : PySem.W.Frag) : Sp := fun vs H Q _ => ∃ (a : Addr) (ns : List Int) (most : Int), vs = [.ref a, .int most] ∧ SqL K H a (ns.map V.int) ∧ ns.length ≤ 63 ∧ 0 ≤ most ∧ most ≤ 100 ∧
  ∀ (l : Addr) (xs : List V) (rs : List Row) (H' : Hp), H l = none → Same H H' → H' l = some (.lst xs) → Paired (RowAt H') xs rs → (∀ r ∈ rs, GoodRow (rs.length : Int) r) → rs.length ≤ 100 → Q (.ref l) H'
theorem ok__law_program {fa : Addr} {fd : FuncData} (F : Fun K "_law_program" "_law_program" s__law_program fa fd) (TX : Tx mg)
    (C__law_cell_at : Cal P w K mg base CX0 1 "_law_cell_at" ["script", "k"] (sp__law_cell_at K))
    (C__law_draw : Cal P w K mg base CX0 2 "_law_draw" ["well", "many"] (sp__law_draw K))
    (C__law_row : Cal P w K mg base CX0 4 "_law_row" ["well", "many"] (sp__law_row K))
    (C__law_well : Cal P w K mg base CX0 2 "_law_well" ["cell", "k"] (sp__law_well K)) :
    FnOk P w K mg base CX0 5 fa fd ["cells", "most"] (sp__law_program K) := by
  refine F.ok sc__law_program (fun vs H Q E h => ?_) (fun cdv A outer s H vs Q E hr h => ?_)
  · obtain ⟨a, ns, most, rfl, hS, hn, m0, m1, k⟩ := h
    rfl
  · obtain ⟨a, ns, most, rfl, hS, hn, m0, m1, k⟩ := h
    have hu := hu_of hr
    have hu64 := hr.units
    have hu65 := hu65_of hr
    refine ⟨_, (pss_cons (ps_set (i := 2) sc__law_program.nd rfl (Or.inl rfl) (pe_cal C__law_well (hr.mono (by decide)) (by rfl) pass0 (pa_cons (pe_cal C__law_cell_at (hr.mono (by decide)) (by rfl) pass0 (pa_cons (pv 0) (pa_cons pe_int pa_nil))) (pa_cons pe_int pa_nil))))
  (pss_cons (ps_set (i := 3) sc__law_program.nd rfl (Or.inr rfl) (pe_callB (call_min2 rfl) (by rfl) TX.n_min (by decide +kernel) (pa_cons (pv 1) (pa_cons (pe_op op_add (pe_cal C__law_draw (hr.mono (by decide)) (by rfl) pass0 (pa_cons (pv 2) (pa_cons pe_int pa_nil))) (pe_callB (call_max2 rfl) (by rfl) TX.n_max (by decide +kernel) (pa_cons pe_int (pa_cons (pe_op op_sub (pe_callB call_len (by rfl) TX.n_len (by decide +kernel) (pa_cons (pv 0) pa_nil)) pe_int) pa_nil)))) pa_nil))))
  (pss_one (ps_ret (pe_lc (own := [("k", 4)]) (g := gName 4) (tt := tYes) rfl sc__law_program.nd (pi_range1 (by rfl) TX.range (pa_cons (pv 3) pa_nil)) (blkOk_by (own := [("k", 4)]) (N := ["cells", "most", "head", "many", "k"]) (sc := defScope s__law_program) (by decide +kernel)) (fun _ _ _ _ _ => (pg_name (i := 4) sc__law_program.nd rfl (Or.inl rfl))) (fun _ _ _ _ _ => pts_nil) (fun _ _ _ _ _ => (pe_cal C__law_row (hr.mono (by decide)) (by rfl) pass0 (pa_cons (pe_cal C__law_well (hr.mono (by decide)) (by rfl) pass0 (pa_cons (pe_cal C__law_cell_at (hr.mono (by decide)) (by rfl) pass0 (pa_cons (pv 0) (pa_cons (pe_op op_add pe_int (pv 4)) pa_nil))) (pa_cons (pv 4) pa_nil))) (pa_cons (pv 3) pa_nil))))))))), ?_⟩
    refine r_begin (show L2.start _ _ = [some _, some _, none, none, none] from rfl) ?_
    try dsimp only [cxOf]
    walk_at "rr"
    refine ⟨a, ns, 0, rfl, hS, by decide, hn, fun c => ?_⟩
    walk_at "rr"
    refine ⟨c, 63, rfl, by decide, by decide, fun p H1 hp s1 W1 => ?_⟩
    walk_at "rr"
    refine ⟨p, 5, _, rfl, W1, by decide, by decide, by decide, fun d H2 d0 d1 b2 W2 => ?_⟩
    have s2 : Same H H2 := But.back s1 hp b2
    walk_at "rr"
    refine ⟨_, _, rfl, .inl ⟨_, s2.seq hS, rfl⟩, ?_⟩
    rw [List.length_map]
    walk_at "rr"
    refine ⟨_, _, rfl, ?_⟩
    walk_at "rr"
    refine ⟨_, _, rfl, ?_⟩
    obtain ⟨m, em, hm⟩ : ∃ m : Nat, (if d + (if (ns.length : Int) - 1 > 0 then (ns.length : Int) - 1 else 0) < most then d + (if (ns.length : Int) - 1 > 0 then (ns.length : Int) - 1 else 0) else most) = (m : Int) ∧ m ≤ 100 := by
      refine ⟨(if d + (if (ns.length : Int) - 1 > 0 then (ns.length : Int) - 1 else 0) < most then d + (if (ns.length : Int) - 1 > 0 then (ns.length : Int) - 1 else 0) else most).toNat, ?_, ?_⟩ <;> (repeat' split) <;> omega
    walk_at "rr"
    rw [em]
    rw [Int.toNat_natCast]
    refine C_range (fun D i H3 => H2 D = none ∧ ∃ (xs : List V) (rs : List Row), H3 D = some (.lst xs) ∧ Same H2 H3 ∧ xs.length = i ∧ Paired (RowAt H3) xs rs ∧ ∀ r ∈ rs, GoodRow (m : Int) r)
      (fun D hD => ⟨hD, [], [], upd_same, same_new hD, rfl, .nil, fun r m => (by cases m)⟩) ?_ ?_
    · rintro D i H3 hi ⟨hD, xs, rs, eD, s3, lx, wr, g⟩
      walk_at "rr"
      refine ⟨a, ns, _, rfl, (s2.trans s3).seq hS, by omega, hn, fun c => ?_⟩
      walk_at "rr"
      refine ⟨c, _, rfl, by omega, by omega, fun p H4 hp s4 W4 => ?_⟩
      walk_at "rr"
      refine ⟨p, _, _, rfl, W4, by omega, by omega, by decide, fun t r H5 ht hr5 gr b5 => ?_⟩
      have s5 : Same H3 H5 := But.back s4 hp b5
      have eD5 := s5 _ _ eD
      have up : ∀ {v : V} {r : Row}, RowAt H5 v r → RowAt (upd H5 D (.lst (xs ++ [V.ref t]))) v r := by
        rintro v r ⟨a, e, h⟩
        exact ⟨a, e, by rw [upd_ne (fun e => by rw [e, eD5] at h; cases h)]; exact h⟩
      refine ⟨xs, eD5, szl (by omega), hD, xs ++ [V.ref t], rs ++ [r], upd_same, Same.own (s3.trans s5) hD, by rw [List.length_append, lx]; rfl, paired_app (Paired.mapP wr fun _ _ h => up (h.same s5)) (.cons (up hr5) .nil), fun x mx => ?_⟩
      rcases List.mem_append.mp mx with mx | mx
      · exact g x mx
      · rw [List.mem_singleton.mp mx]
        exact gr
    · rintro D H3 hD ⟨_, xs, rs, eD, s3, lx, wr, g⟩
      have lr := paired_len wr
      exact k D xs rs H3 (s2.free hD) (s2.trans s3) eD wr (by rw [← lr, lx]; exact g) (by omega)
/-! ### _law_shown -/
abbrev s__law_shown : Stmt := top 28
theorem sc__law_shown : FnScope ["rows", "parts", "row"] ["rows"] (defScope s__law_shown) := ⟨rfl, rfl, rfl, by decide +kernel, rfl, by decide +kernel, by decide +kernel⟩
def sp__law_shown (_ : PySem.W.Frag) : Sp := fun vs H Q _ => ∃ (a : Addr) (xs : List V) (rs : List Row) (m : Int), vs = [.ref a] ∧ H a = some (.lst xs) ∧ Paired (RowAt H) xs rs ∧ (∀ r ∈ rs, GoodRow m r) ∧ rs.length ≤ 100 ∧ ∀ H', Same H H' → Q (.str (progText rs)) H'
theorem ok__law_shown {fa : Addr} {fd : FuncData} (F : Fun K "_law_shown" "_law_shown" s__law_shown fa fd) (TX : Tx mg) :
    FnOk P w K mg base CX0 1 fa fd ["rows"] (sp__law_shown K) := by
  refine F.ok sc__law_shown (fun vs H Q E h => ?_) (fun cdv A outer s H vs Q E hr h => ?_)
  · obtain ⟨a, xs, rs, m, rfl, ea, wr, g, l, q⟩ := h
    rfl
  · obtain ⟨a, xs, rs, m, rfl, ea, wr, g, l, q⟩ := h
    have hu := hu_of hr
    have hu64 := hr.units
    have hu65 := hu65_of hr
    have lx := paired_len wr
    refine ⟨_, (pss_cons (ps_set (i := 1) sc__law_shown.nd rfl (Or.inl rfl) (pe_lst pa_nil))
  (pss_cons (ps_for PassesOwn.never rfl (pi_list (pv 0)) (pg_name (i := 2) sc__law_shown.nd rfl (Or.inl rfl))
  (pss_one (ps_if (pt_cmpR op_eq (pe_callB call_len (by rfl) TX.n_len (by decide +kernel) (pa_cons (pv 2) pa_nil)) pe_int (nomark _)) (pss_one (ps_expr (pe_bm PySem.F.plainAttrs_list PySem.F.slot_list_append PySem.F.type_list_append mt_append (pv 1) (pa_cons (pe_ix ix_tup (pv 2) pe_int (fun _ _ => rfl)) pa_nil)))) (pss_one (ps_expr (pe_bm PySem.F.plainAttrs_list PySem.F.slot_list_append PySem.F.type_list_append mt_append (pv 1) (pa_cons (pe_op op_add_str (pe_op op_add_str (pe_ix ix_tup (pv 2) pe_int (fun _ _ => rfl)) pe_str) (pe_callTy call_str_int (by rfl) TX.n_str (by decide +kernel) (pa_cons (pe_ix ix_tup (pv 2) pe_int (fun _ _ => rfl)) pa_nil))) pa_nil)))))))
  (pss_one (ps_ret (pe_join pe_str (pv 1)))))), ?_⟩
    refine r_begin (show L2.start _ _ = [some _, none, none] from rfl) ?_
    try dsimp only [cxOf]
    walk_at "rr"
    refine ⟨Nat.zero_le _, fun z hz => ?_⟩
    walk_at "rr"
    have s1 := same_new (o := .lst []) hz
    have nza : a ≠ z := ne_of_none ea hz
    refine r_ilw (s1 _ _ ea) ?_
    refine L_list (xs := xs) (fun i σ H1 => ∃ u : Option V, σ = [some (.ref a), some (.ref z), u] ∧ Same H H1 ∧ H1 z = some (.lst (((rs.take i).map rowText).map V.str))) ⟨_, rfl, s1, upd_same⟩ ?_ ?_ ?_
    · rintro i σ H1 hi ⟨u, rfl, s1, ez⟩
      exact .inl (.inl (s1 _ _ ea))
    · rintro i x σ H1 hx ⟨u, rfl, s1, ez⟩
      have hi : i < xs.length := (List.getElem?_eq_some_iff.mp hx).1
      obtain ⟨r, er, t, rfl, et⟩ := G.paired_get wr hx
      have gr := g r (List.mem_of_getElem? er)
      have sm := gr.small
      have et1 := s1 _ _ et
      have fin : upd H1 z (.lst (((rs.take i).map rowText).map V.str ++ [V.str (rowText r)])) z = some (.lst (((rs.take (i + 1)).map rowText).map V.str)) := by
        rw [upd_same, List.take_add_one, er, List.map_append, List.map_append]
        rfl
      walk_at "rr"
      refine r_lent et1 ?_
      obtain ⟨w, o⟩ := r
      cases o with
      | none =>
        have et2 : H1 t = some (.tup [.str w]) := et1
        rw [row_text1] at fin
        walk_at "rr"
        refine r_itT (by rfl) ?_
        walk_at "rr"
        refine r_tyL ez ?_
        walk_at "rr"
        refine r_app ez (szl (by simp; omega)) ?_
        walk_at "rr"
        exact ⟨_, rfl, Same.own s1 hz, fin⟩
      | some n =>
        have et2 : H1 t = some (.tup [.str w, .int n]) := et1
        have b := gr.num rfl
        have nl := num_len b.1 b.2
        have e1 : (Str.ofString " ").length = 1 := by decide +kernel
        have s10 : w.length ≤ 10 := sm.2.1
        rw [row_text2] at fin
        walk_at "rr"
        refine r_itF (by rfl) ?_
        walk_at "rr"
        refine r_tyL ez ?_
        walk_at "rr"
        refine ⟨_, _, rfl, rfl, sz (by rw [e1]; omega), ?_⟩
        walk_at "rr"
        refine ⟨_, rfl, log_60 b.1 b.2, ?_⟩
        refine ⟨_, _, rfl, rfl, sz (by rw [len_app', e1]; omega), ?_⟩
        walk_at "rr"
        refine r_app ez (szl (by simp; omega)) ?_
        walk_at "rr"
        exact ⟨_, rfl, Same.own s1 hz, fin⟩
    · rintro σ H1 ⟨u, rfl, s1, ez⟩
      rw [lx, List.take_length] at ez
      walk_at "rr"
      refine ⟨_, z, _, rfl, rfl, .inl (.inl (.inl ez)), ?_, q H1 s1⟩
      have e1 : (Str.ofString "; ").length = 2 := by decide +kernel
      rw [e1]
      have : ∀ ps : List Row, (∀ p ∈ ps, GoodRow m p) → ((ps.map rowText).map (·.length)).sum ≤ 124 * ps.length := by
        intro ps
        induction ps with
        | nil => intro _; exact Nat.zero_le _
        | cons p q ih =>
          intro h
          have h1 := row_len (h p List.mem_cons_self)
          have h2 := ih fun x m => h x (List.mem_cons_of_mem _ m)
          rw [List.map_cons, List.map_cons, List.sum_cons, List.length_cons]
          omega
      have := this rs g
      rw [List.length_map]
      omega
/-! ### _law_alike -/
abbrev s__law_alike : Stmt := top 29
theorem sc__law_alike : FnScope ["found", "rows", "row"] ["found", "rows"] (defScope s__law_alike) := ⟨rfl, rfl, rfl, by decide +kernel, rfl, by decide +kernel, by decide +kernel⟩
def sp__law_alike (_ : PySem.W.Frag) : Sp := fun vs H Q _ => ∃ (a b : Addr) (xs ys : List V) (rs : List Row) (m : Int), vs = [.ref a, .ref b] ∧ H a = some (.lst xs) ∧ H b = some (.lst ys) ∧ Paired (RowAt H) xs rs ∧ Paired (RowAt H) ys rs ∧ (∀ r ∈ rs, GoodRow m r) ∧ rs.length ≤ 100 ∧ ∀ H', Same H H' → Q (.bl true) H'
theorem ok__law_alike {fa : Addr} {fd : FuncData} (F : Fun K "_law_alike" "_law_alike" s__law_alike fa fd) (TX : Tx mg) :
    FnOk P w K mg base CX0 1 fa fd ["found", "rows"] (sp__law_alike K) := by
  refine F.ok sc__law_alike (fun vs H Q E h => ?_) (fun cdv A outer s H vs Q E hr h => ?_)
  · obtain ⟨a, b, xs, ys, rs, m, rfl, ea, eb, wx, wy, g, l, q⟩ := h
    rfl
  · obtain ⟨a, b, xs, ys, rs, m, rfl, ea, eb, wx, wy, g, l, q⟩ := h
    have hu := hu_of hr
    have hu64 := hr.units
    have hu65 := hu65_of hr
    have lx := paired_len wx
    refine ⟨_, (pss_cons (ps_if (PW.pt (pw_or (pt_not (pt_val (pe_callB call_isi (by rfl) TX.n_isinstance (by decide +kernel) (pa_cons (pv 0) (pa_cons (pe_bltn (v := .ty "list") (by rfl) TX.n_list (by decide +kernel) rfl) pa_nil))))) (pw_or1 (pt_cmpR (op_neD hu64) (pv 0) (pv 1) (nomark _))))) (pss_one (ps_ret pe_bl)) pss_nil)
  (pss_one (ps_ret (pe_not (pe_callB (cr_any rfl) (by rfl) TX.n_any (by decide +kernel) (pa_cons (pe_lc (own := [("row", 2)]) (g := gName 2) (tt := tYes) rfl sc__law_alike.nd (pi_list (pv 0)) (blkOk_by (own := [("row", 2)]) (N := ["found", "rows", "row"]) (sc := defScope s__law_alike) (by decide +kernel)) (fun _ _ _ _ _ => (pg_name (i := 2) sc__law_alike.nd rfl (Or.inl rfl))) (fun _ _ _ _ _ => pts_nil) (fun _ _ _ _ _ => (pe_callB (kCallR (rIsi K) call_isi rfl) (by rfl) TX.n_isinstance (by decide +kernel) (pa_cons (pe_ix (kIxR (rIxT K) ix_tup rfl) (pv 2) (pe_un un_neg pe_int) (fun _ _ => rfl)) (pa_cons (pe_bltn (v := .ty "bool") (by rfl) TX.n_bool (by decide +kernel) rfl) pa_nil))))) pa_nil)))))), ?_⟩
    refine r_begin (show L2.start _ _ = [some _, some _, none] from rfl) ?_
    try dsimp only [cxOf]
    walk_at "rr"
    refine r_isi (ty_lst ea) (kit_list _ (by decide)) ?_
    walk_at "rr"
    refine r_itF rfl ?_
    walk_at "rr"
    refine r_neSelf (d := .list (rs.map rowd)) (n := 3) (.lst (.inl (.inl ea)) (rows_dp wx)) (.lst (.inl (.inl eb)) (rows_dp wy)) (.list (.map fun r m => row_ok (g r m))) (by decide) ?_
    walk_at "rr"
    refine r_itF rfl ?_
    walk_at "rr"
    refine r_ilw ea ?_
    refine C_list (xs := xs) (fun D i H1 => H D = none ∧ H1 D = some (.lst ((List.replicate i false).map V.bl)) ∧ Same H H1) (fun D hD => ⟨hD, upd_same, same_new hD⟩) ?_ ?_ ?_
    · rintro D i H1 hi ⟨hD, eD, s1⟩
      exact .inl (.inl (s1 _ _ ea))
    · rintro D i x H1 hx ⟨hD, eD, s1⟩
      have hi : i < xs.length := (List.getElem?_eq_some_iff.mp hx).1
      obtain ⟨r, er, t, rfl, et⟩ := G.paired_get wx hx
      have et1 := s1 _ _ et
      have fin : ∀ b : Bool, b = false → ∃ acc, H1 D = some (.lst acc) ∧ acc.length < sizeLine ∧ H D = none ∧ upd H1 D (.lst (acc ++ [V.bl b])) D = some (.lst ((List.replicate (i + 1) false).map V.bl)) ∧ Same H (upd H1 D (.lst (acc ++ [V.bl b]))) := by
        rintro b rfl
        refine ⟨_, eD, szl (by simp; omega), hD, ?_, Same.own s1 hD⟩
        rw [upd_same, List.replicate_succ', List.map_append]
        rfl
      walk_at "rr"
      obtain ⟨w, o⟩ := r
      cases o with
      | none =>
        have et2 : H1 t = some (.tup [.str w]) := et1
        refine r_ixt et2 (show atI [V.str w] (-1) = some (V.str w) from rfl) ?_
        walk_at "rr"
        refine r_isi ty_str (kit_bool _ (by decide)) ?_
        exact fin _ rfl
      | some n =>
        have et2 : H1 t = some (.tup [.str w, .int n]) := et1
        refine r_ixt et2 (show atI [V.str w, V.int n] (-1) = some (V.int n) from rfl) ?_
        walk_at "rr"
        refine r_isi ty_int (kit_bool _ (by decide)) ?_
        exact fin _ rfl
    · rintro D H1 hD ⟨_, eD, s1⟩
      walk_at "rr"
      refine ⟨D, _, rfl, .inl (.inl eD), ?_⟩
      have : (List.replicate xs.length false).any id = false := by
        rw [List.any_eq_false]
        intro b mb
        rw [(List.mem_replicate.mp mb).2]
        decide
      rw [this]
      walk_at "rr"
      exact q H1 s1
/-! ### law -/
abbrev s_law : Stmt := top 30
theorem sc_law : FnScope ["script", "rows", "handed", "text", "found"] ["script"] (defScope s_law) := ⟨rfl, rfl, rfl, by decide +kernel, rfl, by decide +kernel, by decide +kernel⟩
def sp_law (K : PySem.W.Frag) : Sp := fun vs H Q _ => ∃ (a : Addr) (ns : List Int), vs = [.ref a] ∧ SqL K H a (ns.map V.int) ∧ ns.length ≤ 63 ∧ (∀ z ∈ ns, PySem.Builtin.Int.intBits z ≤ 1048576) ∧ ∀ H', Q (.bl true) H'
theorem ok_law {fa : Addr} {fd : FuncData} (F : Fun K "law" "law" s_law fa fd) (TX : Tx mg)
    (C__law_alike : Cal P w K mg base CX0 1 "_law_alike" ["found", "rows"] (sp__law_alike K))
    (C__law_program : Cal P w K mg base CX0 5 "_law_program" ["cells", "most"] (sp__law_program K))
    (C__law_shown : Cal P w K mg base CX0 1 "_law_shown" ["rows"] (sp__law_shown K))
    (C_read_program : Cal P w K mg base CX0 4 "read_program" ["text"] (sp_read_program K))
    (C_show_program : Cal P w K mg base CX0 1 "show_program" ["rows"] (sp_show_program K)) :
    FnOk P w K mg base CX0 6 fa fd ["script"] (sp_law K) := by
  refine F.ok sc_law (fun vs H Q E h => ?_) (fun cdv A outer s H vs Q E hr h => ?_)
  · obtain ⟨a, ns, rfl, hS, hn, hbits, q⟩ := h
    rfl
  · obtain ⟨a, ns, rfl, hS, hn, hbits, q⟩ := h
    have hu := hu_of hr
    have hu64 := hr.units
    have hu65 := hu65_of hr
    refine ⟨_, (pss_cons (ps_set (i := 1) sc_law.nd rfl (Or.inl rfl) (pe_cal C__law_program (hr.mono (by decide)) (by rfl) pass0 (pa_cons (pv 0) (pa_cons pe_int pa_nil))))
  (pss_cons (ps_set (i := 2) sc_law.nd rfl (Or.inl rfl) (pe_callTy call_list_of (by rfl) TX.n_list (by decide +kernel) (pa_cons (pv 1) pa_nil)))
  (pss_cons (ps_set (i := 3) sc_law.nd rfl (Or.inl rfl) (pe_cal C_show_program (hr.mono (by decide)) (by rfl) pass0 (pa_cons (pv 2) pa_nil)))
  (pss_cons (ps_if (PW.pt (pw_or (pt_not (pt_val (pe_callB call_isi (by rfl) TX.n_isinstance (by decide +kernel) (pa_cons (pv 3) (pa_cons (pe_bltn (v := .ty "str") (by rfl) TX.n_str (by decide +kernel) rfl) pa_nil))))) (pw_or (pt_cmpR op_ne (pv 3) (pe_cal C__law_shown (hr.mono (by decide)) (by rfl) pass0 (pa_cons (pv 1) pa_nil)) (nomark _)) (pw_or1 (pt_cmpR (op_neD hu64) (pv 2) (pv 1) (nomark _)))))) (pss_one (ps_ret pe_bl)) pss_nil)
  (pss_cons (ps_set (i := 4) sc_law.nd rfl (Or.inl rfl) (pe_cal C_read_program (hr.mono (by decide)) (by rfl) pass0 (pa_cons (pv 3) pa_nil)))
  (pss_cons (ps_if (pt_not (pt_val (pe_cal C__law_alike (hr.mono (by decide)) (by rfl) pass0 (pa_cons (pv 4) (pa_cons (pv 1) pa_nil))))) (pss_one (ps_ret pe_bl)) pss_nil)
  (pss_cons (ps_expr (pe_bm PySem.F.plainAttrs_list PySem.F.slot_list_append PySem.F.type_list_append mt_append (pv 4) (pa_cons (pe_tup (pa_cons pe_str pa_nil)) pa_nil)))
  (pss_one (ps_ret (pe_cal C__law_alike (hr.mono (by decide)) (by rfl) pass0 (pa_cons (pe_cal C_read_program (hr.mono (by decide)) (by rfl) pass0 (pa_cons (pe_cal C__law_shown (hr.mono (by decide)) (by rfl) pass0 (pa_cons (pv 1) pa_nil)) pa_nil)) (pa_cons (pv 1) pa_nil)))))))))))), ?_⟩
    refine r_begin (show L2.start _ _ = [some _, none, none, none, none] from rfl) ?_
    try dsimp only [cxOf]
    walk_at "rr"
    refine ⟨a, ns, 40, rfl, hS, hn, by decide, by decide, fun l xs rs H1 hl s1 el wr g lr => ?_⟩
    have lx := paired_len wr
    walk_at "rr"
    refine ⟨l, xs, rfl, .inl (.inl (.inl el)), fun h hh => ?_⟩
    have s2 := same_new (o := .lst xs) hh
    have eh : (upd H1 h (.lst xs)) h = some (.lst xs) := upd_same
    have el2 := s2 _ _ el
    have wr2 := Paired.mapP wr fun _ _ => RowAt.same s2
    generalize upd H1 h (.lst xs) = H2 at s2 eh el2 wr2 ⊢
    walk_at "rr"
    refine ⟨h, xs, rs, _, rfl, eh, wr2, g, lr, fun H3 s3 => ?_⟩
    walk_at "rr"
    refine r_isi ty_str (kit_str _ (by decide)) ?_
    walk_at "rr"
    refine r_itF rfl ?_
    walk_at "rr"
    refine ⟨l, xs, rs, _, rfl, s3 _ _ el2, Paired.mapP wr2 fun _ _ => RowAt.same s3, g, lr, fun H4 s4 => ?_⟩
    walk_at "rr"
    refine r_itF (by rw [decide_eq_true rfl]; rfl) ?_
    walk_at "rr"
    have s24 := s3.trans s4
    have wr4 := Paired.mapP wr2 fun _ _ => RowAt.same s24
    refine r_neSelf (d := .list (rs.map rowd)) (n := 3) (.lst (.inl (.inl (s24 _ _ eh))) (rows_dp wr4)) (.lst (.inl (.inl (s24 _ _ el2))) (rows_dp wr4)) (.list (.map fun r m => row_ok (g r m))) (by decide) ?_
    walk_at "rr"
    refine r_itF rfl ?_
    walk_at "rr"
    refine ⟨rs, rfl, g, lr, fun f ys H5 hf s5 ef wf => ?_⟩
    have el5 := s5 _ _ (s24 _ _ el2)
    have lf := paired_len wf
    walk_at "rr"
    refine ⟨f, l, ys, xs, rs, _, rfl, ef, el5, wf, Paired.mapP wr4 fun _ _ => RowAt.same s5, g, lr, fun H6 s6 => ?_⟩
    walk_at "rr"
    refine r_itF rfl ?_
    walk_at "rr"
    refine r_tyL (s6 _ _ ef) ?_
    walk_at "rr"
    refine ⟨by show 1 ≤ sizeLine; decide, fun t ht => ?_⟩
    have s7 := s6.trans (same_new (o := .tup [.str "add"]) ht)
    walk_at "rr"
    refine r_app (s7 _ _ ef) (szl (by omega)) ?_
    have s8 : Same H4 (upd (upd H6 t (.tup [.str "add"])) f (.lst (ys ++ [V.ref t]))) := Same.own (s5.trans s7) hf
    generalize upd (upd H6 t (.tup [.str "add"])) f (.lst (ys ++ [V.ref t])) = H8 at s8 ⊢
    have el8 := s8 _ _ (s24 _ _ el2)
    have wr8 := Paired.mapP wr4 fun _ _ => RowAt.same s8
    walk_at "rr"
    refine ⟨l, xs, rs, _, rfl, el8, wr8, g, lr, fun H9 s9 => ?_⟩
    walk_at "rr"
    refine ⟨rs, rfl, g, lr, fun f2 zs HA hf2 sA ef2 wf2 => ?_⟩
    have s8A := s9.trans sA
    walk_at "rr"
    refine ⟨f2, l, zs, xs, rs, _, rfl, ef2, s8A _ _ el8, wf2, Paired.mapP wr8 fun _ _ => RowAt.same s8A, g, lr, fun HB sB => ?_⟩
    exact q HB
end
theorem all_mk {l : PySem.W.OpenLaw} {w : World} {K : PySem.W.Frag} {h : Heap} {mg : Str → Option Value} {fa : Addr} {f1 f2 f3 f4 f5 f6 f7 f8 f9 f10 f11 f12 f13 f14 f15 f16 f17 f18 : Addr} (X : K.In h) (G : h.Ns mainGlobals mg) (hfa : mg "law" = some (.ref fa))
    {od1 an1 od2 an2 od3 an3 od4 an4 od5 an5 od6 an6 od7 an7 od8 an8 od9 an9 od10 an10 od11 an11 od12 an12 od13 an13 od14 an14 od15 an15 od16 an16 od17 an17 od18 an18 : Option Addr} {sl1 sl2 sl3 sl4 sl5 sl6 sl7 sl8 sl9 sl10 sl11 sl12 sl13 sl14 sl15 sl16 sl17 sl18 : Array (Option Value)} {oc1 kV1 dc1 pm1 cd1 ct1 oc2 kV2 dc2 pm2 cd2 ct2 oc3 kV3 dc3 pm3 cd3 ct3 oc4 kV4 dc4 pm4 cd4 ct4 oc5 kV5 dc5 pm5 cd5 ct5 oc6 kV6 dc6 pm6 cd6 ct6 oc7 kV7 dc7 pm7 cd7 ct7 oc8 kV8 dc8 pm8 cd8 ct8 oc9 kV9 dc9 pm9 cd9 ct9 oc10 kV10 dc10 pm10 cd10 ct10 oc11 kV11 dc11 pm11 cd11 ct11 oc12 kV12 dc12 pm12 cd12 ct12 oc13 kV13 dc13 pm13 cd13 ct13 oc14 kV14 dc14 pm14 cd14 ct14 oc15 kV15 dc15 pm15 cd15 ct15 oc16 kV16 dc16 pm16 cd16 ct16 oc17 kV17 dc17 pm17 cd17 ct17 oc18 kV18 dc18 pm18 cd18 ct18 : Value}
    (a1 : PySem.W.nsIn K mainGlobals "is_whole" = some (some (.ref f1))) (l1 : K.lookup f1 = some ⟨oc1, od1, .func (PySem.W.fnOf "is_whole" "is_whole" (defArgs s_is_whole) (defBody s_is_whole) (defScope s_is_whole) .none kV1 dc1 pm1 an1 cd1 ct1), sl1⟩) (c1 : PySem.W.codeIn K cd1 "is_whole" = true) (k1 : PySem.W.keepIn K (.ref f1) = true)
    (a2 : PySem.W.nsIn K mainGlobals "read_figures" = some (some (.ref f2))) (l2 : K.lookup f2 = some ⟨oc2, od2, .func (PySem.W.fnOf "read_figures" "read_figures" (defArgs s_read_figures) (defBody s_read_figures) (defScope s_read_figures) .none kV2 dc2 pm2 an2 cd2 ct2), sl2⟩) (c2 : PySem.W.codeIn K cd2 "read_figures" = true) (k2 : PySem.W.keepIn K (.ref f2) = true)
    (a3 : PySem.W.nsIn K mainGlobals "read_worth" = some (some (.ref f3))) (l3 : K.lookup f3 = some ⟨oc3, od3, .func (PySem.W.fnOf "read_worth" "read_worth" (defArgs s_read_worth) (defBody s_read_worth) (defScope s_read_worth) .none kV3 dc3 pm3 an3 cd3 ct3), sl3⟩) (c3 : PySem.W.codeIn K cd3 "read_worth" = true) (k3 : PySem.W.keepIn K (.ref f3) = true)
    (a4 : PySem.W.nsIn K mainGlobals "is_row" = some (some (.ref f4))) (l4 : K.lookup f4 = some ⟨oc4, od4, .func (PySem.W.fnOf "is_row" "is_row" (defArgs s_is_row) (defBody s_is_row) (defScope s_is_row) .none kV4 dc4 pm4 an4 cd4 ct4), sl4⟩) (c4 : PySem.W.codeIn K cd4 "is_row" = true) (k4 : PySem.W.keepIn K (.ref f4) = true)
    (a5 : PySem.W.nsIn K mainGlobals "is_program" = some (some (.ref f5))) (l5 : K.lookup f5 = some ⟨oc5, od5, .func (PySem.W.fnOf "is_program" "is_program" (defArgs s_is_program) (defBody s_is_program) (defScope s_is_program) .none kV5 dc5 pm5 an5 cd5 ct5), sl5⟩) (c5 : PySem.W.codeIn K cd5 "is_program" = true) (k5 : PySem.W.keepIn K (.ref f5) = true)
    (a6 : PySem.W.nsIn K mainGlobals "show_program" = some (some (.ref f6))) (l6 : K.lookup f6 = some ⟨oc6, od6, .func (PySem.W.fnOf "show_program" "show_program" (defArgs s_show_program) (defBody s_show_program) (defScope s_show_program) .none kV6 dc6 pm6 an6 cd6 ct6), sl6⟩) (c6 : PySem.W.codeIn K cd6 "show_program" = true) (k6 : PySem.W.keepIn K (.ref f6) = true)
    (a7 : PySem.W.nsIn K mainGlobals "read_number" = some (some (.ref f7))) (l7 : K.lookup f7 = some ⟨oc7, od7, .func (PySem.W.fnOf "read_number" "read_number" (defArgs s_read_number) (defBody s_read_number) (defScope s_read_number) .none kV7 dc7 pm7 an7 cd7 ct7), sl7⟩) (c7 : PySem.W.codeIn K cd7 "read_number" = true) (k7 : PySem.W.keepIn K (.ref f7) = true)
    (a8 : PySem.W.nsIn K mainGlobals "read_program" = some (some (.ref f8))) (l8 : K.lookup f8 = some ⟨oc8, od8, .func (PySem.W.fnOf "read_program" "read_program" (defArgs s_read_program) (defBody s_read_program) (defScope s_read_program) .none kV8 dc8 pm8 an8 cd8 ct8), sl8⟩) (c8 : PySem.W.codeIn K cd8 "read_program" = true) (k8 : PySem.W.keepIn K (.ref f8) = true)
    (a9 : PySem.W.nsIn K mainGlobals "_law_cell_at" = some (some (.ref f9))) (l9 : K.lookup f9 = some ⟨oc9, od9, .func (PySem.W.fnOf "_law_cell_at" "_law_cell_at" (defArgs s__law_cell_at) (defBody s__law_cell_at) (defScope s__law_cell_at) .none kV9 dc9 pm9 an9 cd9 ct9), sl9⟩) (c9 : PySem.W.codeIn K cd9 "_law_cell_at" = true) (k9 : PySem.W.keepIn K (.ref f9) = true)
    (a10 : PySem.W.nsIn K mainGlobals "_law_stir" = some (some (.ref f10))) (l10 : K.lookup f10 = some ⟨oc10, od10, .func (PySem.W.fnOf "_law_stir" "_law_stir" (defArgs s__law_stir) (defBody s__law_stir) (defScope s__law_stir) .none kV10 dc10 pm10 an10 cd10 ct10), sl10⟩) (c10 : PySem.W.codeIn K cd10 "_law_stir" = true) (k10 : PySem.W.keepIn K (.ref f10) = true)
    (a11 : PySem.W.nsIn K mainGlobals "_law_well" = some (some (.ref f11))) (l11 : K.lookup f11 = some ⟨oc11, od11, .func (PySem.W.fnOf "_law_well" "_law_well" (defArgs s__law_well) (defBody s__law_well) (defScope s__law_well) .none kV11 dc11 pm11 an11 cd11 ct11), sl11⟩) (c11 : PySem.W.codeIn K cd11 "_law_well" = true) (k11 : PySem.W.keepIn K (.ref f11) = true)
    (a12 : PySem.W.nsIn K mainGlobals "_law_draw" = some (some (.ref f12))) (l12 : K.lookup f12 = some ⟨oc12, od12, .func (PySem.W.fnOf "_law_draw" "_law_draw" (defArgs s__law_draw) (defBody s__law_draw) (defScope s__law_draw) .none kV12 dc12 pm12 an12 cd12 ct12), sl12⟩) (c12 : PySem.W.codeIn K cd12 "_law_draw" = true) (k12 : PySem.W.keepIn K (.ref f12) = true)
    (a13 : PySem.W.nsIn K mainGlobals "_law_wide" = some (some (.ref f13))) (l13 : K.lookup f13 = some ⟨oc13, od13, .func (PySem.W.fnOf "_law_wide" "_law_wide" (defArgs s__law_wide) (defBody s__law_wide) (defScope s__law_wide) .none kV13 dc13 pm13 an13 cd13 ct13), sl13⟩) (c13 : PySem.W.codeIn K cd13 "_law_wide" = true) (k13 : PySem.W.keepIn K (.ref f13) = true)
    (a14 : PySem.W.nsIn K mainGlobals "_law_row" = some (some (.ref f14))) (l14 : K.lookup f14 = some ⟨oc14, od14, .func (PySem.W.fnOf "_law_row" "_law_row" (defArgs s__law_row) (defBody s__law_row) (defScope s__law_row) .none kV14 dc14 pm14 an14 cd14 ct14), sl14⟩) (c14 : PySem.W.codeIn K cd14 "_law_row" = true) (k14 : PySem.W.keepIn K (.ref f14) = true)
    (a15 : PySem.W.nsIn K mainGlobals "_law_program" = some (some (.ref f15))) (l15 : K.lookup f15 = some ⟨oc15, od15, .func (PySem.W.fnOf "_law_program" "_law_program" (defArgs s__law_program) (defBody s__law_program) (defScope s__law_program) .none kV15 dc15 pm15 an15 cd15 ct15), sl15⟩) (c15 : PySem.W.codeIn K cd15 "_law_program" = true) (k15 : PySem.W.keepIn K (.ref f15) = true)
    (a16 : PySem.W.nsIn K mainGlobals "_law_shown" = some (some (.ref f16))) (l16 : K.lookup f16 = some ⟨oc16, od16, .func (PySem.W.fnOf "_law_shown" "_law_shown" (defArgs s__law_shown) (defBody s__law_shown) (defScope s__law_shown) .none kV16 dc16 pm16 an16 cd16 ct16), sl16⟩) (c16 : PySem.W.codeIn K cd16 "_law_shown" = true) (k16 : PySem.W.keepIn K (.ref f16) = true)
    (a17 : PySem.W.nsIn K mainGlobals "_law_alike" = some (some (.ref f17))) (l17 : K.lookup f17 = some ⟨oc17, od17, .func (PySem.W.fnOf "_law_alike" "_law_alike" (defArgs s__law_alike) (defBody s__law_alike) (defScope s__law_alike) .none kV17 dc17 pm17 an17 cd17 ct17), sl17⟩) (c17 : PySem.W.codeIn K cd17 "_law_alike" = true) (k17 : PySem.W.keepIn K (.ref f17) = true)
    (a18 : PySem.W.nsIn K mainGlobals "law" = some (some (.ref f18))) (l18 : K.lookup f18 = some ⟨oc18, od18, .func (PySem.W.fnOf "law" "law" (defArgs s_law) (defBody s_law) (defScope s_law) .none kV18 dc18 pm18 an18 cd18 ct18), sl18⟩) (c18 : PySem.W.codeIn K cd18 "law" = true) (k18 : PySem.W.keepIn K (.ref f18) = true)
    (z0 : PySem.W.nsIn K mainGlobals "len" = some none) (z1 : PySem.W.nsIn K mainGlobals "isinstance" = some none) (z2 : PySem.W.nsIn K mainGlobals "range" = some none) (z3 : PySem.W.nsIn K mainGlobals "max" = some none) (z4 : PySem.W.nsIn K mainGlobals "min" = some none) (z5 : PySem.W.nsIn K mainGlobals "int" = some none) (z6 : PySem.W.nsIn K mainGlobals "bool" = some none) (z7 : PySem.W.nsIn K mainGlobals "str" = some none) (z8 : PySem.W.nsIn K mainGlobals "list" = some none) (z9 : PySem.W.nsIn K mainGlobals "tuple" = some none) (z10 : PySem.W.nsIn K mainGlobals "dict" = some none) (z11 : PySem.W.nsIn K mainGlobals "sorted" = some none) (z12 : PySem.W.nsIn K mainGlobals "sum" = some none) (z13 : PySem.W.nsIn K mainGlobals "all" = some none) (z14 : PySem.W.nsIn K mainGlobals "any" = some none) (z15 : PySem.W.nsIn K mainGlobals "enumerate" = some none) (z16 : PySem.W.nsIn K mainGlobals "zip" = some none) (z17 : PySem.W.nsIn K mainGlobals "reversed" = some none)
    {dD : Addr} {esD : Array DictEntry} {nD : Nat} {tFi tMo : Tok}
    (aD : PySem.W.nsIn K mainGlobals "MARKED" = some (some (.ref dD))) (lD : K.lookup dD = some ⟨.type "dict", none, .dict esD nD, #[]⟩) (kD : PySem.W.KeysLit w.params esD.toList) (sD : (dD == sysModules) = false) (pD : pairsS esD.toList = marked.map (fun p => (some p.1, some p.2)))
    (aFi : PySem.W.nsIn K mainGlobals "FIGURES" = some (some (.str "0123456789" tFi))) (aMo : PySem.W.nsIn K mainGlobals "MOST" = some (some (.int 60 tMo)))
    {aRe aLe2 aBa : Addr} {dRe dLe2 dBa : Option Addr} {iRe iLe2 iBa : Array Value} {nRe nLe2 nBa : Nat} {sRe sLe2 sBa : Array (Option Value)}
    (gRe : PySem.W.nsIn K mainGlobals "REACHING" = some (some (.ref aRe))) (lRe : K.lookup aRe = some ⟨.type "tuple", dRe, .seq iRe nRe, sRe⟩) (vRe : strsS iRe.toList = reaching.map some)
    (gLe2 : PySem.W.nsIn K mainGlobals "LEADING" = some (some (.ref aLe2))) (lLe2 : K.lookup aLe2 = some ⟨.type "tuple", dLe2, .seq iLe2 nLe2, sLe2⟩) (vLe2 : strsS iLe2.toList = leading.map some)
    (gBa : PySem.W.nsIn K mainGlobals "BARE" = some (some (.ref aBa))) (lBa : K.lookup aBa = some ⟨.type "tuple", dBa, .seq iBa nBa, sBa⟩) (vBa : strsS iBa.toList = bare.map some)
    : ∃ fd : FuncData, (∀ (s : Shared) (v : Value), BindsTo s fd ⟨[v], []⟩ [("script", v)]) ∧ ∀ base : Heap, K.In base → base.Ns mainGlobals mg → FnOk l.prog w K mg base CX0 6 fa fd ["script"] (sp_law K) := by
  have e := hfa.symm.trans (PySem.W.mg_of X G a18)
  cases e
  have F1 := fun_mk (st := s_is_whole) l1 c1 k1
  have b1 := F1.binds (ps := ["thing"]) fun _ _ _ _ _ _ us hl => match us, hl with | [_], _ => rfl
  have F2 := fun_mk (st := s_read_figures) l2 c2 k2
  have b2 := F2.binds (ps := ["text"]) fun _ _ _ _ _ _ us hl => match us, hl with | [_], _ => rfl
  have F3 := fun_mk (st := s_read_worth) l3 c3 k3
  have b3 := F3.binds (ps := ["text"]) fun _ _ _ _ _ _ us hl => match us, hl with | [_], _ => rfl
  have F4 := fun_mk (st := s_is_row) l4 c4 k4
  have b4 := F4.binds (ps := ["thing", "many"]) fun _ _ _ _ _ _ us hl => match us, hl with | [_, _], _ => rfl
  have F5 := fun_mk (st := s_is_program) l5 c5 k5
  have b5 := F5.binds (ps := ["thing"]) fun _ _ _ _ _ _ us hl => match us, hl with | [_], _ => rfl
  have F6 := fun_mk (st := s_show_program) l6 c6 k6
  have b6 := F6.binds (ps := ["rows"]) fun _ _ _ _ _ _ us hl => match us, hl with | [_], _ => rfl
  have F7 := fun_mk (st := s_read_number) l7 c7 k7
  have b7 := F7.binds (ps := ["text"]) fun _ _ _ _ _ _ us hl => match us, hl with | [_], _ => rfl
  have F8 := fun_mk (st := s_read_program) l8 c8 k8
  have b8 := F8.binds (ps := ["text"]) fun _ _ _ _ _ _ us hl => match us, hl with | [_], _ => rfl
  have F9 := fun_mk (st := s__law_cell_at) l9 c9 k9
  have b9 := F9.binds (ps := ["script", "k"]) fun _ _ _ _ _ _ us hl => match us, hl with | [_, _], _ => rfl
  have F10 := fun_mk (st := s__law_stir) l10 c10 k10
  have b10 := F10.binds (ps := ["seed", "turn"]) fun _ _ _ _ _ _ us hl => match us, hl with | [_, _], _ => rfl
  have F11 := fun_mk (st := s__law_well) l11 c11 k11
  have b11 := F11.binds (ps := ["cell", "k"]) fun _ _ _ _ _ _ us hl => match us, hl with | [_, _], _ => rfl
  have F12 := fun_mk (st := s__law_draw) l12 c12 k12
  have b12 := F12.binds (ps := ["well", "many"]) fun _ _ _ _ _ _ us hl => match us, hl with | [_, _], _ => rfl
  have F13 := fun_mk (st := s__law_wide) l13 c13 k13
  have b13 := F13.binds (ps := ["well"]) fun _ _ _ _ _ _ us hl => match us, hl with | [_], _ => rfl
  have F14 := fun_mk (st := s__law_row) l14 c14 k14
  have b14 := F14.binds (ps := ["well", "many"]) fun _ _ _ _ _ _ us hl => match us, hl with | [_, _], _ => rfl
  have F15 := fun_mk (st := s__law_program) l15 c15 k15
  have b15 := F15.binds (ps := ["cells", "most"]) fun _ _ _ _ _ _ us hl => match us, hl with | [_, _], _ => rfl
  have F16 := fun_mk (st := s__law_shown) l16 c16 k16
  have b16 := F16.binds (ps := ["rows"]) fun _ _ _ _ _ _ us hl => match us, hl with | [_], _ => rfl
  have F17 := fun_mk (st := s__law_alike) l17 c17 k17
  have b17 := F17.binds (ps := ["found", "rows"]) fun _ _ _ _ _ _ us hl => match us, hl with | [_, _], _ => rfl
  have F18 := fun_mk (st := s_law) l18 c18 k18
  have TX : Tx mg := ⟨PySem.W.mg_none_of X G z0, PySem.W.mg_none_of X G z1, PySem.W.mg_none_of X G z2, PySem.W.mg_none_of X G z3, PySem.W.mg_none_of X G z4, PySem.W.mg_none_of X G z5, PySem.W.mg_none_of X G z6, PySem.W.mg_none_of X G z7, PySem.W.mg_none_of X G z8, PySem.W.mg_none_of X G z9, PySem.W.mg_none_of X G z10, PySem.W.mg_none_of X G z11, PySem.W.mg_none_of X G z12, PySem.W.mg_none_of X G z13, PySem.W.mg_none_of X G z14, PySem.W.mg_none_of X G z15, PySem.W.mg_none_of X G z16, PySem.W.mg_none_of X G z17⟩
  have d_MARKED : KDict K w dD esD nD := ⟨lD, kD, sD⟩
  have g_MARKED : mg "MARKED" = some (.ref dD) := PySem.W.mg_of X G aD
  have m_MARKED := nsIn_pairs lD pD
  have g_FIGURES : mg "FIGURES" = some (.str "0123456789" tFi) := PySem.W.mg_of X G aFi
  have g_MOST : mg "MOST" = some (.int 60 tMo) := PySem.W.mg_of X G aMo
  have g_REACHING : mg "REACHING" = some (.ref aRe) := PySem.W.mg_of X G gRe
  have g_LEADING : mg "LEADING" = some (.ref aLe2) := PySem.W.mg_of X G gLe2
  have g_BARE : mg "BARE" = some (.ref aBa) := PySem.W.mg_of X G gBa
  have t_REACHING : TopT K aRe reaching := TopT.of lRe vRe (by decide)
  have t_LEADING : TopT K aLe2 leading := TopT.of lLe2 vLe2 (by decide)
  have t_BARE : TopT K aBa bare := TopT.of lBa vBa (by decide)
  refine ⟨PySem.W.fnOf "law" "law" (defArgs s_law) (defBody s_law) (defScope s_law) .none kV18 dc18 pm18 an18 cd18 ct18, fun s v => .of_eq rfl, fun base _ _ => ?_⟩
  have C_is_whole := Cal.of (ok_is_whole (P := l.prog) (w := w) (K := K) (mg := mg) (base := base) F1 TX) b1 k1 (PySem.W.mg_of X G a1)
  have C_read_figures := Cal.of (ok_read_figures (P := l.prog) (w := w) (K := K) (mg := mg) (base := base) F2 TX g_FIGURES g_MOST) b2 k2 (PySem.W.mg_of X G a2)
  have C_read_worth := Cal.of (ok_read_worth (P := l.prog) (w := w) (K := K) (mg := mg) (base := base) F3 TX C_read_figures d_MARKED g_MARKED m_MARKED) b3 k3 (PySem.W.mg_of X G a3)
  have C_is_row := Cal.of (ok_is_row (P := l.prog) (w := w) (K := K) (mg := mg) (base := base) F4 TX C_is_whole g_REACHING g_LEADING g_BARE t_REACHING t_LEADING t_BARE) b4 k4 (PySem.W.mg_of X G a4)
  have C_is_program := Cal.of (ok_is_program (P := l.prog) (w := w) (K := K) (mg := mg) (base := base) F5 TX C_is_row) b5 k5 (PySem.W.mg_of X G a5)
  have C_show_program := Cal.of (ok_show_program (P := l.prog) (w := w) (K := K) (mg := mg) (base := base) F6 TX) b6 k6 (PySem.W.mg_of X G a6)
  have C_read_number := Cal.of (ok_read_number (P := l.prog) (w := w) (K := K) (mg := mg) (base := base) F7 TX C_read_worth) b7 k7 (PySem.W.mg_of X G a7)
  have C_read_program := Cal.of (ok_read_program (P := l.prog) (w := w) (K := K) (mg := mg) (base := base) F8 TX C_is_program C_read_number) b8 k8 (PySem.W.mg_of X G a8)
  have C__law_cell_at := Cal.of (ok__law_cell_at (P := l.prog) (w := w) (K := K) (mg := mg) (base := base) F9 TX) b9 k9 (PySem.W.mg_of X G a9)
  have C__law_stir := Cal.of (ok__law_stir (P := l.prog) (w := w) (K := K) (mg := mg) (base := base) F10 TX) b10 k10 (PySem.W.mg_of X G a10)
  have C__law_well := Cal.of (ok__law_well (P := l.prog) (w := w) (K := K) (mg := mg) (base := base) F11 TX C__law_stir) b11 k11 (PySem.W.mg_of X G a11)
  have C__law_draw := Cal.of (ok__law_draw (P := l.prog) (w := w) (K := K) (mg := mg) (base := base) F12 TX C__law_stir) b12 k12 (PySem.W.mg_of X G a12)
  have C__law_wide := Cal.of (ok__law_wide (P := l.prog) (w := w) (K := K) (mg := mg) (base := base) F13 TX C__law_draw) b13 k13 (PySem.W.mg_of X G a13)
  have C__law_row := Cal.of (ok__law_row (P := l.prog) (w := w) (K := K) (mg := mg) (base := base) F14 TX C__law_draw C__law_wide) b14 k14 (PySem.W.mg_of X G a14)
  have C__law_program := Cal.of (ok__law_program (P := l.prog) (w := w) (K := K) (mg := mg) (base := base) F15 TX C__law_cell_at C__law_draw C__law_row C__law_well) b15 k15 (PySem.W.mg_of X G a15)
  have C__law_shown := Cal.of (ok__law_shown (P := l.prog) (w := w) (K := K) (mg := mg) (base := base) F16 TX) b16 k16 (PySem.W.mg_of X G a16)
  have C__law_alike := Cal.of (ok__law_alike (P := l.prog) (w := w) (K := K) (mg := mg) (base := base) F17 TX) b17 k17 (PySem.W.mg_of X G a17)
  exact ok_law F18 TX C__law_alike C__law_program C__law_shown C_read_program C_show_program
end Q
open PySem PySem.W PyProof.Rows
set_option maxHeartbeats 0 in
theorem PySem.Challenge.cw_manygoings_k56_programs_written_and_read_holds : PySem.Challenge.rw_manygoings_k56_programs_written_and_read.Holds := by
  w_on; o_law; k_head; (case hw => w_witness2)
  k_fill
  refine L2.walk_ofB (l := PySem.Challenge.rw_manygoings_k56_programs_written_and_read) (n := 63) (k := 6) (x := "script") (CX := fun _ => L2.CX0) (sp := fun w => Q.sp_law _) rfl (by decide) rfl ⟨rfl, by decide, by decide⟩ (fun w h Y => PySem.W.kIn_of Y) ?F (fun _ _ a ns hl hb _ hS => ⟨a, ns, rfl, hS, hl, hb, fun _ => rfl⟩) (fun _ _ _ _ _ h => h)
  case F =>
    intro w mg fa h KX G hmg
    refine' Q.all_mk KX G hmg ?a1 ?l1 ?c1 ?k1 ?a2 ?l2 ?c2 ?k2 ?a3 ?l3 ?c3 ?k3 ?a4 ?l4 ?c4 ?k4 ?a5 ?l5 ?c5 ?k5 ?a6 ?l6 ?c6 ?k6 ?a7 ?l7 ?c7 ?k7 ?a8 ?l8 ?c8 ?k8 ?a9 ?l9 ?c9 ?k9 ?a10 ?l10 ?c10 ?k10 ?a11 ?l11 ?c11 ?k11 ?a12 ?l12 ?c12 ?k12 ?a13 ?l13 ?c13 ?k13 ?a14 ?l14 ?c14 ?k14 ?a15 ?l15 ?c15 ?k15 ?a16 ?l16 ?c16 ?k16 ?a17 ?l17 ?c17 ?k17 ?a18 ?l18 ?c18 ?k18 ?z0 ?z1 ?z2 ?z3 ?z4 ?z5 ?z6 ?z7 ?z8 ?z9 ?z10 ?z11 ?z12 ?z13 ?z14 ?z15 ?z16 ?z17 ?aD ?lD ?kD ?sD ?pD ?aFi ?aMo ?gRe ?lRe ?vRe ?gLe2 ?lLe2 ?vLe2 ?gBa ?lBa ?vBa
    (case a1 => k_is)
    (case l1 => k_is)
    (case c1 => k_is)
    (case k1 => k_is)
    (case a2 => k_is)
    (case l2 => k_is)
    (case c2 => k_is)
    (case k2 => k_is)
    (case a3 => k_is)
    (case l3 => k_is)
    (case c3 => k_is)
    (case k3 => k_is)
    (case a4 => k_is)
    (case l4 => k_is)
    (case c4 => k_is)
    (case k4 => k_is)
    (case a5 => k_is)
    (case l5 => k_is)
    (case c5 => k_is)
    (case k5 => k_is)
    (case a6 => k_is)
    (case l6 => k_is)
    (case c6 => k_is)
    (case k6 => k_is)
    (case a7 => k_is)
    (case l7 => k_is)
    (case c7 => k_is)
    (case k7 => k_is)
    (case a8 => k_is)
    (case l8 => k_is)
    (case c8 => k_is)
    (case k8 => k_is)
    (case a9 => k_is)
    (case l9 => k_is)
    (case c9 => k_is)
    (case k9 => k_is)
    (case a10 => k_is)
    (case l10 => k_is)
    (case c10 => k_is)
    (case k10 => k_is)
    (case a11 => k_is)
    (case l11 => k_is)
    (case c11 => k_is)
    (case k11 => k_is)
    (case a12 => k_is)
    (case l12 => k_is)
    (case c12 => k_is)
    (case k12 => k_is)
    (case a13 => k_is)
    (case l13 => k_is)
    (case c13 => k_is)
    (case k13 => k_is)
    (case a14 => k_is)
    (case l14 => k_is)
    (case c14 => k_is)
    (case k14 => k_is)
    (case a15 => k_is)
    (case l15 => k_is)
    (case c15 => k_is)
    (case k15 => k_is)
    (case a16 => k_is)
    (case l16 => k_is)
    (case c16 => k_is)
    (case k16 => k_is)
    (case a17 => k_is)
    (case l17 => k_is)
    (case c17 => k_is)
    (case k17 => k_is)
    (case a18 => k_is)
    (case l18 => k_is)
    (case c18 => k_is)
    (case k18 => k_is)
    (case z0 => k_is)
    (case z1 => k_is)
    (case z2 => k_is)
    (case z3 => k_is)
    (case z4 => k_is)
    (case z5 => k_is)
    (case z6 => k_is)
    (case z7 => k_is)
    (case z8 => k_is)
    (case z9 => k_is)
    (case z10 => k_is)
    (case z11 => k_is)
    (case z12 => k_is)
    (case z13 => k_is)
    (case z14 => k_is)
    (case z15 => k_is)
    (case z16 => k_is)
    (case z17 => k_is)
    (case aD => k_is)
    (case lD => k_is)
    (case kD => k_keys)
    (case sD => decide +kernel)
    (case pD => rfl)
    (case aFi => k_is)
    (case aMo => k_is)
    (case gRe => k_is)
    (case lRe => k_is)
    (case vRe => rfl)
    (case gLe2 => k_is)
    (case lLe2 => k_is)
    (case vLe2 => rfl)
    (case gBa => k_is)
    (case lBa => k_is)
    (case vBa => rfl)
