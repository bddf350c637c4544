import PyProof.Rows.All
import Wide.All
import OpenK.AllK
import Wide.FinOn
import HandS.ForMost
import HandS.Wide
import HandS.IsInst
import HandS.EndBits
import HandS.Deep
import HandS.More
import HandS.Conv
import HandS.TupLen
import PySem.Challenge.RW_manygoings_k02_things_of_lists
set_option Elab.async false
set_option linter.all false
set_option maxRecDepth 100000
set_option maxHeartbeats 4000000
namespace G
open PySem L2
/-! ### one's own defs, called by name -/
section
variable (P : Program) (w : World) (K : PySem.W.Frag) (mg : Str → Option Value) (base : Heap)
/-- the def that the module's name x holds keeps the promise sp -/
structure Cal (CX : CXT) (k : Nat) (x : Str) (ps : List Str) (sp : Sp) : Prop where
  ex : ∃ (f : Addr) (fd : FuncData), FnOk P w K mg base CX k f fd ps sp ∧ Binds K fd ps [] ∧ PySem.W.keepIn K (.ref f) = true ∧ mg x = some (.ref f)
end
section
variable {X : Cx} {e : Expr} {es : List Expr} {pos p : Pos} {t : TA} {CX : CXT} {k j : Nat} {x : Str} {ps : List Str} {sp : Sp} {E : XK}
def tCal (sp : Sp) (E : XK) (t : TA) : TE := fun σ H Q => t σ H fun vs H1 => sp vs H1 Q E
theorem pe_cal (C : Cal X.prog X.w X.K X.mg X.base CX j x ps sp) (hr : Room j X.A) (hg : Gl X x) (hx : Passes CX X E) (ha : PA X (e :: es) t)
    (hdb : (x == ("__debug__" : Str)) = false := by decide) (he : starEach (e :: es) X.env = (false, eval e X.env) :: starEach es X.env := by rfl) (hpl : (backTo pos (starEach es X.env)).any (·.1) = false := by rfl) :
    PE X (.Call (.Name x p) (e :: es) [] pos) (tCal sp E t) := by
  obtain ⟨f, fd, F, b, kp, hm⟩ := C.ex
  have q := pe_call (p := p) (pos := pos) F hr hg hm kp b .nil hx ha hdb he hpl
  have z : tCall sp [] E t = tCal sp E t := by
    funext σ H Q
    unfold tCall tCal
    simp only [List.append_nil]
  rw [z] at q
  exact q
theorem pe_cal0 (C : Cal X.prog X.w X.K X.mg X.base CX j x ps sp) (hr : Room j X.A) (hg : Gl X x) (hx : Passes CX X E)
    (hdb : (x == ("__debug__" : Str)) = false := by decide) : PE X (.Call (.Name x p) [] [] pos) (tCal sp E tNil) := by
  obtain ⟨f, fd, F, b, kp, hm⟩ := C.ex
  have q := pe_call0 (p := p) (pos := pos) F hr hg hm kp b .nil hx hdb
  have z : tCall sp [] E tNil = tCal sp E tNil := by
    funext σ H Q
    unfold tCall tCal
    simp only [List.append_nil]
  rw [z] at q
  exact q
theorem Cal.of {P : Program} {w : World} {K : PySem.W.Frag} {mg : Str → Option Value} {base : Heap} {f : Addr} {fd : FuncData} (F : FnOk P w K mg base CX j f fd ps sp) (b : Binds K fd ps []) (kp : PySem.W.keepIn K (.ref f) = true) (hm : mg x = some (.ref f)) :
    Cal P w K mg base CX j x ps sp := ⟨f, fd, F, b, kp, hm⟩
end
/-- the built-in names that no module's name hides -/
structure Tx (mg : Str → Option Value) : Prop where
  n_len : mg "len" = none
  n_isinstance : mg "isinstance" = none
  range : mg "range" = none
  n_max : mg "max" = none
  n_min : mg "min" = none
  n_int : mg "int" = none
  n_bool : mg "bool" = none
  n_str : mg "str" = none
  n_list : mg "list" = none
  n_tuple : mg "tuple" = none
  n_dict : mg "dict" = none
  n_sorted : mg "sorted" = none
  n_sum : mg "sum" = none
  n_all : mg "all" = none
  n_any : mg "any" = none
  enumerate : mg "enumerate" = none
  zip : mg "zip" = none
  reversed : mg "reversed" = none

/-! ### readings, one step at a time -/
section
variable {σ : L2.St} {H : Hp} {Q : VK} {nx : L2.St → Hp → Prop} {rt : VK} {bk ct : L2.St → Hp → Prop} {t u : TS} {te ta tb tv : TE} {tt tc : TT} {tl : TA} {g : TG} {v x y : V} {i : Nat} {K : PySem.W.Frag}
theorem r_seq (h : t ⟨u ⟨nx, rt, bk, ct⟩, rt, bk, ct⟩ σ H) : tSeq t u ⟨nx, rt, bk, ct⟩ σ H := h
theorem r_asg (h : te σ H fun x H1 => g x σ H1 nx) : tAsg te g ⟨nx, rt, bk, ct⟩ σ H := h
theorem r_name {Q : L2.St → Hp → Prop} {σ' : L2.St} (e : σ.set i (some v) = σ') (h : Q σ' H) : gName i v σ H Q := by
  subst e
  exact h
theorem r_begin {D : Ends} {σ' : L2.St} (e : σ = σ') (h : t D σ' H) : t D σ H := by
  subst e
  exact h
theorem r_ret (h : te σ H rt) : tRet te ⟨nx, rt, bk, ct⟩ σ H := h
theorem r_retN (h : rt .non H) : tRetN ⟨nx, rt, bk, ct⟩ σ H := h
theorem r_next (h : nx σ H) : tNext ⟨nx, rt, bk, ct⟩ σ H := h
theorem r_brk (h : bk σ H) : tBreak ⟨nx, rt, bk, ct⟩ σ H := h
theorem r_cont (h : ct σ H) : tCont ⟨nx, rt, bk, ct⟩ σ H := h
theorem r_drop (h : te σ H fun _ H1 => nx σ H1) : tDrop te ⟨nx, rt, bk, ct⟩ σ H := h
theorem r_if (h : tc σ H fun b H1 => if b = true then t ⟨nx, rt, bk, ct⟩ σ H1 else u ⟨nx, rt, bk, ct⟩ σ H1) : tIfS tc t u ⟨nx, rt, bk, ct⟩ σ H := h
theorem r_var (e : σ[i]? = some (some v)) (h : Q v H) : tVar i σ H Q := ⟨v, e, h⟩
theorem r_c (h : Q v H) : tC v σ H Q := h
theorem r_op {r : R2} (h : ta σ H fun x H1 => tb σ H1 fun y H2 => r x y H2 Q) : tOp r ta tb σ H Q := h
theorem r_un {r : V → Hp → VK → Prop} (h : ta σ H fun x H1 => r x H1 Q) : tUn r ta σ H Q := h
theorem r_i0 {f : Int → Int → V} {a b : Int} (h : Q (f a b) H) : rI0 f (.int a) (.int b) H Q := ⟨a, b, rfl, rfl, h⟩
theorem r_i {C : Int → Int → Prop} {f : Int → Int → V} {a b : Int} (c : C a b) (h : Q (f a b) H) : rI C f (.int a) (.int b) H Q := ⟨a, b, rfl, rfl, c, h⟩
theorem r_u {f : Int → V} {a : Int} (h : Q (f a) H) : rU f (.int a) H Q := ⟨a, rfl, h⟩
theorem r_eq (s : scal x y = true) (h : Q (.bl (decide (x = y))) H) : rEq x y H Q := ⟨s, h⟩
theorem r_ne (s : scal x y = true) (h : Q (.bl (!decide (x = y))) H) : rNe x y H Q := ⟨s, h⟩
theorem r_test {Q : Bool → Hp → Prop} (h : te σ H fun x H' => ∃ k, x = .bl k ∧ Q k H') : tTest te σ H Q := h
theorem r_tB {Q : Bool → Hp → Prop} (h : te σ H fun x H' => ∃ k, x = .bl k ∧ Q k H') : tB te σ H Q := h
theorem r_bl {Q : Bool → Prop} {b : Bool} (h : Q b) : ∃ k, V.bl b = .bl k ∧ Q k := ⟨b, rfl, h⟩
theorem r_and {Q : Bool → Hp → Prop} (h : tt σ H fun c H1 => if c = true then tc σ H1 Q else Q false H1) : tAnd tt tc σ H Q := h
theorem r_or {Q : Bool → Hp → Prop} (h : tt σ H fun c H1 => if c = true then Q true H1 else tc σ H1 Q) : tOr tt tc σ H Q := h
theorem r_not {Q : Bool → Hp → Prop} (h : tt σ H fun c H1 => Q (!c) H1) : tNot tt σ H Q := h
theorem r_andV (h : ta σ H fun x H1 => ∃ c, x = .bl c ∧ if c = true then tb σ H1 Q else Q (.bl false) H1) : tAndV ta tb σ H Q := h
theorem r_orV (h : ta σ H fun x H1 => ∃ c, x = .bl c ∧ if c = true then Q (.bl true) H1 else tb σ H1 Q) : tOrV ta tb σ H Q := h
theorem r_notV (h : ta σ H fun x H1 => ∃ c, x = .bl c ∧ Q (.bl (!c)) H1) : tNotV ta σ H Q := h
theorem r_ifE (h : tt σ H fun c H1 => if c = true then ta σ H1 Q else tb σ H1 Q) : tIf tt ta tb σ H Q := h
theorem r_cb {r : List V → Hp → VK → Prop} (h : tl σ H fun vs H1 => r vs H1 Q) : tCB r tl σ H Q := h
theorem r_cal {sp : Sp} {E : XK} (h : tl σ H fun vs H1 => sp vs H1 Q E) : tCal sp E tl σ H Q := h
theorem r_nil {Q : List V → Hp → Prop} (h : Q [] H) : tNil σ H Q := h
theorem r_cons {Q : List V → Hp → Prop} (h : te σ H fun x H1 => tl σ H1 fun xs H2 => Q (x :: xs) H2) : tCons te tl σ H Q := h
theorem r_tup (h : tl σ H fun xs H1 => xs.length ≤ sizeLine ∧ ∀ p, H1 p = none → Q (.ref p) (upd H1 p (.tup xs))) : tTup tl σ H Q := h
theorem r_lst (h : tl σ H fun xs H1 => xs.length ≤ sizeLine ∧ ∀ p, H1 p = none → Q (.ref p) (upd H1 p (.lst xs))) : tLst tl σ H Q := h
theorem r_ixL {p : Addr} {xs : List V} {i : Int} (hs : SqL K H p xs) (e : atI xs i = some v) (h : Q v H) : rIxL K (.ref p) (.int i) H Q := ⟨p, xs, i, v, rfl, rfl, hs, e, h⟩
theorem r_ixT {p : Addr} {xs : List V} {i : Int} (hs : SqT K H p xs) (e : atI xs i = some v) (h : Q v H) : rIxT K (.ref p) (.int i) H Q := ⟨p, xs, i, v, rfl, rfl, hs, e, h⟩
theorem r_ixl {p : Addr} {xs : List V} {i : Int} (hs : H p = some (.lst xs)) (e : atI xs i = some v) (h : Q v H) : rIxL K (.ref p) (.int i) H Q := ⟨p, xs, i, v, rfl, rfl, .inl (.inl hs), e, h⟩
theorem r_ixt {p : Addr} {xs : List V} {i : Int} (hs : H p = some (.tup xs)) (e : atI xs i = some v) (h : Q v H) : rIxT K (.ref p) (.int i) H Q := ⟨p, xs, i, v, rfl, rfl, .inl (.inl hs), e, h⟩
theorem r_ixS {z : Str} {i : Int} {c : Nat} (hz : z.length ≤ sizeLine) (e : atI z.cps.toList i = some c) (h : Q (.str ⟨#[c]⟩) H) : rIxS (.str z) (.int i) H Q := ⟨z, i, c, rfl, rfl, hz, e, h⟩
theorem r_ix {r : V → V → Hp → VK → Prop} (h : r x y H Q) : (fun x y H Q => r x y H Q) x y H Q := h
theorem r_sub {o j : TE} {ts : TSet} {Q : L2.St → Hp → Prop} (h : o σ H fun a H1 => j σ H1 fun b H2 => ts a b v H2 fun H3 => Q σ H3) : gSub o j ts v σ H Q := h
theorem r_setL {p : Addr} {xs ys : List V} {k : Int} {j : Nat} {Q : Hp → Prop} (hs : H p = some (.lst xs)) (e : ixN xs.length k = some j) (e2 : xs.set j v = ys) (h : Q (upd H p (.lst ys))) : rSetL (.ref p) (.int k) v H Q := by
  subst e2
  exact ⟨p, xs, k, j, rfl, rfl, hs, e, h⟩
theorem r_gtup {p : Addr} {xs : List V} {n : Nat} {ts : TGs} {Q : L2.St → Hp → Prop} (hs : H p = some (.tup xs)) (hn : xs.length = n) (h : ts xs σ H Q) : gTup K n ts (.ref p) σ H Q := ⟨p, xs, rfl, .inl (.inl hs), hn, h⟩
theorem r_gcons {ts : TGs} {vs : List V} {Q : L2.St → Hp → Prop} (h : g v σ H fun σ' H' => ts vs σ' H' Q) : gCons g ts (v :: vs) σ H Q := ⟨v, vs, rfl, h⟩
theorem r_gnil {Q : L2.St → Hp → Prop} (h : Q σ H) : gNil [] σ H Q := ⟨rfl, h⟩
theorem r_bm {T : String} {r : V → List V → Hp → VK → Prop} (h : ta σ H fun x H1 => tyV K T x H1 ∧ tl σ H1 fun xs H2 => r x xs H2 Q) : tBM K T r ta tl σ H Q := h
theorem r_bm0 {T : String} {r : V → List V → Hp → VK → Prop} (h : ta σ H fun x H1 => tyV K T x H1 ∧ r x [] H1 Q) : tBM0 K T r ta σ H Q := h
theorem r_tyL {p : Addr} {xs : List V} {R : Prop} (hs : H p = some (.lst xs)) (h : R) : tyV K "list" (.ref p) H ∧ R := ⟨.inl ⟨rfl, _, .inl (.inl hs)⟩, h⟩
theorem r_app {p : Addr} {xs : List V} (hs : H p = some (.lst xs)) (hz : xs.length < sizeLine) (h : Q .non (upd H p (.lst (xs ++ [v])))) : rAppend (.ref p) [v] H Q := ⟨p, xs, v, rfl, rfl, hs, hz, h⟩
theorem r_rev {p : Addr} {xs : List V} (hs : H p = some (.lst xs)) (h : Q .non (upd H p (.lst xs.reverse))) : rReverse (.ref p) [] H Q := ⟨p, xs, rfl, rfl, hs, h⟩
theorem r_slc {r : V → Option Int → Option Int → Hp → VK → Prop} {to th : TO} (h : te σ H fun x H1 => to σ H1 fun l H2 => th σ H2 fun u H3 => r x l u H3 Q) : tSl r te to th σ H Q := h
theorem r_nop {Q : Option Int → Hp → Prop} (h : Q none H) : tNoPart σ H Q := h
theorem r_part {Q : Option Int → Hp → Prop} (h : te σ H fun x H1 => ∃ i, x = .int i ∧ Q (some i) H1) : tPart te σ H Q := h
theorem r_int {Q : Int → Prop} {a : Int} (h : Q a) : ∃ k, V.int a = .int k ∧ Q k := ⟨a, rfl, h⟩
theorem r_isi {T C : String} {b : Bool} (h : TyX K H x (.type T)) (e : kitB T C = some b) (q : Q (.bl b) H) : rIsi K [x, .ty C] H Q := ⟨x, .ty C, _, _, b, rfl, .ty C, h, kit_ty e, q⟩
theorem r_disp {trs : List (TE × TE)} (h : ∀ p, H p = none → tPairs trs σ (upd H p (.dK [])) fun ps H2 => H2 p = some (.dK []) ∧ ∃ kvs : List (Key × V), ps = kvs.map (fun kv => (kV kv.1, kv.2)) ∧ kvs.length ≤ 15 ∧ Q (.ref p) (upd H2 p (.dK (mergeK [] kvs)))) : tDisp trs σ H Q := h
theorem r_pcons {r : List (TE × TE)} {Q : List (V × V) → Hp → Prop} (h : ta σ H fun x H1 => tb σ H1 fun y H2 => tPairs r σ H2 fun ps H3 => Q ((x, y) :: ps) H3) : tPairs ((ta, tb) :: r) σ H Q := h
theorem r_pnil {Q : List (V × V) → Hp → Prop} (h : Q [] H) : tPairs [] σ H Q := h
theorem r_slS {z : Str} {lo hi : Option Int} (hz : z.length ≤ sizeLine) (q : Q (.str (cutS z lo hi)) H) : rSlS (.str z) lo hi H Q := ⟨z, rfl, hz, q⟩
theorem r_dput {td ty : TE} {tz : TE} (h : tz σ H fun v H1 => td σ H1 fun x H2 => ty σ H2 fun y H3 => ∃ a H4, x = .ref a ∧ DPut H3 a y v H4 ∧ nx σ H4) : sDPut td ty tz ⟨nx, rt, bk, ct⟩ σ H := h
theorem r_yes {Q : Bool → Hp → Prop} (h : Q true H) : tYes σ H Q := h
theorem r_ite {b : Bool} {A B : Prop} (h1 : b = true → A) (h2 : b = false → B) : if b = true then A else B := by
  cases b with
  | true => exact (if_pos rfl).mpr (h1 rfl)
  | false => exact (if_neg Bool.false_ne_true).mpr (h2 rfl)
theorem r_itT {b : Bool} {A B : Prop} (e : b = true) (h : A) : if b = true then A else B := by rw [if_pos e]; exact h
theorem r_itF {b : Bool} {A B : Prop} (e : b = false) (h : B) : if b = true then A else B := by rw [e]; exact (if_neg Bool.false_ne_true).mpr h
/-! loops -/
def ForL (J : It) (g : TG) (tb : TS) (nx : L2.St → Hp → Prop) (rt : VK) (σ : L2.St) (H : Hp) : Prop := ∃ W : Nat → Nat → L2.St → Hp → Prop, (∃ m, W 0 m σ H) ∧ ∀ i m σ H, W i m σ H →
  (J.stop i H ∧ nx σ H) ∨ (J.go i H ∧ ∃ N : L2.St → Hp → Prop, (∀ σ' H', N σ' H' → ∃ m', m' < m ∧ W (i + 1) m' σ' H') ∧ ∀ x H', J.yld i H x H' → g x σ H' fun σ2 H2 => tb ⟨N, rt, nx, N⟩ σ2 H2)
theorem r_for {wi : TI} {tb : TS} (h : wi σ H fun J H1 => ForL J g tb nx rt σ H1) : tFor wi g tb ⟨nx, rt, bk, ct⟩ σ H := h
theorem r_rng1 {R : It → Hp → Prop} (h : tl σ H fun vs H1 => ∃ j : Int, vs = [.int j] ∧ -(2 ^ 62) ≤ j ∧ j < 2 ^ 62 ∧ R (Itr 0 j.toNat) H1) : iRng1 tl σ H R := h
theorem r_rngv {R : Int → Prop} {n : Int} (h0 : -1000000 ≤ n) (h1 : n ≤ 1000000) (h : R n) : ∃ j : Int, [V.int n] = [.int j] ∧ -(2 ^ 62) ≤ j ∧ j < 2 ^ 62 ∧ R j := ⟨n, rfl, by omega, by omega, h⟩
theorem r_rng2 {R : It → Hp → Prop} (h : tl σ H fun vs H1 => ∃ i j : Int, vs = [.int i, .int j] ∧ (-(2 ^ 62) ≤ i ∧ i < 2 ^ 62 ∧ -(2 ^ 62) ≤ j ∧ j < 2 ^ 62) ∧ R (Itr i (j - i).toNat) H1) : iRng2 tl σ H R := h
theorem r_rngw {R : Int → Int → Prop} {n m : Int} (h0 : -1000000 ≤ n) (h1 : n ≤ 1000000) (h2 : -1000000 ≤ m) (h3 : m ≤ 1000000) (h : R n m) : ∃ i j : Int, [V.int n, V.int m] = [.int i, .int j] ∧ (-(2 ^ 62) ≤ i ∧ i < 2 ^ 62 ∧ -(2 ^ 62) ≤ j ∧ j < 2 ^ 62) ∧ R i j := ⟨n, m, rfl, by omega, h⟩
theorem L_range {lo : Int} {n : Nat} {tb : TS} (Pv : Nat → L2.St → Hp → Prop) (h0 : Pv 0 σ H)
    (hs : ∀ i σ H, i < n → Pv i σ H → g (.int (lo + i)) σ H fun σ2 H2 => tb ⟨Pv (i + 1), rt, nx, Pv (i + 1)⟩ σ2 H2) (hd : ∀ σ H, Pv n σ H → nx σ H) : ForL (Itr lo n) g tb nx rt σ H :=
  for_range (D := ⟨nx, rt, nx, nx⟩) Pv h0 hs hd
theorem L_list {a : Addr} {xs : List V} {tb : TS} (Pv : Nat → L2.St → Hp → Prop) (h0 : Pv 0 σ H) (hl : ∀ i σ H, i ≤ xs.length → Pv i σ H → SqL K H a xs)
    (hs : ∀ i x σ H, xs[i]? = some x → Pv i σ H → g x σ H fun σ2 H2 => tb ⟨Pv (i + 1), rt, nx, Pv (i + 1)⟩ σ2 H2) (hd : ∀ σ H, Pv xs.length σ H → nx σ H) : ForL (Itl K a) g tb nx rt σ H :=
  for_list (D := ⟨nx, rt, nx, nx⟩) Pv h0 hl hs hd
theorem r_ilst {R : It → Hp → Prop} (h : te σ H fun x H1 => ∃ a, x = .ref a ∧ (∃ xs, SqL K H1 a xs) ∧ R (Itl K a) H1) : iList K te σ H R := h
theorem r_ilv {R : Addr → Prop} {a : Addr} {xs : List V} (hs : SqL K H a xs) (h : R a) : ∃ b, V.ref a = .ref b ∧ (∃ xs, SqL K H b xs) ∧ R b := ⟨a, rfl, ⟨xs, hs⟩, h⟩
theorem r_ilw {R : Addr → Prop} {a : Addr} {xs : List V} (hs : H a = some (.lst xs)) (h : R a) : ∃ b, V.ref a = .ref b ∧ (∃ xs, SqL K H b xs) ∧ R b := ⟨a, rfl, ⟨xs, .inl (.inl hs)⟩, h⟩
/-! while -/
def Wh (W : Nat → L2.St → Hp → Prop) (m : Nat) (tb : TS) (nx : L2.St → Hp → Prop) (rt : VK) (σ : L2.St) (H : Hp) : Prop :=
  ∃ N : L2.St → Hp → Prop, (∀ σ' H', N σ' H' → ∃ m', m' < m ∧ W m' σ' H') ∧ tb ⟨N, rt, nx, N⟩ σ H
theorem r_while {tb : TS} (W : Nat → L2.St → Hp → Prop) (m0 : Nat) (h0 : W m0 σ H) (hs : ∀ m σ H, W m σ H → tc σ H fun b H1 => if b = true then Wh W m tb nx rt σ H1 else nx σ H1) : tWhile tc tb ⟨nx, rt, bk, ct⟩ σ H :=
  ⟨W, ⟨m0, h0⟩, hs⟩
theorem r_wh {tb : TS} {W : Nat → L2.St → Hp → Prop} {m : Nat} (h : tb ⟨fun σ' H' => ∃ m', m' < m ∧ W m' σ' H', rt, nx, fun σ' H' => ∃ m', m' < m ∧ W m' σ' H'⟩ σ H) : Wh W m tb nx rt σ H := ⟨_, fun _ _ h => h, h⟩
/-! comprehensions -/
def LcL (J : It) (g : TG) (tt : TT) (te : TE) (vs : List Nat) (σ : L2.St) (H1 : Hp) (Q : VK) : Prop := ∀ D, H1 D = none → ∃ W : Nat → Nat → Hp → Prop, (∃ m, W 0 m (upd H1 D (.lst []))) ∧ ∀ i m H, W i m H →
  (J.stop i H ∧ Q (.ref D) H) ∨ (J.go i H ∧ ∃ Nx : Hp → Prop, (∀ H', Nx H' → ∃ m', m' < m ∧ W (i + 1) m' H') ∧ ∀ x H', J.yld i H x H' → g x (wipe σ vs) H' fun σ2 H2 => wipe σ2 vs = wipe σ vs ∧ tt σ2 H2 fun b H3 =>
    if b = true then te σ2 H3 fun y H4 => ∃ acc, H4 D = some (.lst acc) ∧ acc.length < sizeLine ∧ Nx (upd H4 D (.lst (acc ++ [y]))) else Nx H3)
theorem r_lc {wi : TI} {vs : List Nat} (h : wi σ H fun J H1 => LcL J g tt te vs σ H1 Q) : tLc wi g tt te vs σ H Q := h
theorem C_range {lo : Int} {n : Nat} {vs : List Nat} (Pv : Addr → Nat → Hp → Prop) (h0 : ∀ D, H D = none → Pv D 0 (upd H D (.lst [])))
    (hs : ∀ D i H', i < n → Pv D i H' → g (.int (lo + i)) (wipe σ vs) H' fun σ2 H2 => wipe σ2 vs = wipe σ vs ∧ tt σ2 H2 fun b H3 =>
      if b = true then te σ2 H3 fun y H4 => ∃ acc, H4 D = some (.lst acc) ∧ acc.length < sizeLine ∧ Pv D (i + 1) (upd H4 D (.lst (acc ++ [y]))) else Pv D (i + 1) H3) (hd : ∀ D H', H D = none → Pv D n H' → Q (.ref D) H') : LcL (Itr lo n) g tt te vs σ H Q :=
  fun D hD => lc_range (Pv D) (h0 D hD) (hs D) (fun H' => hd D H' hD)
theorem C_list {a : Addr} {xs : List V} {vs : List Nat} (Pv : Addr → Nat → Hp → Prop) (h0 : ∀ D, H D = none → Pv D 0 (upd H D (.lst []))) (hl : ∀ D i H, i ≤ xs.length → Pv D i H → SqL K H a xs)
    (hs : ∀ D i x H', xs[i]? = some x → Pv D i H' → g x (wipe σ vs) H' fun σ2 H2 => wipe σ2 vs = wipe σ vs ∧ tt σ2 H2 fun b H3 =>
      if b = true then te σ2 H3 fun y H4 => ∃ acc, H4 D = some (.lst acc) ∧ acc.length < sizeLine ∧ Pv D (i + 1) (upd H4 D (.lst (acc ++ [y]))) else Pv D (i + 1) H3) (hd : ∀ D H', H D = none → Pv D xs.length H' → Q (.ref D) H') : LcL (Itl K a) g tt te vs σ H Q :=
  fun D hD => lc_list (K := K) (a := a) (xs := xs) (Pv D) (h0 D hD) (hl D) (hs D) (fun H' => hd D H' hD)
theorem r_wip {vs : List Nat} {σ2 : L2.St} {B : Prop} (e : wipe σ2 vs = wipe σ vs) (h : B) : wipe σ2 vs = wipe σ vs ∧ B := ⟨e, h⟩
theorem r_d {c A B : Prop} [Decidable c] (h1 : c → A) (h2 : ¬ c → B) : if decide c = true then A else B := r_ite (fun h => h1 (of_decide_eq_true h)) (fun h => h2 (of_decide_eq_false h))
theorem r_nd {c A B : Prop} [Decidable c] (h1 : ¬ c → A) (h2 : c → B) : if (!decide c) = true then A else B := r_ite (fun h => h1 (of_decide_eq_false (by simpa using h))) (fun h => h2 (of_decide_eq_true (by simpa using h)))
theorem mulL {a b : Int} (h1 : -(2 ^ 64) < a) (h2 : a < 2 ^ 64) : CMul a b := .inl ⟨h1, h2⟩
theorem mulR {a b : Int} (h1 : -(2 ^ 64) < b) (h2 : b < 2 ^ 64) : CMul a b := .inr ⟨h1, h2⟩
theorem powS {a b : Int} (h0 : 0 ≤ b) (h1 : b ≤ 1000000) (h2 : a.natAbs < 2 ^ 64) : CPow a b := ⟨h0, h1, h2⟩
theorem divS {a b : Int} (h0 : 0 < b) (h1 : b.natAbs < 2 ^ 220) : CDivW a b := wide_div h0 h1 (by decide) (by decide)
end
theorem hu65_of {A : Around} {k : Nat} (hr : Room k A) : A.units + 65 < cLine := by
  have := hr.un
  omega
theorem sz {n : Nat} (h : n ≤ 100000) : n ≤ sizeLine := Nat.le_trans h (by decide)
theorem szl {n : Nat} (h : n < 100000) : n < sizeLine := Nat.lt_of_lt_of_le h (by decide)
/-! ### heaps -/
/-- all that was tracked but at p is as it was -/
def But (p : Addr) (H H' : Hp) : Prop := ∀ b o, H b = some o → b ≠ p → H' b = some o
theorem But.refl {p : Addr} {H : Hp} : But p H H := fun _ _ h _ => h
theorem But.trans {p : Addr} {H H1 H2 : Hp} (a : But p H H1) (b : But p H1 H2) : But p H H2 := fun c o h n => b c o (a c o h n) n
theorem But.of {p : Addr} {H H' : Hp} (s : Same H H') : But p H H' := fun b o h _ => s b o h
theorem But.upd {p : Addr} {H : Hp} {o : HO} : But p H (upd H p o) := fun b u h n => by rw [upd_ne n]; exact h
theorem But.upd' {p q : Addr} {H H' : Hp} {o : HO} (h : But p H H') (n : H q = none) : But p H (L2.upd H' q o) := fun b u e k => by
  rw [upd_ne (ne_of_none e n)]
  exact h b u e k
theorem But.free {p q : Addr} {H H' : Hp} (b : But p H H') (hq : H' q = none) (hp' : H' p ≠ none) : H q = none := by
  cases e : H q with
  | none => rfl
  | some u =>
    by_cases z : q = p
    · rw [z] at hq
      exact absurd hq hp'
    · rw [b q u e z] at hq
      cases hq
theorem same_new {H : Hp} {p : Addr} {o : HO} (h : H p = none) : Same H (upd H p o) := fun b x e => by
  rw [upd_ne (ne_of_none e h)]
  exact e
theorem Same.upd' {q : Addr} {H H' : Hp} {o : HO} (h : Same H H') (n : H q = none) : Same H (L2.upd H' q o) := fun b u e => by
  rw [upd_ne (ne_of_none e n)]
  exact h b u e
theorem Same.free' {H H' : Hp} {q : Addr} (h : Same H H') (n : H' q = none) : H q = none := h.free n
theorem But.back {p : Addr} {H H1 H2 : Hp} (s : Same H H1) (n : H p = none) (b : But p H1 H2) : Same H H2 := fun c o e => b c o (s c o e) (ne_of_none e n)
/-- the bag: three whole numbers; the second one stays below 2 ^ 62, the third one counts -/
def BagAt (H : Hp) (p : Addr) (n : Nat) : Prop := ∃ a b c : Int, H p = some (.lst [.int a, .int b, .int c]) ∧ 0 ≤ b ∧ b < 4611686018427387904 ∧ 0 ≤ c ∧ c ≤ n
theorem BagAt.mono {H : Hp} {p : Addr} {n m : Nat} (h : BagAt H p n) (l : n ≤ m) : BagAt H p m := by
  obtain ⟨a, b, c, e, h1, h2, h3, h4⟩ := h
  exact ⟨a, b, c, e, h1, h2, h3, by omega⟩
theorem BagAt.there {H : Hp} {p : Addr} {n : Nat} (h : BagAt H p n) : H p ≠ none := by
  obtain ⟨a, b, c, e, _⟩ := h
  rw [e]
  simp
theorem BagAt.same {H H' : Hp} {p : Addr} {n : Nat} (h : BagAt H p n) (s : Same H H') : BagAt H' p n := by
  obtain ⟨a, b, c, e, r⟩ := h
  exact ⟨a, b, c, s _ _ e, r⟩
theorem BagAt.upd {H : Hp} {p q : Addr} {n : Nat} {o : HO} (h : BagAt H p n) (hq : H q = none) : BagAt (upd H q o) p n := h.same (same_new hq)
/-- what stood at another address is the bag no more -/
theorem BagAt.ne {H : Hp} {p q : Addr} {n : Nat} (h : BagAt H p n) {xs : List V} (e : H q = some (.tup xs)) : q ≠ p := by
  intro z
  subst z
  obtain ⟨a, b, c, e', _⟩ := h
  rw [e] at e'
  cases e'
end G
local macro_rules | `(tactic| walk_at "r1") => `(tactic| first
  | with_reducible refine G.r_seq ?_ | with_reducible refine G.r_asg ?_ | ((with_reducible refine' G.r_name ?r_h ?_); (case r_h => (simp only [L2.wipe, List.set_cons_zero, List.set_cons_succ]; exact rfl))) | with_reducible refine G.r_ret ?_ | with_reducible refine G.r_if ?_
  | ((with_reducible refine' G.r_var ?r_h ?_); (case r_h => rfl)) | with_reducible refine G.r_c ?_ | with_reducible refine G.r_op ?_ | with_reducible refine G.r_i0 ?_
  | with_reducible refine G.r_cons ?_ | with_reducible refine G.r_nil ?_ | with_reducible refine G.r_cal ?_ | with_reducible refine G.r_cb ?_ | with_reducible refine G.r_test ?_ | with_reducible refine G.r_tB ?_
  | with_reducible refine G.r_bl ?_ | with_reducible refine G.r_next ?_ | ((with_reducible refine' G.r_eq ?r_h ?_); (case r_h => rfl)) | ((with_reducible refine' G.r_ne ?r_h ?_); (case r_h => rfl))
  | with_reducible refine G.r_u ?_ | with_reducible refine G.r_un ?_ | with_reducible refine G.r_and ?_ | with_reducible refine G.r_or ?_ | with_reducible refine G.r_not ?_ | with_reducible refine G.r_andV ?_ | with_reducible refine G.r_orV ?_
  | with_reducible refine G.r_notV ?_ | with_reducible refine G.r_ifE ?_ | with_reducible refine G.r_tup ?_ | with_reducible refine G.r_lst ?_ | with_reducible refine G.r_drop ?_ | with_reducible refine G.r_retN ?_
  | with_reducible refine G.r_brk ?_ | with_reducible refine G.r_cont ?_ | with_reducible refine G.r_sub ?_ | with_reducible refine G.r_gcons ?_ | with_reducible refine G.r_gnil ?_ | with_reducible refine G.r_bm ?_ | with_reducible refine G.r_bm0 ?_
  | with_reducible refine G.r_slc ?_ | with_reducible refine G.r_nop ?_ | with_reducible refine G.r_part ?_ | with_reducible refine G.r_int ?_ | with_reducible refine G.r_yes ?_
  | with_reducible refine G.r_for ?_ | with_reducible refine G.r_rng1 ?_ | with_reducible refine G.r_rng2 ?_ | with_reducible refine G.r_ilst ?_ | with_reducible refine G.r_lc ?_ | with_reducible refine G.r_wh ?_ | with_reducible refine G.r_pcons ?_ | with_reducible refine G.r_pnil ?_
  | ((with_reducible refine' G.r_rngv ?r_h ?r_e ?_); (case r_h => omega); (case r_e => omega))
  | ((with_reducible refine' G.r_wip ?r_h ?_); (case r_h => rfl))
  | ((with_reducible refine' G.r_ixl ?r_h ?r_e ?_); (case r_h => assumption); (case r_e => rfl))
  | ((with_reducible refine' G.r_ixt ?r_h ?r_e ?_); (case r_h => assumption); (case r_e => rfl))
  | ((with_reducible refine' G.r_gtup ?r_h ?r_e ?_); (case r_h => assumption); (case r_e => rfl))
  | ((with_reducible refine' G.r_i ?r_h ?_); (case r_h => first
      | (with_reducible exact G.mulL (by omega) (by omega)) | (with_reducible exact G.mulR (by omega) (by omega)) | (with_reducible exact G.mulR (by decide) (by decide)) | (with_reducible exact G.mulL (by decide) (by decide)) | (with_reducible exact G.powS (by omega) (by omega) (by omega)) | (with_reducible exact G.divS (by omega) (by omega)) | (with_reducible exact G.divS (by assumption) (by assumption)) | (with_reducible assumption) | (show (0 : Int) < _; omega))))
local macro_rules | `(tactic| walk_at "rr") => `(tactic| repeat (walk_at "r1"))

namespace G
open PySem L2
/-! ### what kind of thing a value is -/
def kinds7 : List String := ["NoneType", "bool", "int", "str", "list", "tuple", "dict"]
theorem kit_tuple : ∀ T ∈ kinds7, kitB T "tuple" = some (T == "tuple") := by decide +kernel
theorem kit_list : ∀ T ∈ kinds7, kitB T "list" = some (T == "list") := by decide +kernel
theorem kit_str : ∀ T ∈ kinds7, kitB T "str" = some (T == "str") := by decide +kernel
theorem kit_bool : ∀ T ∈ kinds7, kitB T "bool" = some (T == "bool") := by decide +kernel
theorem kit_int : ∀ T ∈ kinds7, kitB T "int" = some (T == "int" || T == "bool") := by decide +kernel
theorem whole_of : ∀ T ∈ kinds7, ((T == "int" || T == "bool") && !(T == "bool")) = (T == "int") := by decide +kernel
section
variable {K : PySem.W.Frag} {H H' : Hp} {v : V} {t : Value}
theorem ty_tup {a : Addr} {xs : List V} (h : H a = some (.tup xs)) : TyX K H (.ref a) (.type "tuple") := .base (.tup h)
theorem ty_lst {a : Addr} {xs : List V} (h : H a = some (.lst xs)) : TyX K H (.ref a) (.type "list") := .base (.lst h)
theorem ty_dK {a : Addr} {xs : List (Key × V)} (h : H a = some (.dK xs)) : TyX K H (.ref a) (.type "dict") := .base (.dK h)
theorem ty_int {i : Int} : TyX K H (.int i) (.type "int") := .base (.int i)
theorem ty_str {i : Str} : TyX K H (.str i) (.type "str") := .base (.str i)
theorem ty_bl {i : Bool} : TyX K H (.bl i) (.type "bool") := .base (.bl i)
theorem ty_non : TyX K H .non (.type "NoneType") := .base .non
theorem TyOf.same (s : Same H H') (h : TyOf K H v t) : TyOf K H' v t := by
  cases h with
  | non => exact .non
  | bl x => exact .bl x
  | int x => exact .int x
  | str x => exact .str x
  | flt x => exact .flt x
  | lst e => exact .lst (s _ _ e)
  | frz e => exact .frz (s _ _ e)
  | tup e => exact .tup (s _ _ e)
  | dK e => exact .dK (s _ _ e)
  | dT e => exact .dT (s _ _ e)
  | ins e a b c d f => exact .ins (s _ _ e) a b c d f
theorem TyX.same (s : Same H H') (h : TyX K H v t) : TyX K H' v t := by
  cases h with
  | base h => exact .base (TyOf.same s h)
  | byt b => exact .byt b
  | set e => exact .set (s _ _ e)
  | kList e c => exact .kList e c
  | kTuple e c => exact .kTuple e c
  | kDict e c => exact .kDict e c
  | fTuple e => exact .fTuple (s _ _ e)
  | fDict e => exact .fDict (s _ _ e)
end
/-- v is something of one of the seven kinds -/
def Some7 (K : PySem.W.Frag) (H : Hp) (v : V) : Prop := ∃ T, TyX K H v (.type T) ∧ T ∈ kinds7
theorem Some7.same {K : PySem.W.Frag} {H H' : Hp} {v : V} (s : Same H H') (h : Some7 K H v) : Some7 K H' v := by
  obtain ⟨T, a, b⟩ := h
  exact ⟨T, TyX.same s a, b⟩
theorem any_non {K : PySem.W.Frag} {H : Hp} : Some7 K H .non := ⟨_, ty_non, by decide⟩
theorem any_bl {K : PySem.W.Frag} {H : Hp} {b : Bool} : Some7 K H (.bl b) := ⟨_, ty_bl, by decide⟩
theorem any_int {K : PySem.W.Frag} {H : Hp} {b : Int} : Some7 K H (.int b) := ⟨_, ty_int, by decide⟩
theorem any_str {K : PySem.W.Frag} {H : Hp} {b : Str} : Some7 K H (.str b) := ⟨_, ty_str, by decide⟩
theorem any_tup {K : PySem.W.Frag} {H : Hp} {a : Addr} {xs : List V} (h : H a = some (.tup xs)) : Some7 K H (.ref a) := ⟨_, ty_tup h, by decide⟩
theorem any_lst {K : PySem.W.Frag} {H : Hp} {a : Addr} {xs : List V} (h : H a = some (.lst xs)) : Some7 K H (.ref a) := ⟨_, ty_lst h, by decide⟩
theorem any_dK {K : PySem.W.Frag} {H : Hp} {a : Addr} {xs : List (Key × V)} (h : H a = some (.dK xs)) : Some7 K H (.ref a) := ⟨_, ty_dK h, by decide⟩
/-- a worth by its word and number -/
def isW (s : Str) (n : Int) : Bool := s == "num" || ((s == "at" || s == "box" || s == "go") && decide (0 ≤ n))
/-- v is a thing, and b says whether it is a worth -/
inductive Th (K : PySem.W.Frag) (H : Hp) : V → Bool → Prop
  | other {v : V} {T : String} (h : TyX K H v (.type T)) (m : T ∈ kinds7) (n : (T == "tuple") = false) : Th K H v false
  | tupN {a : Addr} {xs : List V} (h : H a = some (.tup xs)) (n : xs.length ≠ 2) : Th K H (.ref a) false
  | tupX {a : Addr} {x y : V} {T : String} (h : H a = some (.tup [x, y])) (hx : TyX K H x (.type T)) (m : T ∈ kinds7) (n : (T == "str") = false) : Th K H (.ref a) false
  | tupY {a : Addr} {s : Str} {y : V} {T : String} (h : H a = some (.tup [.str s, y])) (hy : TyX K H y (.type T)) (m : T ∈ kinds7) (n : (T == "int") = false) : Th K H (.ref a) false
  | tupW {a : Addr} {s : Str} {n : Int} (h : H a = some (.tup [.str s, .int n])) : Th K H (.ref a) (isW s n)
/-- only a whole number is of the kind int -/
theorem ty_is_int' {K : PySem.W.Frag} {H : Hp} {v : V} {t : Value} (h : TyX K H v t) (e : t = .type "int") : ∃ n, v = .int n := by
  cases h with
  | base h =>
    cases h with
    | int i => exact ⟨i, rfl⟩
    | _ => first | (cases e; done) | (injection e with e; exact absurd e (by decide))
  | _ => first | (cases e; done) | (injection e with e; exact absurd e (by decide))
theorem ty_is_str' {K : PySem.W.Frag} {H : Hp} {v : V} {t : Value} (h : TyX K H v t) (e : t = .type "str") : ∃ n, v = .str n := by
  cases h with
  | base h =>
    cases h with
    | str i => exact ⟨i, rfl⟩
    | _ => first | (cases e; done) | (injection e with e; exact absurd e (by decide))
  | _ => first | (cases e; done) | (injection e with e; exact absurd e (by decide))
theorem ty_is_int {K : PySem.W.Frag} {H : Hp} {v : V} (h : TyX K H v (.type "int")) : ∃ n, v = .int n := ty_is_int' h rfl
theorem ty_is_str {K : PySem.W.Frag} {H : Hp} {v : V} (h : TyX K H v (.type "str")) : ∃ n, v = .str n := ty_is_str' h rfl
/-- any tuple of two, of any kinds, is a thing -/
theorem Th.pair {K : PySem.W.Frag} {H : Hp} {a : Addr} {x y : V} (h : H a = some (.tup [x, y])) (hx : Some7 K H x) (hy : Some7 K H y) : ∃ b, Th K H (.ref a) b := by
  obtain ⟨T, tx, mx⟩ := hx
  obtain ⟨U, tu, mu⟩ := hy
  cases e : T == "str" with
  | false => exact ⟨_, .tupX h tx mx e⟩
  | true =>
    have e' := eq_of_beq e
    subst e'
    obtain ⟨s, rfl⟩ := ty_is_str tx
    cases e2 : U == "int" with
    | false => exact ⟨_, .tupY h tu mu e2⟩
    | true =>
      have e' := eq_of_beq e2
      subst e'
      obtain ⟨n, rfl⟩ := ty_is_int tu
      exact ⟨_, .tupW h⟩
theorem atI_there {α : Type} {xs : List α} {i : Int} (h0 : 0 ≤ i) (h1 : i < xs.length) : ∃ c, atI xs i = some c := by
  obtain ⟨j, rfl⟩ : ∃ j : Nat, i = (j : Int) := ⟨i.toNat, by omega⟩
  have hj : j < xs.length := by omega
  exact ⟨xs[j], atI_nat (List.getElem?_eq_getElem hj)⟩
theorem r_ixS' {H : Hp} {Q : VK} {z : Str} {i : Int} (hz : z.length ≤ sizeLine) (h0 : 0 ≤ i) (h1 : i < z.length) (h : ∀ c, Q (.str ⟨#[c]⟩) H) : rIxS (.str z) (.int i) H Q := by
  obtain ⟨c, e⟩ : ∃ c, atI z.cps.toList i = some c := atI_there h0 (by rw [Array.length_toList]; exact h1)
  exact ⟨z, i, c, rfl, rfl, hz, e, h c⟩
theorem Th.same {K : PySem.W.Frag} {H H' : Hp} {v : V} {b : Bool} (s : Same H H') (h : Th K H v b) : Th K H' v b := by
  cases h with
  | other h m n => exact .other (TyX.same s h) m n
  | tupN h n => exact .tupN (s _ _ h) n
  | tupX h hx m n => exact .tupX (s _ _ h) (TyX.same s hx) m n
  | tupY h hy m n => exact .tupY (s _ _ h) (TyX.same s hy) m n
  | tupW h => exact .tupW (s _ _ h)
/-- one of the odd things: no tuple, or one of none or two -/
inductive Odd (K : PySem.W.Frag) (H : Hp) : V → Prop
  | other {v : V} {T : String} (h : TyX K H v (.type T)) (m : T ∈ kinds7) (n : (T == "tuple") = false) : Odd K H v
  | tup0 {a : Addr} (h : H a = some (.tup [])) : Odd K H (.ref a)
  | tup2 {a : Addr} {s : Str} {n : Int} (h : H a = some (.tup [.str s, .int n])) : Odd K H (.ref a)
theorem Odd.some7 {K : PySem.W.Frag} {H : Hp} {v : V} (h : Odd K H v) : Some7 K H v := by
  cases h with
  | other h m n => exact ⟨_, h, m⟩
  | tup0 h => exact any_tup h
  | tup2 h => exact any_tup h
theorem Odd.thing {K : PySem.W.Frag} {H : Hp} {v : V} (h : Odd K H v) : ∃ b, Th K H v b := by
  cases h with
  | other h m n => exact ⟨_, .other h m n⟩
  | tup0 h => exact ⟨_, .tupN h (by decide)⟩
  | tup2 h => exact ⟨_, .tupW h⟩
end G

namespace G
open PySem L2
/-! ### worths, as they stand in the heap -/
abbrev Wo := Str × Int
def wv (w : Wo) : List V := [.str w.1, .int w.2]
/-- v is a tuple of w's text and number -/
def WoAt (H : Hp) (v : V) (w : Wo) : Prop := ∃ a, v = .ref a ∧ H a = some (.tup (wv w)) ∧ PyData.strOk w.1 = true
abbrev Wos (H : Hp) := Paired (WoAt H)
def wd (w : Wo) : PyData := .tuple [.str w.1, .int w.2]
section
variable {K : PySem.W.Frag} {H H' : Hp} {v : V} {w : Wo} {xs : List V} {ws : List Wo} {p : Addr} {n : Nat}
theorem WoAt.same (s : Same H H') (h : WoAt H v w) : WoAt H' v w := by
  obtain ⟨a, e, h, o⟩ := h
  exact ⟨a, e, s _ _ h, o⟩
theorem Wos.same (s : Same H H') (h : Wos H xs ws) : Wos H' xs ws := Paired.mapP h fun _ _ => WoAt.same s
theorem WoAt.but (b : But p H H') (B : BagAt H p n) (h : WoAt H v w) : WoAt H' v w := by
  obtain ⟨a, e, h, o⟩ := h
  exact ⟨a, e, b _ _ h (B.ne h), o⟩
theorem Wos.but (b : But p H H') (B : BagAt H p n) (h : Wos H xs ws) : Wos H' xs ws := Paired.mapP h fun _ _ => WoAt.but b B
/-- another list at l -/
theorem WoAt.upd {l : Addr} {o : HO} {ys : List V} (hl : H l = some (.lst ys)) (h : WoAt H v w) : WoAt (upd H l o) v w := by
  obtain ⟨a, e, h, k⟩ := h
  exact ⟨a, e, by rw [upd_ne (ne_of h hl (by intro q; cases q))]; exact h, k⟩
theorem Wos.upd {l : Addr} {o : HO} {ys : List V} (hl : H l = some (.lst ys)) (h : Wos H xs ws) : Wos (L2.upd H l o) xs ws := Paired.mapP h fun _ _ => WoAt.upd hl
theorem WoAt.dp (h : WoAt H v w) : Dp K H v (wd w) := by
  obtain ⟨a, rfl, h, _⟩ := h
  exact .tup (.inl (.inl h)) (.cons (.str _) (.cons (.int _) .nil))
theorem Wos.dp : ∀ {xs : List V} {ws : List Wo}, Wos H xs ws → DpAll K H xs (ws.map wd)
  | _, _, .nil => .nil
  | _, _, .cons a b => .cons a.dp (Wos.dp b)
theorem Wos.len : ∀ {xs : List V} {ws : List Wo}, Wos H xs ws → xs.length = ws.length
  | _, _, .nil => rfl
  | _, _, .cons _ b => by rw [List.length_cons, List.length_cons, Wos.len b]
theorem Wos.app {ys : List V} {us : List Wo} (h : Wos H xs ws) (g : Wos H ys us) : Wos H (xs ++ ys) (ws ++ us) := by
  induction h with
  | nil => exact g
  | cons a _ ih => exact .cons a ih
theorem Wos.one (h : WoAt H v w) : Wos H [v] [w] := .cons h .nil
theorem Wos.get : ∀ {xs : List V} {ws : List Wo} {i : Nat} {v : V}, Wos H xs ws → xs[i]? = some v → ∃ w, ws[i]? = some w ∧ WoAt H v w
  | _, _, _, _, .nil, e => by cases e
  | _, _, 0, _, .cons a _, e => ⟨_, rfl, by rw [← Option.some.inj e]; exact a⟩
  | _, _, i + 1, _, .cons _ b, e => Wos.get (i := i) b e
theorem Wos.at : ∀ {xs : List V} {ws : List Wo} {i : Nat} {w : Wo}, Wos H xs ws → ws[i]? = some w → ∃ v, xs[i]? = some v ∧ WoAt H v w
  | _, _, _, _, .nil, e => by cases e
  | _, _, 0, _, .cons a _, e => ⟨_, rfl, by rw [← Option.some.inj e]; exact a⟩
  | _, _, i + 1, _, .cons _ b, e => Wos.at (i := i) b e
theorem Wos.take : ∀ {xs : List V} {ws : List Wo} (n : Nat), Wos H xs ws → Wos H (xs.take n) (ws.take n)
  | _, _, 0, _ => .nil
  | _, _, _ + 1, .nil => .nil
  | _, _, n + 1, .cons a b => .cons a (Wos.take n b)
theorem Wos.drop : ∀ {xs : List V} {ws : List Wo} (n : Nat), Wos H xs ws → Wos H (xs.drop n) (ws.drop n)
  | _, _, 0, h => h
  | _, _, _ + 1, .nil => .nil
  | _, _, n + 1, .cons _ b => Wos.drop n b
theorem Wos.rev {xs : List V} {ws : List Wo} (h : Wos H xs ws) : Wos H xs.reverse ws.reverse := by
  induction h with
  | nil => exact .nil
  | cons a _ ih =>
    rw [List.reverse_cons, List.reverse_cons]
    exact ih.app (.one a)
theorem eqv_wd (a b : Wo) : PyData.eqv (wd a) (wd b) = decide (a = b) := by
  obtain ⟨x, i⟩ := a
  obtain ⟨y, j⟩ := b
  show (x == y && (i == j && true)) = _
  rw [Bool.eq_iff_iff]
  simp
theorem eqvAll_wds : ∀ a b : List Wo, PyData.eqvAll (a.map wd) (b.map wd) = decide (a = b)
  | [], [] => rfl
  | [], _ :: _ => rfl
  | _ :: _, [] => rfl
  | x :: r, y :: s => by
    show (PyData.eqv (wd x) (wd y) && PyData.eqvAll (r.map wd) (s.map wd)) = _
    rw [eqv_wd, eqvAll_wds r s, Bool.eq_iff_iff]
    simp
theorem eqv_wds (a b : List Wo) : PyData.eqv (.list (a.map wd)) (.list (b.map wd)) = decide (a = b) := eqvAll_wds a b
theorem WoAt.ok (h : WoAt H v w) : PyData.strOk w.1 = true := by
  obtain ⟨_, _, _, k⟩ := h
  exact k
theorem Wos.ok : ∀ {xs : List V} {ws : List Wo}, Wos H xs ws → ∀ w ∈ ws, PyData.strOk w.1 = true
  | _, _, .nil, _, h => by cases h
  | _, _, .cons a b, w, h => by
    rcases List.mem_cons.mp h with e | e
    · rw [e]
      exact a.ok
    · exact Wos.ok b w e
theorem shaped_wd {a : Wo} (h : PyData.strOk a.1 = true) : SeqAt.shaped (wd a) = true := by
  simp [SeqAt.shaped, wd, PyData.canLay0, PyData.canLayAll0, PyData.depth, PyData.depthAll, h]
theorem lay_wds : ∀ a : List Wo, (∀ w ∈ a, PyData.strOk w.1 = true) → PyData.canLayAll0 (a.map wd) = true ∧ PyData.depthAll (a.map wd) ≤ 1
  | [], _ => ⟨by simp [PyData.canLayAll0], by simp [PyData.depthAll]⟩
  | x :: r, h => by
    obtain ⟨h1, h2⟩ := lay_wds r fun w m => h w (List.mem_cons_of_mem _ m)
    constructor
    · simp [PyData.canLayAll0, wd, PyData.canLay0, h1, h x List.mem_cons_self]
    · have e : PyData.depthAll ((x :: r).map wd) = max 1 (PyData.depthAll (r.map wd)) := by
        simp [PyData.depthAll, wd, PyData.depth]
      rw [e]
      omega
theorem shaped_wds {a : List Wo} (h : ∀ w ∈ a, PyData.strOk w.1 = true) : SeqAt.shaped (.list (a.map wd)) = true := by
  obtain ⟨h1, h2⟩ := lay_wds a h
  simp [SeqAt.shaped, PyData.canLay0, h1, PyData.depth]
  omega
theorem any_wds (w : Wo) (ws : List Wo) : ((ws.map wd).any fun z => PyData.eqv z (wd w)) = decide (w ∈ ws) := by
  rw [List.any_map, Bool.eq_iff_iff, List.any_eq_true]
  simp only [Function.comp, decide_eq_true_eq, eqv_wd]
  exact ⟨fun ⟨x, h1, h2⟩ => h2 ▸ h1, fun h => ⟨w, h, rfl⟩⟩
end
/-- a list of worths at a -/
def PileAt (H : Hp) (a : Addr) (ws : List Wo) : Prop := ∃ xs, H a = some (.lst xs) ∧ Wos H xs ws
theorem PileAt.same {H H' : Hp} {a : Addr} {ws : List Wo} (s : Same H H') (h : PileAt H a ws) : PileAt H' a ws := by
  obtain ⟨xs, e, h⟩ := h
  exact ⟨xs, s _ _ e, h.same s⟩
theorem PileAt.dp {K : PySem.W.Frag} {H : Hp} {a : Addr} {ws : List Wo} (h : PileAt H a ws) : Dp K H (.ref a) (.list (ws.map wd)) := by
  obtain ⟨xs, e, h⟩ := h
  exact .lst (.inl (.inl e)) h.dp
theorem PileAt.app {H : Hp} {l : Addr} {xs : List V} {ws us : List Wo} {ys : List V} (hl : H l = some (.lst ys)) (h : Wos H xs ws) (g : ws = us) : PileAt (upd H l (.lst xs)) l us := by
  subst g
  exact ⟨xs, upd_same, h.upd hl⟩
theorem paired_dp {K : PySem.W.Frag} {H : Hp} {v : V} {w : Wo} (h : WoAt H v w) : Dp K H v (wd w) := h.dp
theorem r_eqD {K : PySem.W.Frag} {H : Hp} {Q : VK} {x y : V} {d e : PyData} (h1 : Dp K H x d) (h2 : Dp K H y e) (s1 : SeqAt.shaped d = true) (s2 : SeqAt.shaped e = true) (q : Q (.bl (PyData.eqv d e)) H) : rEqD K x y H Q := ⟨d, e, h1, h2, s1, s2, q⟩
theorem r_neD {K : PySem.W.Frag} {H : Hp} {Q : VK} {x y : V} {d e : PyData} (h1 : Dp K H x d) (h2 : Dp K H y e) (s1 : SeqAt.shaped d = true) (s2 : SeqAt.shaped e = true) (q : Q (.bl (!PyData.eqv d e)) H) : rNeD K x y H Q := ⟨d, e, h1, h2, s1, s2, q⟩
theorem r_slL {K : PySem.W.Frag} {H : Hp} {Q : VK} {a : Addr} {xs : List V} {lo hi : Option Int} (h : SqL K H a xs) (q : ∀ p, H p = none → Q (.ref p) (upd H p (.lst (cutV xs lo hi)))) : rSlL K (.ref a) lo hi H Q := ⟨a, xs, rfl, h, q⟩
theorem cut_to (xs : List V) (n : Nat) : cutV xs none (some (n : Int)) = xs.take n := by
  unfold cutV
  rw [HT.sIx_none, HT.sIx_nat, List.drop_zero, Nat.sub_zero]
  by_cases h : n ≤ xs.length
  · rw [Nat.min_eq_left h]
  · rw [Nat.min_eq_right (by omega), List.take_of_length_le (Nat.le_refl _), List.take_of_length_le (by omega)]
end G

namespace G
open PySem L2
/-! ### the things among worths -/
def isT (w : Wo) : Bool := w.1 == "box" || w.1 == "go"
def thStep (acc : List Wo) (w : Wo) : List Wo := if isT w && !decide (w ∈ acc) then acc ++ [w] else acc
def thingsOf (ws : List Wo) : List Wo := ws.foldl thStep []
theorem thStep_no {acc : List Wo} {w : Wo} (h : isT w = false) : thStep acc w = acc := by
  unfold thStep
  rw [h, Bool.false_and]
  rfl
theorem thStep_old {acc : List Wo} {w : Wo} (m : w ∈ acc) : thStep acc w = acc := by
  unfold thStep
  rw [decide_eq_true m, Bool.not_true, Bool.and_false]
  rfl
theorem thStep_new {acc : List Wo} {w : Wo} (h : isT w = true) (m : ¬ w ∈ acc) : thStep acc w = acc ++ [w] := by
  unfold thStep
  rw [decide_eq_false m, h]
  rfl
theorem mem_things {ws : List Wo} {w : Wo} (h : w ∈ thingsOf ws) : w ∈ ws ∧ isT w = true := by
  have : ∀ (l acc : List Wo), w ∈ l.foldl thStep acc → w ∈ acc ∨ (w ∈ l ∧ isT w = true) := by
    intro l
    induction l with
    | nil => intro acc h; exact .inl h
    | cons x r ih =>
      intro acc h
      rcases ih _ h with h | h
      · by_cases t : isT x = true
        · by_cases m : x ∈ acc
          · rw [thStep_old m] at h
            exact .inl h
          · rw [thStep_new t m] at h
            rcases List.mem_append.mp h with h | h
            · exact .inl h
            · have e := List.mem_singleton.mp h
              subst e
              exact .inr ⟨List.mem_cons_self, t⟩
        · rw [thStep_no (by simpa using t)] at h
          exact .inl h
      · exact .inr ⟨List.mem_cons_of_mem _ h.1, h.2⟩
  have := this ws [] h
  simpa using this
theorem thStep_len (acc : List Wo) (w : Wo) : (thStep acc w).length ≤ acc.length + 1 := by
  unfold thStep
  split
  · simp
  · omega
theorem foldl_take {α β : Type} (f : β → α → β) (b : β) (ws : List α) (i : Nat) (w : α) (h : ws[i]? = some w) : (ws.take (i + 1)).foldl f b = f ((ws.take i).foldl f b) w := by
  rw [List.take_add_one, h, List.foldl_append]
  rfl
theorem things_len (ws : List Wo) : (thingsOf ws).length ≤ ws.length := by
  have : ∀ (l acc : List Wo), (l.foldl thStep acc).length ≤ acc.length + l.length := by
    intro l
    induction l with
    | nil => intro acc; simp
    | cons x r ih =>
      intro acc
      have h1 := ih (thStep acc x)
      have h2 := thStep_len acc x
      rw [List.foldl_cons, List.length_cons]
      omega
  have := this ws []
  simpa [thingsOf] using this
def wk (w : Wo) : List Key := [.inr w.1, .inl w.2]
theorem wk_kV (w : Wo) : (wk w).map kV = wv w := rfl
theorem wk_inj {a b : Wo} (h : wk a = wk b) : a = b := by
  obtain ⟨x, i⟩ := a
  obtain ⟨y, j⟩ := b
  injection h with h1 h2
  injection h2 with h2 _
  injection h1 with h1
  injection h2 with h2
  exact Prod.ext h1 h2
theorem valV_keys {β : Type} (f : β → V) : ∀ (acc : List (Wo × β)) (w : Wo), (valV (acc.map fun p => (wk p.1, f p.2)) (wk w)).isSome = decide (w ∈ acc.map (·.1))
  | [], _ => rfl
  | p :: r, w => by
    by_cases e : p.1 = w
    · rw [List.map_cons, valV_pos (by rw [e])]
      rw [Bool.eq_iff_iff]
      simp [e]
    · rw [List.map_cons, valV_neg (fun q => e (wk_inj q)), valV_keys f r w]
      rw [Bool.eq_iff_iff]
      simp only [decide_eq_true_eq, List.map_cons, List.mem_cons]
      exact ⟨fun h => .inr h, fun h => h.resolve_left fun q => e q.symm⟩
/-- the dict whose keys are worths, each with True -/
def tdict (acc : List Wo) : List (List Key × V) := acc.map fun w => (wk w, V.bl true)
theorem tdict_val (acc : List Wo) (w : Wo) : (valV (tdict acc) (wk w)).isSome = decide (w ∈ acc) := by
  have h := valV_keys (fun _ : Unit => V.bl true) (acc.map fun w => (w, ())) w
  simp only [List.map_map, Function.comp_def, List.map_id'] at h
  exact h
theorem tdict_put (acc : List Wo) (w : Wo) : putK (tdict acc) (wk w) (.bl true) = tdict (if w ∈ acc then acc else acc ++ [w]) := by
  have e := tdict_val acc w
  by_cases h : w ∈ acc
  · rw [if_pos h]
    rw [decide_eq_true h] at e
    unfold putK
    rw [valV_any, e, if_pos rfl]
    unfold tdict
    rw [List.map_map]
    refine List.map_congr_left fun x _ => ?_
    by_cases q : wk x = wk w
    · show (if wk x = wk w then (wk x, V.bl true) else (wk x, V.bl true)) = _
      rw [if_pos q]
    · show (if wk x = wk w then (wk x, V.bl true) else (wk x, V.bl true)) = _
      rw [if_neg q]
  · rw [if_neg h]
    rw [decide_eq_false h] at e
    rw [putK_new _ (by simpa using e)]
    unfold tdict
    rw [List.map_append]
    rfl
theorem keys_wos {H : Hp} : ∀ {acc : List Wo} {bs : List Addr}, (∀ w ∈ acc, PyData.strOk w.1 = true) → IsKeys H (tdict acc) bs → Wos H (bs.map V.ref) acc
  | [], _, _, h => by
    cases h
    exact .nil
  | w :: r, _, k, h => by
    cases h with
    | cons a b => exact .cons ⟨_, rfl, a, k w List.mem_cons_self⟩ (keys_wos (fun x m => k x (List.mem_cons_of_mem _ m)) b)
theorem tdict_len (acc : List Wo) : (tdict acc).length = acc.length := by
  unfold tdict
  rw [List.length_map]
theorem things_in : ∀ (l acc : List Wo), (∀ w ∈ l, isT w = true → w ∈ acc) → l.foldl thStep acc = acc
  | [], _, _ => rfl
  | x :: r, acc, h => by
    have e : thStep acc x = acc := by
      by_cases t : isT x = true
      · exact thStep_old (h x List.mem_cons_self t)
      · exact thStep_no (by simpa using t)
    rw [List.foldl_cons, e]
    exact things_in r acc fun w m => h w (List.mem_cons_of_mem _ m)
theorem things_mem : ∀ (l acc : List Wo) (w : Wo), (w ∈ acc ∨ (w ∈ l ∧ isT w = true)) → w ∈ l.foldl thStep acc
  | [], acc, w, h => by
    rcases h with h | ⟨h, _⟩
    · exact h
    · cases h
  | x :: r, acc, w, h => by
    rw [List.foldl_cons]
    refine things_mem r _ w ?_
    have keep : w ∈ acc → w ∈ thStep acc x := fun m => by
      unfold thStep
      split
      · exact List.mem_append_left _ m
      · exact m
    rcases h with h | ⟨h, t⟩
    · exact .inl (keep h)
    · rcases List.mem_cons.mp h with e | h
      · subst e
        by_cases m : w ∈ acc
        · exact .inl (keep m)
        · rw [thStep_new t m]
          exact .inl (List.mem_append_right _ (List.mem_singleton.mpr rfl))
      · exact .inr ⟨h, t⟩
theorem things_twice (l : List Wo) : thingsOf (l ++ l) = thingsOf l := by
  unfold thingsOf
  rw [List.foldl_append]
  exact things_in l _ fun w m t => things_mem l [] w (.inr ⟨m, t⟩)
end G

namespace Q
open PySem L2 G
def top (i : Nat) : Stmt := PySem.Challenge.pw_manygoings_k02_things_of_lists.main.body.getD i (.Pass ⟨0, 0, 0, 0⟩)
section
variable {P : Program} {w : World} {K : PySem.W.Frag} {mg : Str → Option Value} {base : Heap}

/-! ### is_thing -/
abbrev s_is_thing : Stmt := top 1
theorem sc_is_thing : FnScope ["worth"] ["worth"] (defScope s_is_thing) := ⟨rfl, rfl, rfl, by decide +kernel, rfl, by decide +kernel, by decide +kernel⟩
def sp_is_thing (_ : PySem.W.Frag) : Sp := fun vs H Q _ => ∃ (v : V) (w : Wo), vs = [v] ∧ WoAt H v w ∧ Q (.bl (isT w)) H
theorem ok_is_thing {fa : Addr} {fd : FuncData} (F : Fun K "is_thing" "is_thing" s_is_thing fa fd) (TX : Tx mg) :
    FnOk P w K mg base CX0 1 fa fd ["worth"] (sp_is_thing K) := by
  refine F.ok sc_is_thing (fun vs H Q E h => ?_) (fun cdv A outer s H vs Q E hr h => ?_)
  · obtain ⟨v, w, rfl, ⟨a, rfl, h, _⟩, q⟩ := h
    rfl
  · obtain ⟨v, w, rfl, ⟨a, rfl, h, _⟩, q⟩ := h
    have hu := hu_of hr
    have hu64 := hr.units
    have hu65 := hu65_of hr
    unfold wv at h
    unfold isT at q
    refine ⟨_, (pss_one (ps_ret (pe_or (pe_cmpR op_eq (pe_ix ix_tup (pv 0) pe_int (fun _ _ => rfl)) pe_str (nomark _)) (pe_one (pe_cmpR op_eq (pe_ix ix_tup (pv 0) pe_int (fun _ _ => rfl)) pe_str (nomark _)))))), ?_⟩
    refine r_begin (show L2.start _ _ = [some _] from rfl) ?_
    try dsimp only [cxOf]
    walk_at "rr"
    rw [dec_str]
    refine r_ite (fun hc => ?_) (fun hc => ?_)
    · rw [hc, Bool.true_or] at q
      exact q
    · rw [hc, Bool.false_or] at q
      walk_at "rr"
      rw [dec_str]
      exact q
/-! ### things_of -/
abbrev s_things_of : Stmt := top 2
theorem sc_things_of : FnScope ["worths", "found", "worth"] ["worths"] (defScope s_things_of) := ⟨rfl, rfl, rfl, by decide +kernel, rfl, by decide +kernel, by decide +kernel⟩
def sp_things_of (K : PySem.W.Frag) : Sp := fun vs H Q _ => ∃ (a : Addr) (xs : List V) (ws : List Wo), vs = [.ref a] ∧ SqL K H a xs ∧ Wos H xs ws ∧ xs.length ≤ 100000 ∧
  ∀ (p : Addr) (ys : List V) (H' : Hp), H p = none → Same H H' → H' p = some (.lst ys) → Wos H' ys (thingsOf ws) → Q (.ref p) H'
theorem ok_things_of {fa : Addr} {fd : FuncData} (F : Fun K "things_of" "things_of" s_things_of fa fd) (TX : Tx mg)
    (C_is_thing : Cal P w K mg base CX0 1 "is_thing" ["worth"] (sp_is_thing K)) :
    FnOk P w K mg base CX0 2 fa fd ["worths"] (sp_things_of K) := by
  refine F.ok sc_things_of (fun vs H Q E h => ?_) (fun cdv A outer s H vs Q E hr h => ?_)
  · obtain ⟨a, xs, ws, rfl, hS, hw, hz, k⟩ := h
    rfl
  · obtain ⟨a, xs, ws, rfl, hS, hw, hz, k⟩ := h
    have hu := hu_of hr
    have hu64 := hr.units
    have hu65 := hu65_of hr
    have hlen := hw.len
    refine ⟨_, (pss_cons (ps_set (i := 1) sc_things_of.nd rfl (Or.inl rfl) pe_dnewT)
  (pss_cons (ps_for PassesOwn.never rfl (pi_list (pv 0)) (pg_name (i := 2) sc_things_of.nd rfl (Or.inl rfl))
  (pss_one (ps_if (pt_val (pe_cal C_is_thing (hr.mono (by decide)) (by rfl) pass0 (pa_cons (pv 2) pa_nil))) (pss_one (ps_dput hu (pv 1) (pv 2) pe_bl rfl)) pss_nil)))
  (pss_one (ps_ret (pe_callTy (call_list_dT rfl) (by rfl) TX.n_list (by decide +kernel) (pa_cons (pv 1) pa_nil)))))), ?_⟩
    refine r_begin (show L2.start _ _ = [some _, none, none] from rfl) ?_
    try dsimp only [cxOf]
    intro d hd
    walk_at "rr"
    refine r_ilv ((same_new hd).seq hS) ?_
    refine L_list (fun i σ H' => ∃ y : Option V, σ = [some (.ref a), some (.ref d), y] ∧ Same H H' ∧ H' d = some (.dT (tdict ((ws.take i).foldl thStep [])))) ⟨none, rfl, same_new hd, upd_same⟩ (fun i σ H' _ ⟨_, _, s, _⟩ => s.seq hS) ?_ ?_
    · rintro i x σ H1 hx ⟨y, rfl, s1, hd1⟩
      obtain ⟨w, ew, hw1⟩ := hw.get hx
      have hl := things_len (ws.take i)
      have hi : i < xs.length := (List.getElem?_eq_some_iff.mp hx).1
      rw [List.length_take] at hl
      walk_at "rr"
      refine ⟨x, w, rfl, hw1.same s1, ?_⟩
      walk_at "rr"
      obtain ⟨b, rfl, hb, _⟩ := hw1.same s1
      have estep := foldl_take thStep [] ws i w ew
      refine r_ite (fun hc => ?_) (fun hc => ?_)
      · refine r_dput ?_
        walk_at "rr"
        refine ⟨d, _, rfl, DPut.t (k := wk w) hd1 hb (by rw [tdict_len]; exact szl (Nat.lt_of_le_of_lt (Nat.le_trans hl (Nat.min_le_left _ _)) (by omega))), ?_⟩
        refine ⟨_, rfl, fun c o e => ?_, ?_⟩
        · rw [upd_ne (ne_of_none e hd)]
          exact s1 _ _ e
        · rw [upd_same, tdict_put, estep]
          by_cases m : w ∈ (ws.take i).foldl thStep []
          · rw [if_pos m, thStep_old m]
          · rw [if_neg m, thStep_new hc m]
      · walk_at "rr"
        refine ⟨_, rfl, s1, ?_⟩
        rw [hd1, estep, thStep_no hc]
    · rintro σ H1 ⟨y, rfl, s1, hd1⟩
      rw [hlen, List.take_length] at hd1
      walk_at "rr"
      refine ⟨d, _, rfl, .inl hd1, fun p bs hp hk => ?_⟩
      exact k p _ _ (s1.free hp) (s1.trans (same_new hp)) upd_same ((keys_wos (fun w m => hw.ok w (mem_things m).1) hk).same (same_new hp))
/-! ### _law_cell_at -/
abbrev s__law_cell_at : Stmt := top 4
theorem sc__law_cell_at : FnScope ["script", "k"] ["script", "k"] (defScope s__law_cell_at) := ⟨rfl, rfl, rfl, by decide +kernel, rfl, by decide +kernel, by decide +kernel⟩
def sp__law_cell_at (K : PySem.W.Frag) : Sp := fun vs H Q _ => ∃ (a : Addr) (ns : List Int) (k : Int), vs = [.ref a, .int k] ∧ SqL K H a (ns.map V.int) ∧ 0 ≤ k ∧ ns.length ≤ 63 ∧ ∀ c : Int, Q (.int c) H
theorem ok__law_cell_at {fa : Addr} {fd : FuncData} (F : Fun K "_law_cell_at" "_law_cell_at" s__law_cell_at fa fd) (TX : Tx mg) :
    FnOk P w K mg base CX0 1 fa fd ["script", "k"] (sp__law_cell_at K) := by
  refine F.ok sc__law_cell_at (fun vs H Q E h => ?_) (fun cdv A outer s H vs Q E hr h => ?_)
  · obtain ⟨a, ns, k, rfl, hS, hk, hn, q⟩ := h
    rfl
  · obtain ⟨a, ns, k, rfl, hS, hk, hn, q⟩ := h
    have hu := hu_of hr
    have hu64 := hr.units
    have hu65 := hu65_of hr
    refine ⟨_, (pss_cons (ps_if (pt_cmpR op_lt (pv 1) (pe_callB call_len (by rfl) TX.n_len (by decide +kernel) (pa_cons (pv 0) pa_nil)) (nomark _)) (pss_one (ps_ret (pe_ix ix_list (pv 0) (pv 1) (fun _ _ => rfl)))) pss_nil)
  (pss_one (ps_ret pe_int))), ?_⟩
    refine r_begin (show L2.start _ _ = [some _, some _] from rfl) ?_
    try dsimp only [cxOf]
    walk_at "rr"
    refine ⟨_, _, rfl, .inl ⟨_, hS, rfl⟩, ?_⟩
    walk_at "rr"
    refine r_d (fun hc => ?_) (fun hc => ?_)
    · walk_at "rr"
      rw [List.length_map] at hc
      obtain ⟨j, rfl⟩ : ∃ j : Nat, k = (j : Int) := ⟨k.toNat, by omega⟩
      have hj : j < ns.length := by omega
      have e : (ns.map V.int)[j]? = some (.int ns[j]) := by
        rw [List.getElem?_map, List.getElem?_eq_getElem hj]
        rfl
      refine r_ixL hS (atI_nat e) ?_
      exact q _
    · walk_at "rr"
      exact q _
/-! ### _law_bag -/
abbrev s__law_bag : Stmt := top 5
theorem sc__law_bag : FnScope ["cell", "place"] ["cell", "place"] (defScope s__law_bag) := ⟨rfl, rfl, rfl, by decide +kernel, rfl, by decide +kernel, by decide +kernel⟩
def sp__law_bag (_ : PySem.W.Frag) : Sp := fun vs H Q _ => ∃ (c k : Int), vs = [.int c, .int k] ∧ 0 ≤ k ∧ k ≤ 63 ∧ ∀ (p : Addr) (H' : Hp), H p = none → Same H H' → BagAt H' p 0 → Q (.ref p) H'
theorem ok__law_bag {fa : Addr} {fd : FuncData} (F : Fun K "_law_bag" "_law_bag" s__law_bag fa fd) (TX : Tx mg) :
    FnOk P w K mg base CX0 1 fa fd ["cell", "place"] (sp__law_bag K) := by
  refine F.ok sc__law_bag (fun vs H Q E h => ?_) (fun cdv A outer s H vs Q E hr h => ?_)
  · obtain ⟨c, k, rfl, hk, hk2, q⟩ := h
    rfl
  · obtain ⟨c, k, rfl, hk, hk2, q⟩ := h
    have hu := hu_of hr
    have hu64 := hr.units
    have hu65 := hu65_of hr
    refine ⟨_, (pss_one (ps_ret (pe_lst (pa_cons (pe_callB (call_max2 rfl) (by rfl) TX.n_max (by decide +kernel) (pa_cons pe_int (pa_cons (pe_op op_sub (pv 0) (pe_op op_pow pe_int pe_int)) pa_nil))) (pa_cons (pe_op op_add (pe_op op_mod (pv 0) pe_int) (pe_op op_mul pe_int (pv 1))) (pa_cons pe_int pa_nil)))))), ?_⟩
    refine r_begin (show L2.start _ _ = [some _, some _] from rfl) ?_
    try dsimp only [cxOf]
    walk_at "rr"
    refine ⟨_, _, rfl, ?_⟩
    walk_at "rr"
    refine ⟨by show 3 ≤ sizeLine; decide, fun p hp => ?_⟩
    have g := Int.emod_nonneg c (show (2305843009213693951 : Int) ≠ 0 by decide)
    have g2 := Int.emod_lt_of_pos c (show (0 : Int) < 2305843009213693951 by decide)
    exact q p _ hp (same_new hp) ⟨_, _, _, upd_same, by omega, by omega, by omega, by omega⟩
/-! ### _law_draw -/
abbrev s__law_draw : Stmt := top 6
theorem sc__law_draw : FnScope ["bag", "many", "found", "mixed"] ["bag", "many"] (defScope s__law_draw) := ⟨rfl, rfl, rfl, by decide +kernel, rfl, by decide +kernel, by decide +kernel⟩
def sp__law_draw (_ : PySem.W.Frag) : Sp := fun vs H Q _ => ∃ (p : Addr) (m : Int) (n : Nat), vs = [.ref p, .int m] ∧ BagAt H p n ∧ 0 < m ∧ m.natAbs < 2 ^ 220 ∧ n < 1000000 ∧
  ∀ (i : Int) (H' : Hp), 0 ≤ i → i < m → But p H H' → BagAt H' p (n + 1) → Q (.int i) H'
theorem ok__law_draw {fa : Addr} {fd : FuncData} (F : Fun K "_law_draw" "_law_draw" s__law_draw fa fd) (TX : Tx mg) :
    FnOk P w K mg base CX0 1 fa fd ["bag", "many"] (sp__law_draw K) := by
  refine F.ok sc__law_draw (fun vs H Q E h => ?_) (fun cdv A outer s H vs Q E hr h => ?_)
  · obtain ⟨p, m, n, rfl, ⟨a, b, c, eb, h1, h2, h3, h4⟩, hm, hm2, hn, k⟩ := h
    rfl
  · obtain ⟨p, m, n, rfl, ⟨a, b, c, eb, h1, h2, h3, h4⟩, hm, hm2, hn, k⟩ := h
    have hu := hu_of hr
    have hu64 := hr.units
    have hu65 := hu65_of hr
    refine ⟨_, (pss_cons (ps_if (pt_cmpR op_gt (pe_ix ix_list (pv 0) pe_int (fun _ _ => rfl)) pe_int (nomark _)) (pss_cons (ps_set (i := 2) sc__law_draw.nd rfl (Or.inl rfl) (pe_op op_mod (pe_ix ix_list (pv 0) pe_int (fun _ _ => rfl)) (pv 1)))
  (pss_cons (ps_asg (pe_op op_fdivW (pe_ix ix_list (pv 0) pe_int (fun _ _ => rfl)) (pv 1)) (pg_sub (pv 0) pe_int set_list))
  (pss_one (ps_ret (pv 2))))) pss_nil)
  (pss_cons (ps_asg (pe_op op_add (pe_ix ix_list (pv 0) pe_int (fun _ _ => rfl)) pe_int) (pg_sub (pv 0) pe_int set_list))
  (pss_cons (ps_set (i := 3) sc__law_draw.nd rfl (Or.inl rfl) (pe_op op_mod (pe_op op_pow (pe_op op_add (pe_ix ix_list (pv 0) pe_int (fun _ _ => rfl)) (pe_op op_mul pe_int (pe_ix ix_list (pv 0) pe_int (fun _ _ => rfl)))) pe_int) pe_int))
  (pss_cons (ps_set (i := 3) sc__law_draw.nd rfl (Or.inl rfl) (pe_op op_mod (pe_op op_pow (pe_op op_add (pv 3) (pe_op op_mul pe_int (pe_ix ix_list (pv 0) pe_int (fun _ _ => rfl)))) pe_int) pe_int))
  (pss_one (ps_ret (pe_op op_mod (pe_op op_fdivW (pv 3) pe_int) (pv 1)))))))), ?_⟩
    refine r_begin (show L2.start _ _ = [some _, some _, none, none] from rfl) ?_
    try dsimp only [cxOf]
    walk_at "rr"
    refine r_d (fun hc => ?_) (fun hc => ?_)
    · walk_at "rr"
      refine r_setL (j := 0) (ys := [.int (a / m), .int b, .int c]) eb rfl rfl ?_
      walk_at "rr"
      exact k _ _ (Int.emod_nonneg _ (by omega)) (Int.emod_lt_of_pos _ hm) But.upd ⟨_, _, _, upd_same, h1, h2, h3, by omega⟩
    · walk_at "rr"
      refine r_setL (j := 2) (ys := [.int a, .int b, .int (c + 1)]) eb rfl rfl ?_
      have e2 : (upd H p (.lst [.int a, .int b, .int (c + 1)])) p = some (.lst [.int a, .int b, .int (c + 1)]) := upd_same
      walk_at "rr"
      have g := fun x : Int => Int.emod_nonneg x (show (2305843009213693951 : Int) ≠ 0 by decide)
      have g2 := fun x : Int => Int.emod_lt_of_pos x (show (0 : Int) < 2305843009213693951 by decide)
      generalize (b + 7368787 * (c + 1)) ^ Int.toNat 3 = z
      have g3 := g z
      have g4 := g2 z
      walk_at "rr"
      exact k _ _ (Int.emod_nonneg _ (by omega)) (Int.emod_lt_of_pos _ hm) But.upd ⟨_, _, _, upd_same, h1, h2, by omega, by omega⟩
/-! ### _law_number -/
abbrev s__law_number : Stmt := top 7
theorem sc__law_number : FnScope ["bag", "way", "bound", "found", "k"] ["bag"] (defScope s__law_number) := ⟨rfl, rfl, rfl, by decide +kernel, rfl, by decide +kernel, by decide +kernel⟩
def sp__law_number (_ : PySem.W.Frag) : Sp := fun vs H Q _ => ∃ (p : Addr) (n : Nat), vs = [.ref p] ∧ BagAt H p n ∧ n + 10 < 1000000 ∧
  ∀ (i : Int) (H' : Hp), 0 ≤ i → i < 10 ^ 60 → But p H H' → BagAt H' p (n + 10) → Q (.int i) H'
theorem bounds7 {i : Int} (h0 : 0 ≤ i) (h7 : i < 7) : ∃ (z : Int), atI [V.int 10, .int 100, .int (10 ^ 5), .int (10 ^ 18), .int (10 ^ 30), .int (10 ^ 59), .int (10 ^ 60)] i = some (.int z) ∧ 0 < z ∧ z ≤ 10 ^ 60 := by
  have c : i = 0 ∨ i = 1 ∨ i = 2 ∨ i = 3 ∨ i = 4 ∨ i = 5 ∨ i = 6 := by omega
  rcases c with rfl | rfl | rfl | rfl | rfl | rfl | rfl <;> exact ⟨_, rfl, by decide, by decide⟩
theorem ok__law_number {fa : Addr} {fd : FuncData} (F : Fun K "_law_number" "_law_number" s__law_number fa fd) (TX : Tx mg)
    (C__law_draw : Cal P w K mg base CX0 1 "_law_draw" ["bag", "many"] (sp__law_draw K)) :
    FnOk P w K mg base CX0 2 fa fd ["bag"] (sp__law_number K) := by
  refine F.ok sc__law_number (fun vs H Q E h => ?_) (fun cdv A outer s H vs Q E hr h => ?_)
  · obtain ⟨p, n, rfl, hb, hn, k⟩ := h
    rfl
  · obtain ⟨p, n, rfl, hb, hn, k⟩ := h
    have hu := hu_of hr
    have hu64 := hr.units
    have hu65 := hu65_of hr
    refine ⟨_, (pss_cons (ps_set (i := 1) sc__law_number.nd rfl (Or.inl rfl) (pe_cal C__law_draw (hr.mono (by decide)) (by rfl) pass0 (pa_cons (pv 0) (pa_cons pe_int pa_nil))))
  (pss_cons (ps_if (pt_cmpR op_lt (pv 1) pe_int (nomark _)) (pss_one (ps_ret (pe_cal C__law_draw (hr.mono (by decide)) (by rfl) pass0 (pa_cons (pv 0) (pa_cons (pe_ix ix_list (pe_lst (pa_cons pe_int (pa_cons pe_int pa_nil))) (pv 1) (fun _ _ => rfl)) pa_nil))))) pss_nil)
  (pss_cons (ps_set (i := 2) sc__law_number.nd rfl (Or.inl rfl) (pe_ix ix_list (pe_lst (pa_cons pe_int (pa_cons pe_int (pa_cons (pe_op op_pow pe_int pe_int) (pa_cons (pe_op op_pow pe_int pe_int) (pa_cons (pe_op op_pow pe_int pe_int) (pa_cons (pe_op op_pow pe_int pe_int) (pa_cons (pe_op op_pow pe_int pe_int) pa_nil)))))))) (pe_cal C__law_draw (hr.mono (by decide)) (by rfl) pass0 (pa_cons (pv 0) (pa_cons pe_int pa_nil))) (fun _ _ => rfl)))
  (pss_cons (ps_set (i := 3) sc__law_number.nd rfl (Or.inl rfl) pe_int)
  (pss_cons (ps_for PassesOwn.never rfl (pi_range1 (by rfl) TX.range (pa_cons pe_int pa_nil)) (pg_name (i := 4) sc__law_number.nd rfl (Or.inl rfl))
  (pss_one (ps_set (i := 3) sc__law_number.nd rfl (Or.inl rfl) (pe_op op_add (pe_op op_mul (pv 3) (pe_op op_pow pe_int pe_int)) (pe_cal C__law_draw (hr.mono (by decide)) (by rfl) pass0 (pa_cons (pv 0) (pa_cons (pe_op op_pow pe_int pe_int) pa_nil)))))))
  (pss_one (ps_ret (pe_op op_mod (pv 3) (pv 2))))))))), ?_⟩
    refine r_begin (show L2.start _ _ = [some _, none, none, none, none] from rfl) ?_
    try dsimp only [cxOf]
    walk_at "rr"
    refine ⟨p, 4, n, rfl, hb, by decide, by decide, by omega, fun way H1 w0 w4 b1 B1 => ?_⟩
    walk_at "rr"
    refine r_d (fun hc => ?_) (fun hc => ?_)
    · walk_at "rr"
      refine ⟨by show 2 ≤ sizeLine; decide, fun l hl => ?_⟩
      walk_at "rr"
      have hl0 : (upd H1 l (.lst [.int 3, .int 12])) l = some (.lst [.int 3, .int 12]) := upd_same
      obtain ⟨m, em, m0, m12⟩ : ∃ m : Int, atI [V.int 3, .int 12] way = some (.int m) ∧ 0 < m ∧ m ≤ 12 := by
        have c : way = 0 ∨ way = 1 := by omega
        rcases c with rfl | rfl
        · exact ⟨3, rfl, by decide, by decide⟩
        · exact ⟨12, rfl, by decide, by decide⟩
      refine r_ixl hl0 em ?_
      walk_at "rr"
      refine ⟨p, m, n + 1, rfl, ?_, m0, by omega, by omega, fun i H2 i0 i1 b2 B2 => ?_⟩
      · obtain ⟨a, b, c, e, r⟩ := B1
        exact ⟨a, b, c, (same_new hl) _ _ e, r⟩
      · exact k i H2 i0 (Int.lt_of_lt_of_le i1 (Int.le_trans m12 (by decide))) ((b1.trans (But.of (same_new hl))).trans b2) (B2.mono (by omega))
    · walk_at "rr"
      refine ⟨by show 7 ≤ sizeLine; decide, fun l hl => ?_⟩
      walk_at "rr"
      refine ⟨p, 7, n + 1, rfl, B1.upd hl, by decide, by decide, by omega, fun i H2 i0 i7 b2 B2 => ?_⟩
      obtain ⟨z, ez, z0, z1⟩ := bounds7 i0 i7
      have hl2 : H2 l = some (.lst [.int 10, .int 100, .int (10 ^ 5), .int (10 ^ 18), .int (10 ^ 30), .int (10 ^ 59), .int (10 ^ 60)]) := b2 _ _ upd_same (by
        intro e
        subst e
        exact B1.there hl)
      refine r_ixl hl2 ez ?_
      walk_at "rr"
      refine L_range (fun j σ H3 => ∃ (f : Int) (y : Option V), σ = [some (.ref p), some (.int way), some (.int z), some (.int f), y] ∧ 0 ≤ f ∧ But p H H3 ∧ BagAt H3 p (n + 2 + j)) ⟨0, none, rfl, by decide, (b1.trans (But.of (same_new hl))).trans b2, B2⟩ ?_ ?_
      · rintro j σ H3 hj ⟨f, y, rfl, f0, b3, B3⟩
        walk_at "rr"
        refine ⟨p, _, _, rfl, B3, by decide, by decide, by omega, fun i H4 i0 i1 b4 B4 => ?_⟩
        walk_at "rr"
        refine ⟨_, _, rfl, ?_, b3.trans b4, B4⟩
        have := Int.mul_nonneg f0 (show (0 : Int) ≤ 10 ^ Int.toNat 12 by decide)
        omega
      · rintro σ H3 ⟨f, y, rfl, f0, b3, B3⟩
        walk_at "rr"
        exact k _ _ (Int.emod_nonneg _ (by omega)) (Int.lt_of_lt_of_le (Int.emod_lt_of_pos _ z0) z1) b3 (B3.mono (by omega))
/-! ### _law_whole -/
abbrev s__law_whole : Stmt := top 8
theorem sc__law_whole : FnScope ["found"] ["found"] (defScope s__law_whole) := ⟨rfl, rfl, rfl, by decide +kernel, rfl, by decide +kernel, by decide +kernel⟩
def sp__law_whole (K : PySem.W.Frag) : Sp := fun vs H Q _ => ∃ (v : V) (T : String), vs = [v] ∧ TyX K H v (.type T) ∧ T ∈ kinds7 ∧ Q (.bl (T == "int")) H
theorem ok__law_whole {fa : Addr} {fd : FuncData} (F : Fun K "_law_whole" "_law_whole" s__law_whole fa fd) (TX : Tx mg) :
    FnOk P w K mg base CX0 1 fa fd ["found"] (sp__law_whole K) := by
  refine F.ok sc__law_whole (fun vs H Q E h => ?_) (fun cdv A outer s H vs Q E hr h => ?_)
  · obtain ⟨v, T, rfl, hT, hm, q⟩ := h
    rfl
  · obtain ⟨v, T, rfl, hT, hm, q⟩ := h
    have hu := hu_of hr
    have hu64 := hr.units
    have hu65 := hu65_of hr
    rw [← whole_of T hm] at q
    refine ⟨_, (pss_one (ps_ret (pe_and (pe_callB call_isi (by rfl) TX.n_isinstance (by decide +kernel) (pa_cons (pv 0) (pa_cons (pe_bltn (v := .ty "int") (by rfl) TX.n_int (by decide +kernel) rfl) pa_nil))) (pe_one (pe_not (pe_callB call_isi (by rfl) TX.n_isinstance (by decide +kernel) (pa_cons (pv 0) (pa_cons (pe_bltn (v := .ty "bool") (by rfl) TX.n_bool (by decide +kernel) rfl) pa_nil)))))))), ?_⟩
    refine r_begin (show L2.start _ _ = [some _] from rfl) ?_
    try dsimp only [cxOf]
    walk_at "rr"
    refine r_isi hT (kit_int T hm) ?_
    walk_at "rr"
    refine r_ite (fun hc => ?_) (fun hc => ?_)
    · walk_at "rr"
      refine r_isi hT (kit_bool T hm) ?_
      walk_at "rr"
      rw [hc, Bool.true_and] at q
      exact q
    · rw [hc, Bool.false_and] at q
      exact q
/-! ### _law_same -/
abbrev s__law_same : Stmt := top 9
theorem sc__law_same : FnScope ["found", "due"] ["found", "due"] (defScope s__law_same) := ⟨rfl, rfl, rfl, by decide +kernel, rfl, by decide +kernel, by decide +kernel⟩
def sp__law_same (K : PySem.W.Frag) : Sp := fun vs H Q _ => ∃ (u v : V) (x y : Wo), vs = [u, v] ∧ WoAt H u x ∧ WoAt H v y ∧ Q (.bl (decide (x = y))) H
theorem ok__law_same {fa : Addr} {fd : FuncData} (F : Fun K "_law_same" "_law_same" s__law_same fa fd) (TX : Tx mg)
    (C__law_whole : Cal P w K mg base CX0 1 "_law_whole" ["found"] (sp__law_whole K)) :
    FnOk P w K mg base CX0 2 fa fd ["found", "due"] (sp__law_same K) := by
  refine F.ok sc__law_same (fun vs H Q E h => ?_) (fun cdv A outer s H vs Q E hr h => ?_)
  · obtain ⟨u, v, x, y, rfl, hu0, hv0, q⟩ := h
    rfl
  · obtain ⟨u, v, x, y, rfl, hu0, hv0, q⟩ := h
    have hu := hu_of hr
    have hu64 := hr.units
    have hu65 := hu65_of hr
    have du : Dp K H u (wd x) := hu0.dp
    have dv : Dp K H v (wd y) := hv0.dp
    have ou := hu0.ok
    have ov := hv0.ok
    obtain ⟨a, rfl, h, _⟩ := hu0
    unfold wv at h
    refine ⟨_, (pss_cons (ps_if (PW.pt (pw_or (pt_not (pt_val (pe_callB call_isi (by rfl) TX.n_isinstance (by decide +kernel) (pa_cons (pv 0) (pa_cons (pe_bltn (v := .ty "tuple") (by rfl) TX.n_tuple (by decide +kernel) rfl) pa_nil))))) (pw_or1 (pt_cmpR op_ne (pe_callB call_len (by rfl) TX.n_len (by decide +kernel) (pa_cons (pv 0) pa_nil)) pe_int (nomark _))))) (pss_one (ps_ret pe_bl)) pss_nil)
  (pss_one (ps_ret (pe_and (pe_callB call_isi (by rfl) TX.n_isinstance (by decide +kernel) (pa_cons (pe_ix ix_tup (pv 0) pe_int (fun _ _ => rfl)) (pa_cons (pe_bltn (v := .ty "str") (by rfl) TX.n_str (by decide +kernel) rfl) pa_nil))) (pe_and (pe_cal C__law_whole (hr.mono (by decide)) (by rfl) pass0 (pa_cons (pe_ix ix_tup (pv 0) pe_int (fun _ _ => rfl)) pa_nil)) (pe_one (pe_cmpR (op_eqD hu64) (pv 0) (pv 1) (nomark _)))))))), ?_⟩
    refine r_begin (show L2.start _ _ = [some _, some _] from rfl) ?_
    try dsimp only [cxOf]
    walk_at "rr"
    refine r_isi (ty_tup h) (kit_tuple _ (by decide)) ?_
    walk_at "rr"
    refine r_itF rfl ?_
    walk_at "rr"
    refine ⟨_, _, rfl, .inr ⟨[.str x.1, .int x.2], .inl (.inl h), rfl⟩, ?_⟩
    walk_at "rr"
    refine r_itF rfl ?_
    walk_at "rr"
    refine r_isi ty_str (kit_str _ (by decide)) ?_
    walk_at "rr"
    refine r_itT rfl ?_
    walk_at "rr"
    refine ⟨_, "int", rfl, ty_int, by decide, ?_⟩
    walk_at "rr"
    refine r_itT rfl ?_
    walk_at "rr"
    refine r_eqD du dv (shaped_wd ou) (shaped_wd ov) ?_
    rw [eqv_wd]
    exact q
/-! ### _law_same_pile -/
abbrev s__law_same_pile : Stmt := top 10
theorem sc__law_same_pile : FnScope ["found", "due", "k"] ["found", "due"] (defScope s__law_same_pile) := ⟨rfl, rfl, rfl, by decide +kernel, rfl, by decide +kernel, by decide +kernel⟩
def sp__law_same_pile (K : PySem.W.Frag) : Sp := fun vs H Q _ => ∃ (a b : Addr) (ws : List Wo), vs = [.ref a, .ref b] ∧ PileAt H a ws ∧ PileAt H b ws ∧ ws.length ≤ 100000 ∧ Q (.bl true) H
theorem ok__law_same_pile {fa : Addr} {fd : FuncData} (F : Fun K "_law_same_pile" "_law_same_pile" s__law_same_pile fa fd) (TX : Tx mg)
    (C__law_same : Cal P w K mg base CX0 2 "_law_same" ["found", "due"] (sp__law_same K)) :
    FnOk P w K mg base CX0 3 fa fd ["found", "due"] (sp__law_same_pile K) := by
  refine F.ok sc__law_same_pile (fun vs H Q E h => ?_) (fun cdv A outer s H vs Q E hr h => ?_)
  · obtain ⟨a, b, ws, rfl, ⟨xs, ha, hx⟩, ⟨ys, hb, hy⟩, hz, q⟩ := h
    rfl
  · obtain ⟨a, b, ws, rfl, ⟨xs, ha, hx⟩, ⟨ys, hb, hy⟩, hz, q⟩ := h
    have hu := hu_of hr
    have hu64 := hr.units
    have hu65 := hu65_of hr
    have lx := hx.len
    have ly := hy.len
    refine ⟨_, (pss_cons (ps_if (PW.pt (pw_or (pt_not (pt_val (pe_callB call_isi (by rfl) TX.n_isinstance (by decide +kernel) (pa_cons (pv 0) (pa_cons (pe_bltn (v := .ty "list") (by rfl) TX.n_list (by decide +kernel) rfl) pa_nil))))) (pw_or1 (pt_cmpR op_ne (pe_callB call_len (by rfl) TX.n_len (by decide +kernel) (pa_cons (pv 0) pa_nil)) (pe_callB call_len (by rfl) TX.n_len (by decide +kernel) (pa_cons (pv 1) pa_nil)) (nomark _))))) (pss_one (ps_ret pe_bl)) pss_nil)
  (pss_cons (ps_for PassesOwn.never rfl (pi_range1 (by rfl) TX.range (pa_cons (pe_callB call_len (by rfl) TX.n_len (by decide +kernel) (pa_cons (pv 1) pa_nil)) pa_nil)) (pg_name (i := 2) sc__law_same_pile.nd rfl (Or.inl rfl))
  (pss_one (ps_if (pt_not (pt_val (pe_cal C__law_same (hr.mono (by decide)) (by rfl) pass0 (pa_cons (pe_ix ix_list (pv 0) (pv 2) (fun _ _ => rfl)) (pa_cons (pe_ix ix_list (pv 1) (pv 2) (fun _ _ => rfl)) pa_nil))))) (pss_one (ps_ret pe_bl)) pss_nil)))
  (pss_one (ps_ret pe_bl)))), ?_⟩
    refine r_begin (show L2.start _ _ = [some _, some _, none] from rfl) ?_
    try dsimp only [cxOf]
    walk_at "rr"
    refine r_isi (ty_lst ha) (kit_list _ (by decide)) ?_
    walk_at "rr"
    refine r_itF rfl ?_
    walk_at "rr"
    refine ⟨_, _, rfl, .inl ⟨xs, .inl (.inl ha), rfl⟩, ?_⟩
    walk_at "rr"
    refine ⟨_, _, rfl, .inl ⟨ys, .inl (.inl hb), rfl⟩, ?_⟩
    walk_at "rr"
    refine r_nd (fun hc => absurd (by rw [lx, ly]) hc) (fun _ => ?_)
    walk_at "rr"
    refine ⟨_, _, rfl, .inl ⟨ys, .inl (.inl hb), rfl⟩, ?_⟩
    refine r_rngv (by omega) (by omega) ?_
    refine L_range (fun i σ H' => ∃ z : Option V, σ = [some (.ref a), some (.ref b), z] ∧ H' = H) ⟨none, rfl, rfl⟩ ?_ ?_
    · rintro i σ H1 hi ⟨z, rfl, rfl⟩
      have h1 : i < xs.length := by omega
      have h2 : i < ys.length := by omega
      have e1 := List.getElem?_eq_getElem h1
      have e2 := List.getElem?_eq_getElem h2
      obtain ⟨w, ew, hw⟩ := hx.get e1
      obtain ⟨w', ew', hw'⟩ := hy.get e2
      have : w = w' := Option.some.inj (ew.symm.trans ew')
      subst this
      walk_at "rr"
      refine r_ixl ha (at_of (by omega) e1) ?_
      walk_at "rr"
      refine r_ixl hb (at_of (by omega) e2) ?_
      walk_at "rr"
      refine ⟨_, _, w, w, rfl, hw, hw', ?_⟩
      walk_at "rr"
      rw [decide_eq_true rfl]
      refine r_itF rfl ?_
      walk_at "rr"
      exact ⟨_, rfl, rfl⟩
    · rintro σ H1 ⟨z, rfl, rfl⟩
      walk_at "rr"
      exact q
/-! ### _law_worth -/
abbrev s__law_worth : Stmt := top 11
theorem sc__law_worth : FnScope ["bag", "few", "at", "number"] ["bag", "few"] (defScope s__law_worth) := ⟨rfl, rfl, rfl, by decide +kernel, rfl, by decide +kernel, by decide +kernel⟩
def sp__law_worth (_ : PySem.W.Frag) : Sp := fun vs H Q _ => ∃ (p : Addr) (few : Int) (n : Nat), vs = [.ref p, .int few] ∧ BagAt H p n ∧ n + 30 < 1000000 ∧
  ∀ (t : V) (w : Wo) (H' : Hp), WoAt H' t w → But p H H' → BagAt H' p (n + 20) → Q t H'
theorem words7 {i : Int} (h0 : 0 ≤ i) (h7 : i < 7) : ∃ (z : Str), atI [V.str "num", .str "at", .str "box", .str "go", .str "box", .str "go", .str "go"] i = some (.str z) ∧ PyData.strOk z = true := by
  have c : i = 0 ∨ i = 1 ∨ i = 2 ∨ i = 3 ∨ i = 4 ∨ i = 5 ∨ i = 6 := by omega
  rcases c with rfl | rfl | rfl | rfl | rfl | rfl | rfl <;> exact ⟨_, rfl, by decide +kernel⟩
theorem ok__law_worth {fa : Addr} {fd : FuncData} (F : Fun K "_law_worth" "_law_worth" s__law_worth fa fd) (TX : Tx mg)
    (C__law_draw : Cal P w K mg base CX0 1 "_law_draw" ["bag", "many"] (sp__law_draw K))
    (C__law_number : Cal P w K mg base CX0 2 "_law_number" ["bag"] (sp__law_number K)) :
    FnOk P w K mg base CX0 3 fa fd ["bag", "few"] (sp__law_worth K) := by
  refine F.ok sc__law_worth (fun vs H Q E h => ?_) (fun cdv A outer s H vs Q E hr h => ?_)
  · obtain ⟨p, few, n, rfl, hb, hn, k⟩ := h
    rfl
  · obtain ⟨p, few, n, rfl, hb, hn, k⟩ := h
    have hu := hu_of hr
    have hu64 := hr.units
    have hu65 := hu65_of hr
    refine ⟨_, (pss_cons (ps_set (i := 2) sc__law_worth.nd rfl (Or.inl rfl) (pe_cal C__law_draw (hr.mono (by decide)) (by rfl) pass0 (pa_cons (pv 0) (pa_cons pe_int pa_nil))))
  (pss_cons (ps_set (i := 3) sc__law_worth.nd rfl (Or.inl rfl) (pe_cal C__law_draw (hr.mono (by decide)) (by rfl) pass0 (pa_cons (pv 0) (pa_cons pe_int pa_nil))))
  (pss_cons (ps_if (pt_cmpR op_eq (pv 1) pe_int (nomark _)) (pss_one (ps_set (i := 3) sc__law_worth.nd rfl (Or.inl rfl) (pe_cal C__law_number (hr.mono (by decide)) (by rfl) pass0 (pa_cons (pv 0) pa_nil)))) pss_nil)
  (pss_cons (ps_if (pt_cmpR op_eq (pv 2) pe_int (nomark _)) (pss_one (ps_ret (pe_tup (pa_cons pe_str (pa_cons (pe_un un_neg (pv 3)) pa_nil))))) pss_nil)
  (pss_one (ps_ret (pe_tup (pa_cons (pe_ix ix_list (pe_lst (pa_cons pe_str (pa_cons pe_str (pa_cons pe_str (pa_cons pe_str (pa_cons pe_str (pa_cons pe_str (pa_cons pe_str pa_nil)))))))) (pv 2) (fun _ _ => rfl)) (pa_cons (pv 3) pa_nil))))))))), ?_⟩
    refine r_begin (show L2.start _ _ = [some _, some _, none, none] from rfl) ?_
    try dsimp only [cxOf]
    walk_at "rr"
    refine ⟨p, 8, n, rfl, hb, by decide, by decide, by omega, fun i H1 i0 i8 b1 B1 => ?_⟩
    walk_at "rr"
    refine ⟨p, 3, _, rfl, B1, by decide, by decide, by omega, fun m H2 m0 m3 b2 B2 => ?_⟩
    walk_at "rr"
    refine r_d (fun hc => ?_) (fun hc => ?_)
    · walk_at "rr"
      refine ⟨p, _, rfl, B2, by omega, fun m' H3 _ _ b3 B3 => ?_⟩
      have b3 := (b1.trans b2).trans b3
      walk_at "rr"
      refine r_d (fun hc => ?_) (fun hc => ?_)
      · walk_at "rr"
        refine ⟨by show 2 ≤ sizeLine; decide, fun t ht => ?_⟩
        exact k _ (_, _) _ ⟨t, rfl, upd_same, by show PyData.strOk "num" = true; decide +kernel⟩ (b3.trans (But.of (same_new ht))) ((B3.upd ht).mono (by omega))
      · walk_at "rr"
        refine ⟨by show 7 ≤ sizeLine; decide, fun l hl => ?_⟩
        walk_at "rr"
        have ne8 : i ≠ 7 := fun e => hc (by rw [e])
        obtain ⟨z, ez, zo⟩ := words7 i0 (by omega)
        refine r_ixl upd_same ez ?_
        walk_at "rr"
        refine ⟨by show 2 ≤ sizeLine; decide, fun t ht => ?_⟩
        exact k _ (z, _) _ ⟨t, rfl, upd_same, zo⟩ ((b3.trans (But.of (same_new hl))).trans (But.of (same_new ht))) (((B3.upd hl).upd ht).mono (by omega))
    · have b3 := b1.trans b2
      have B3 := B2
      walk_at "rr"
      refine r_d (fun hc => ?_) (fun hc => ?_)
      · walk_at "rr"
        refine ⟨by show 2 ≤ sizeLine; decide, fun t ht => ?_⟩
        exact k _ (_, _) _ ⟨t, rfl, upd_same, by show PyData.strOk "num" = true; decide +kernel⟩ (b3.trans (But.of (same_new ht))) ((B3.upd ht).mono (by omega))
      · walk_at "rr"
        refine ⟨by show 7 ≤ sizeLine; decide, fun l hl => ?_⟩
        walk_at "rr"
        have ne8 : i ≠ 7 := fun e => hc (by rw [e])
        obtain ⟨z, ez, zo⟩ := words7 i0 (by omega)
        refine r_ixl upd_same ez ?_
        walk_at "rr"
        refine ⟨by show 2 ≤ sizeLine; decide, fun t ht => ?_⟩
        exact k _ (z, _) _ ⟨t, rfl, upd_same, zo⟩ ((b3.trans (But.of (same_new hl))).trans (But.of (same_new ht))) (((B3.upd hl).upd ht).mono (by omega))
/-! ### _law_things -/
abbrev s__law_things : Stmt := top 12
theorem sc__law_things : FnScope ["row", "due", "worth"] ["row"] (defScope s__law_things) := ⟨rfl, rfl, rfl, by decide +kernel, rfl, by decide +kernel, by decide +kernel⟩
def sp__law_things (K : PySem.W.Frag) : Sp := fun vs H Q _ => ∃ (a : Addr) (ws : List Wo), vs = [.ref a] ∧ PileAt H a ws ∧ ws.length ≤ 10000 ∧
  ∀ (p : Addr) (H' : Hp), H p = none → Same H H' → PileAt H' p (thingsOf ws) → Q (.ref p) H'
theorem ok__law_things {fa : Addr} {fd : FuncData} (F : Fun K "_law_things" "_law_things" s__law_things fa fd) (TX : Tx mg) :
    FnOk P w K mg base CX0 1 fa fd ["row"] (sp__law_things K) := by
  refine F.ok sc__law_things (fun vs H Q E h => ?_) (fun cdv A outer s H vs Q E hr h => ?_)
  · obtain ⟨a, ws, rfl, ⟨xs, hS, hw⟩, hz, k⟩ := h
    rfl
  · obtain ⟨a, ws, rfl, ⟨xs, hS, hw⟩, hz, k⟩ := h
    have hu := hu_of hr
    have hu64 := hr.units
    have hu65 := hu65_of hr
    have hlen := hw.len
    refine ⟨_, (pss_cons (ps_set (i := 1) sc__law_things.nd rfl (Or.inl rfl) (pe_lst pa_nil))
  (pss_cons (ps_for PassesOwn.never rfl (pi_list (pv 0)) (pg_name (i := 2) sc__law_things.nd rfl (Or.inl rfl))
  (pss_one (ps_if (PW.pt (pw_and (PW.pt (pw_or (pt_cmpR op_eq (pe_ix ix_tup (pv 2) pe_int (fun _ _ => rfl)) pe_str (nomark _)) (pw_or1 (pt_cmpR op_eq (pe_ix ix_tup (pv 2) pe_int (fun _ _ => rfl)) pe_str (nomark _))))) (pw_and1 (pt_cmpR (op_notInD hu65) (pv 2) (pv 1) (by rfl))))) (pss_one (ps_expr (pe_bm PySem.F.plainAttrs_list PySem.F.slot_list_append PySem.F.type_list_append mt_append (pv 1) (pa_cons (pv 2) pa_nil)))) pss_nil)))
  (pss_one (ps_ret (pv 1))))), ?_⟩
    refine r_begin (show L2.start _ _ = [some _, none, none] from rfl) ?_
    try dsimp only [cxOf]
    refine ⟨Nat.zero_le _, fun d hd => ?_⟩
    walk_at "rr"
    refine r_ilw (same_new hd _ _ hS) ?_
    refine L_list (fun i σ H' => ∃ y : Option V, σ = [some (.ref a), some (.ref d), y] ∧ Same H H' ∧ ∃ zs, H' d = some (.lst zs) ∧ Wos H' zs ((ws.take i).foldl thStep [])) ⟨none, rfl, same_new hd, [], upd_same, .nil⟩ (fun i σ H' _ ⟨_, _, s, _⟩ => .inl (.inl (s _ _ hS))) ?_ ?_
    · rintro i x σ H1 hx ⟨y, rfl, s1, zs, hd1, hz1⟩
      obtain ⟨w, ew, hw1⟩ := hw.get hx
      have hl : ((ws.take i).foldl thStep []).length ≤ (ws.take i).length := things_len (ws.take i)
      have hl2 := hz1.len
      have hi : i < xs.length := (List.getElem?_eq_some_iff.mp hx).1
      rw [List.length_take] at hl
      have hw2 := hw1.same s1
      have ok1 := hw1.ok
      obtain ⟨b, rfl, hb, _⟩ := hw1
      have hb1 := s1 _ _ hb
      unfold wv at hb1
      have estep := foldl_take thStep [] ws i w ew
      walk_at "rr"
      have isw : isT w = (w.1 == "box" || w.1 == "go") := rfl
      rw [dec_str]
      refine r_ite (fun hc => ?_) (fun hc => ?_)
      · have ht : isT w = true := by rw [isw, hc, Bool.true_or]
        refine r_itT rfl ?_
        walk_at "rr"
        refine ⟨_, _, hw2.dp, .lst (.inl (.inl hd1)) hz1.dp, shaped_wd ok1, shaped_wds hz1.ok, ?_⟩
        walk_at "rr"
        rw [any_wds]
        refine r_nd (fun hc => ?_) (fun hc => ?_)
        · walk_at "rr"
          refine r_tyL hd1 ?_
          walk_at "rr"
          refine r_app hd1 (szl (by omega)) ?_
          refine ⟨_, rfl, fun c o e => ?_, _, upd_same, ?_⟩
          · rw [upd_ne (ne_of_none e hd)]
            exact s1 _ _ e
          · rw [estep, thStep_new ht hc]
            exact (hz1.app (.one hw2)).upd hd1
        · walk_at "rr"
          exact ⟨_, rfl, s1, zs, hd1, by rw [estep, thStep_old hc]; exact hz1⟩
      · walk_at "rr"
        rw [dec_str]
        refine r_ite (fun hc2 => ?_) (fun hc2 => ?_)
        · have ht : isT w = true := by rw [isw, hc, hc2, Bool.or_true]
          walk_at "rr"
          refine ⟨_, _, hw2.dp, .lst (.inl (.inl hd1)) hz1.dp, shaped_wd ok1, shaped_wds hz1.ok, ?_⟩
          walk_at "rr"
          rw [any_wds]
          refine r_nd (fun hc => ?_) (fun hc => ?_)
          · walk_at "rr"
            refine r_tyL hd1 ?_
            walk_at "rr"
            refine r_app hd1 (szl (by omega)) ?_
            refine ⟨_, rfl, fun c o e => ?_, _, upd_same, ?_⟩
            · rw [upd_ne (ne_of_none e hd)]
              exact s1 _ _ e
            · rw [estep, thStep_new ht hc]
              exact (hz1.app (.one hw2)).upd hd1
          · walk_at "rr"
            exact ⟨_, rfl, s1, zs, hd1, by rw [estep, thStep_old hc]; exact hz1⟩
        · have ht : isT w = false := by rw [isw, hc, hc2, Bool.or_false]
          refine r_itF rfl ?_
          walk_at "rr"
          exact ⟨_, rfl, s1, zs, hd1, by rw [estep, thStep_no ht]; exact hz1⟩
    · rintro σ H1 ⟨y, rfl, s1, zs, hd1, hz1⟩
      rw [hlen, List.take_length] at hz1
      walk_at "rr"
      exact k d _ hd s1 ⟨zs, hd1, hz1⟩
/-! ### law -/
abbrev s_law : Stmt := top 13
theorem sc_law : FnScope ["script", "row", "few", "k", "bag", "j", "due", "handed", "found"] ["script"] (defScope s_law) := ⟨rfl, rfl, rfl, by decide +kernel, rfl, by decide +kernel, by decide +kernel⟩
def sp_law (K : PySem.W.Frag) : Sp := fun vs H Q _ => ∃ (a : Addr) (ns : List Int), vs = [.ref a] ∧ SqL K H a (ns.map V.int) ∧ ns.length ≤ 63 ∧ (∀ z ∈ ns, PySem.Builtin.Int.intBits z ≤ 1048576) ∧ ∀ H', Q (.bl true) H'
theorem ok_law {fa : Addr} {fd : FuncData} (F : Fun K "law" "law" s_law fa fd) (TX : Tx mg)
    (C__law_bag : Cal P w K mg base CX0 1 "_law_bag" ["cell", "place"] (sp__law_bag K))
    (C__law_cell_at : Cal P w K mg base CX0 1 "_law_cell_at" ["script", "k"] (sp__law_cell_at K))
    (C__law_draw : Cal P w K mg base CX0 1 "_law_draw" ["bag", "many"] (sp__law_draw K))
    (C__law_same_pile : Cal P w K mg base CX0 3 "_law_same_pile" ["found", "due"] (sp__law_same_pile K))
    (C__law_things : Cal P w K mg base CX0 1 "_law_things" ["row"] (sp__law_things K))
    (C__law_worth : Cal P w K mg base CX0 3 "_law_worth" ["bag", "few"] (sp__law_worth K))
    (C_things_of : Cal P w K mg base CX0 2 "things_of" ["worths"] (sp_things_of K)) :
    FnOk P w K mg base CX0 4 fa fd ["script"] (sp_law K) := by
  refine F.ok sc_law (fun vs H Q E h => ?_) (fun cdv A outer s H vs Q E hr h => ?_)
  · obtain ⟨a, ns, rfl, hS, hn, hbits, q⟩ := h
    rfl
  · obtain ⟨a, ns, rfl, hS, hn, hbits, q⟩ := h
    have hu := hu_of hr
    have hu64 := hr.units
    have hu65 := hu65_of hr
    refine ⟨_, (pss_cons (ps_set (i := 1) sc_law.nd rfl (Or.inl rfl) (pe_lst pa_nil))
  (pss_cons (ps_set (i := 2) sc_law.nd rfl (Or.inl rfl) pe_int)
  (pss_cons (ps_for PassesOwn.never rfl (pi_range1 (by rfl) TX.range (pa_cons (pe_callB (call_max2 rfl) (by rfl) TX.n_max (by decide +kernel) (pa_cons pe_int (pa_cons (pe_callB (call_min2 rfl) (by rfl) TX.n_min (by decide +kernel) (pa_cons pe_int (pa_cons (pe_callB call_len (by rfl) TX.n_len (by decide +kernel) (pa_cons (pv 0) pa_nil)) pa_nil))) pa_nil))) pa_nil)) (pg_name (i := 3) sc_law.nd rfl (Or.inl rfl))
  (pss_cons (ps_set (i := 4) sc_law.nd rfl (Or.inl rfl) (pe_cal C__law_bag (hr.mono (by decide)) (by rfl) pass0 (pa_cons (pe_cal C__law_cell_at (hr.mono (by decide)) (by rfl) pass0 (pa_cons (pv 0) (pa_cons (pv 3) pa_nil))) (pa_cons (pv 3) pa_nil))))
  (pss_cons (ps_if (pt_cmpR op_eq (pv 3) pe_int (nomark _)) (pss_one (ps_set (i := 2) sc_law.nd rfl (Or.inl rfl) (pe_cal C__law_draw (hr.mono (by decide)) (by rfl) pass0 (pa_cons (pv 4) (pa_cons pe_int pa_nil))))) pss_nil)
  (pss_one (ps_for PassesOwn.never rfl (pi_range1 (by rfl) TX.range (pa_cons (pe_cal C__law_draw (hr.mono (by decide)) (by rfl) pass0 (pa_cons (pv 4) (pa_cons pe_int pa_nil))) pa_nil)) (pg_name (i := 5) sc_law.nd rfl (Or.inl rfl))
  (pss_one (ps_expr (pe_bm PySem.F.plainAttrs_list PySem.F.slot_list_append PySem.F.type_list_append mt_append (pv 1) (pa_cons (pe_cal C__law_worth (hr.mono (by decide)) (by rfl) pass0 (pa_cons (pv 4) (pa_cons (pv 2) pa_nil))) pa_nil)))))))))
  (pss_cons (ps_set (i := 1) sc_law.nd rfl (Or.inl rfl) (pe_slice sl_list (pv 1) po_none (po_some pe_int)))
  (pss_cons (ps_set (i := 6) sc_law.nd rfl (Or.inl rfl) (pe_cal C__law_things (hr.mono (by decide)) (by rfl) pass0 (pa_cons (pv 1) pa_nil)))
  (pss_cons (ps_set (i := 7) sc_law.nd rfl (Or.inl rfl) (pe_callTy call_list_of (by rfl) TX.n_list (by decide +kernel) (pa_cons (pv 1) pa_nil)))
  (pss_cons (ps_set (i := 8) sc_law.nd rfl (Or.inl rfl) (pe_cal C_things_of (hr.mono (by decide)) (by rfl) pass0 (pa_cons (pv 7) pa_nil)))
  (pss_cons (ps_if (pt_not (pt_val (pe_cal C__law_same_pile (hr.mono (by decide)) (by rfl) pass0 (pa_cons (pv 8) (pa_cons (pv 6) pa_nil))))) (pss_one (ps_ret pe_bl)) pss_nil)
  (pss_cons (ps_expr (pe_bm PySem.F.plainAttrs_list PySem.F.slot_list_append PySem.F.type_list_append mt_append (pv 8) (pa_cons (pe_tup (pa_cons pe_str (pa_cons pe_int pa_nil))) pa_nil)))
  (pss_cons (ps_expr (pe_bm0 PySem.F.plainAttrs_list PySem.F.slot_list_reverse PySem.F.type_list_reverse mt_reverse (pv 8)))
  (pss_cons (ps_if (PW.pt (pw_or (pt_not (pt_val (pe_cal C__law_same_pile (hr.mono (by decide)) (by rfl) pass0 (pa_cons (pe_cal C_things_of (hr.mono (by decide)) (by rfl) pass0 (pa_cons (pv 7) pa_nil)) (pa_cons (pv 6) pa_nil))))) (pw_or1 (pt_cmpR (op_neD hu64) (pv 7) (pv 1) (nomark _))))) (pss_one (ps_ret pe_bl)) pss_nil)
  (pss_one (ps_ret (pe_cal C__law_same_pile (hr.mono (by decide)) (by rfl) pass0 (pa_cons (pe_cal C_things_of (hr.mono (by decide)) (by rfl) pass0 (pa_cons (pe_op op_cat (pe_slice sl_list (pv 1) po_none (po_some pe_int)) (pe_slice sl_list (pv 1) po_none (po_some pe_int))) pa_nil)) (pa_cons (pe_cal C__law_things (hr.mono (by decide)) (by rfl) pass0 (pa_cons (pe_slice sl_list (pv 1) po_none (po_some pe_int)) pa_nil)) pa_nil)))))))))))))))), ?_⟩
    refine r_begin (show L2.start _ _ = [some _, none, none, none, none, none, none, none, none] from rfl) ?_
    try dsimp only [cxOf]
    refine ⟨Nat.zero_le _, fun l hl => ?_⟩
    walk_at "rr"
    refine ⟨_, _, rfl, .inl ⟨_, (same_new hl).seq hS, rfl⟩, ?_⟩
    walk_at "rr"
    refine ⟨_, _, rfl, ?_⟩
    walk_at "rr"
    refine ⟨_, _, rfl, ?_⟩
    rw [List.length_map]
    refine r_rngv (by split <;> split <;> omega) (by split <;> split <;> omega) ?_
    generalize hm : Int.toNat _ = m
    have hm' : m ≤ 63 := by
      subst hm
      split <;> split <;> omega
    refine L_range (fun j σ H' => ∃ (few : Int) (x3 x4 x5 : Option V) (xs : List V) (ws : List Wo), σ = [some (.ref a), some (.ref l), some (.int few), x3, x4, x5, none, none, none] ∧ Same H H' ∧ H' l = some (.lst xs) ∧ Wos H' xs ws ∧ xs.length ≤ 10 * j) ⟨0, none, none, none, [], [], rfl, same_new hl, upd_same, .nil, Nat.zero_le _⟩ ?_ ?_
    · rintro j σ H1 hj ⟨few, x3, x4, x5, xs, ws, rfl, s1, hl1, hw1, hz1⟩
      walk_at "rr"
      refine ⟨a, ns, _, rfl, s1.seq hS, by omega, hn, fun c => ?_⟩
      walk_at "rr"
      refine ⟨c, _, rfl, by omega, by omega, fun p H2 hp s2 B2 => ?_⟩
      have nlp : l ≠ p := ne_of_none hl1 hp
      have hl2 := s2 _ _ hl1
      have hw2 := hw1.same s2
      walk_at "rr"
      refine r_d (fun hc => ?_) (fun hc => ?_)
      · walk_at "rr"
        refine ⟨p, 2, _, rfl, B2, by decide, by decide, by omega, fun few' H3 _ _ b3 B3 => ?_⟩
        have s3 : Same H1 H3 := But.back s2 hp b3
        have hl3 := b3 _ _ hl2 nlp
        have hw3 := hw2.but b3 B2
        have few := few'
        walk_at "rr"
        refine ⟨p, 10, _, rfl, B3, by decide, by decide, by omega, fun many H4 m0 m9 b4 B4 => ?_⟩
        have s4 : Same H1 H4 := fun c o e => b4 _ _ (s3 _ _ e) (ne_of_none e hp)
        have hl4 := b4 _ _ hl3 nlp
        have hw4 := hw3.but b4 B3
        refine r_rngv (by omega) (by omega) ?_
        refine L_range (fun i σ H' => ∃ (x5 : Option V) (zs : List V) (us : List Wo), σ = [some (.ref a), some (.ref l), some (.int _), some (.int (0 + (j : Int))), some (.ref p), x5, none, none, none] ∧ Same H H' ∧ H' l = some (.lst zs) ∧ Wos H' zs us ∧ zs.length ≤ 10 * j + i ∧ BagAt H' p (2 + 20 * i)) ⟨_, xs, ws, rfl, s1.trans s4, hl4, hw4, by omega, B4.mono (by omega)⟩ ?_ ?_
        · rintro i σ H5 hi ⟨x5, zs, us, rfl, s5, hl5, hw5, hz5, B5⟩
          walk_at "rr"
          refine r_tyL hl5 ?_
          walk_at "rr"
          refine ⟨p, _, _, rfl, B5, by omega, fun t w H6 ht b6 B6 => ?_⟩
          have hl6 := b6 _ _ hl5 nlp
          walk_at "rr"
          refine r_app hl6 (szl (by omega)) ?_
          refine ⟨_, _, us ++ [w], rfl, fun c o e => ?_, upd_same, ((hw5.but b6 B5).app (.one ht)).upd hl6, by rw [List.length_append]; show zs.length + 1 ≤ _; omega, ?_⟩
          · have e5 := s5 _ _ e
            have n1 : c ≠ l := ne_of_none e hl
            have n2 : c ≠ p := ne_of_none (s1 _ _ e) hp
            rw [upd_ne n1]
            exact b6 _ _ e5 n2
          · obtain ⟨x, y, z, e, r⟩ := B6
            exact ⟨x, y, z, by rw [upd_ne nlp.symm]; exact e, by omega⟩
        · rintro σ H5 ⟨x5, zs, us, rfl, s5, hl5, hw5, hz5, B5⟩
          exact ⟨_, _, _, _, zs, us, rfl, s5, hl5, hw5, by omega⟩
      · have H3 := H2
        have s3 : Same H1 H2 := s2
        have B3 := B2.mono (show 0 ≤ 0 + 1 by omega)
        have hl3 := hl2
        have hw3 := hw2
        walk_at "rr"
        refine ⟨p, 10, _, rfl, B3, by decide, by decide, by omega, fun many H4 m0 m9 b4 B4 => ?_⟩
        have s4 : Same H1 H4 := fun c o e => b4 _ _ (s3 _ _ e) (ne_of_none e hp)
        have hl4 := b4 _ _ hl3 nlp
        have hw4 := hw3.but b4 B3
        refine r_rngv (by omega) (by omega) ?_
        refine L_range (fun i σ H' => ∃ (x5 : Option V) (zs : List V) (us : List Wo), σ = [some (.ref a), some (.ref l), some (.int _), some (.int (0 + (j : Int))), some (.ref p), x5, none, none, none] ∧ Same H H' ∧ H' l = some (.lst zs) ∧ Wos H' zs us ∧ zs.length ≤ 10 * j + i ∧ BagAt H' p (2 + 20 * i)) ⟨_, xs, ws, rfl, s1.trans s4, hl4, hw4, by omega, B4.mono (by omega)⟩ ?_ ?_
        · rintro i σ H5 hi ⟨x5, zs, us, rfl, s5, hl5, hw5, hz5, B5⟩
          walk_at "rr"
          refine r_tyL hl5 ?_
          walk_at "rr"
          refine ⟨p, _, _, rfl, B5, by omega, fun t w H6 ht b6 B6 => ?_⟩
          have hl6 := b6 _ _ hl5 nlp
          walk_at "rr"
          refine r_app hl6 (szl (by omega)) ?_
          refine ⟨_, _, us ++ [w], rfl, fun c o e => ?_, upd_same, ((hw5.but b6 B5).app (.one ht)).upd hl6, by rw [List.length_append]; show zs.length + 1 ≤ _; omega, ?_⟩
          · have e5 := s5 _ _ e
            have n1 : c ≠ l := ne_of_none e hl
            have n2 : c ≠ p := ne_of_none (s1 _ _ e) hp
            rw [upd_ne n1]
            exact b6 _ _ e5 n2
          · obtain ⟨x, y, z, e, r⟩ := B6
            exact ⟨x, y, z, by rw [upd_ne nlp.symm]; exact e, by omega⟩
        · rintro σ H5 ⟨x5, zs, us, rfl, s5, hl5, hw5, hz5, B5⟩
          exact ⟨_, _, _, _, zs, us, rfl, s5, hl5, hw5, by omega⟩
    · rintro σ H1 ⟨few, x3, x4, x5, xs, ws, rfl, s1, hl1, hw1, hz1⟩
      walk_at "rr"
      have hS1 := s1.seq hS
      refine r_slL (.inl (.inl hl1)) fun r hr1 => ?_
      have w2 := (hw1.same (same_new (o := .lst (xs.take 400)) hr1)).take 400
      rw [show cutV xs none (some 400) = xs.take 400 from cut_to xs 400]
      have e2 : upd H1 r (.lst (xs.take 400)) r = some (.lst (xs.take 400)) := upd_same
      generalize upd H1 r (.lst (xs.take 400)) = H2 at w2 e2 ⊢
      have l400 : (ws.take 400).length ≤ 400 := by rw [List.length_take]; omega
      have lx400 : (xs.take 400).length ≤ 400 := by rw [List.length_take]; omega
      generalize ws.take 400 = vs at w2 l400
      generalize xs.take 400 = ys at w2 e2 lx400 ⊢
      walk_at "rr"
      refine ⟨r, vs, rfl, ⟨ys, e2, w2⟩, by omega, fun d H3 hd s3 pd => ?_⟩
      walk_at "rr"
      refine ⟨r, ys, rfl, .inl (.inl (.inl (s3 _ _ e2))), fun h hh => ?_⟩
      have s4 : Same H3 (upd H3 h (.lst ys)) := same_new hh
      have e4 : upd H3 h (.lst ys) h = some (.lst ys) := upd_same
      generalize upd H3 h (.lst ys) = H4 at s4 e4 ⊢
      have er4 := s4 _ _ (s3 _ _ e2)
      have w4 := (w2.same s3).same s4
      have pd4 := pd.same s4
      have tl := things_len vs
      walk_at "rr"
      refine ⟨h, ys, vs, rfl, .inl (.inl e4), w4, by omega, fun f fs H5 hf s5 e5 w5 => ?_⟩
      walk_at "rr"
      refine ⟨f, d, thingsOf vs, rfl, ⟨fs, e5, w5⟩, pd4.same s5, by omega, ?_⟩
      walk_at "rr"
      refine r_itF rfl ?_
      walk_at "rr"
      refine r_tyL e5 ?_
      walk_at "rr"
      refine ⟨by show 2 ≤ sizeLine; decide, fun t ht => ?_⟩
      have lf := w5.len
      walk_at "rr"
      refine r_app (same_new ht _ _ e5) (szl (by omega)) ?_
      walk_at "rr"
      refine r_tyL upd_same ?_
      refine r_rev upd_same ?_
      rw [upd_upd]
      have b5 : Same H4 (upd (upd H5 t (.tup [.str "box", .int 0])) f (.lst (fs ++ [V.ref t]).reverse)) := fun c o e => by
        rw [upd_ne (ne_of_none e hf)]
        exact same_new ht _ _ (s5 _ _ e)
      generalize upd (upd H5 t (.tup [.str "box", .int 0])) f (.lst (fs ++ [V.ref t]).reverse) = H6 at b5 ⊢
      walk_at "rr"
      refine ⟨h, ys, vs, rfl, .inl (.inl (b5 _ _ e4)), w4.same b5, by omega, fun f2 fs2 H7 hf2 s7 e7 w7 => ?_⟩
      walk_at "rr"
      refine ⟨f2, d, thingsOf vs, rfl, ⟨fs2, e7, w7⟩, (pd4.same b5).same s7, by omega, ?_⟩
      walk_at "rr"
      refine r_itF rfl ?_
      walk_at "rr"
      have b7 := b5.trans s7
      have w7' := w4.same b7
      refine r_neD (.lst (.inl (.inl (b7 _ _ e4))) w7'.dp) (.lst (.inl (.inl (b7 _ _ er4))) w7'.dp) (shaped_wds w7'.ok) (shaped_wds w7'.ok) ?_
      rw [eqv_wds, decide_eq_true rfl]
      walk_at "rr"
      refine r_itF rfl ?_
      walk_at "rr"
      refine r_slL (.inl (.inl (b7 _ _ er4))) fun r2 hr2 => ?_
      rw [show cutV ys none (some 200) = ys.take 200 from cut_to ys 200]
      walk_at "rr"
      refine r_slL (.inl (.inl (same_new hr2 _ _ (b7 _ _ er4)))) fun r3 hr3 => ?_
      rw [show cutV ys none (some 200) = ys.take 200 from cut_to ys 200]
      have e8 := same_new (o := .lst (ys.take 200)) hr3 _ _ (upd_same (H := H7) (a := r2) (o := .lst (ys.take 200)))
      have s8 : Same H7 (upd (upd H7 r2 (.lst (ys.take 200))) r3 (.lst (ys.take 200))) := (same_new hr2).trans (same_new hr3)
      have ly2 : (ys.take 200).length ≤ 200 := by rw [List.length_take]; omega
      refine ⟨r2, r3, _, _, rfl, rfl, e8, upd_same, sz (by omega), fun c hc => ?_⟩
      have s9 := s8.trans (same_new (o := .lst (ys.take 200 ++ ys.take 200)) hc)
      have w9 := (w7'.same s9).take 200
      walk_at "rr"
      refine ⟨c, _, _, rfl, .inl (.inl upd_same), w9.app w9, by rw [List.length_append]; omega, fun f3 fs3 H10 hf3 s10 e10 w10 => ?_⟩
      have er10 := s10 _ _ (s9 _ _ (b7 _ _ er4))
      walk_at "rr"
      refine r_slL (.inl (.inl er10)) fun r4 hr4 => ?_
      rw [show cutV ys none (some 200) = ys.take 200 from cut_to ys 200]
      walk_at "rr"
      have lv2 : (vs.take 200).length ≤ 200 := by rw [List.length_take]; omega
      refine ⟨r4, vs.take 200, rfl, ⟨_, upd_same, ((w9.same s10).same (same_new hr4))⟩, by omega, fun d2 H11 hd2 s11 pd2 => ?_⟩
      walk_at "rr"
      have s12 := (same_new (o := .lst (ys.take 200)) hr4).trans s11
      rw [things_twice] at w10
      have tl2 := things_len (vs.take 200)
      exact ⟨f3, d2, thingsOf (vs.take 200), rfl, ⟨fs3, s12 _ _ e10, w10.same s12⟩, pd2, by omega, q _⟩
end
theorem all_mk {l : PySem.W.OpenLaw} {w : World} {K : PySem.W.Frag} {h : Heap} {mg : Str → Option Value} {fa : Addr} {f1 f2 f3 f4 f5 f6 f7 f8 f9 f10 f11 f12 : Addr} (X : K.In h) (G : h.Ns mainGlobals mg) (hfa : mg "law" = some (.ref fa))
    {od1 an1 od2 an2 od3 an3 od4 an4 od5 an5 od6 an6 od7 an7 od8 an8 od9 an9 od10 an10 od11 an11 od12 an12 : Option Addr} {sl1 sl2 sl3 sl4 sl5 sl6 sl7 sl8 sl9 sl10 sl11 sl12 : Array (Option Value)} {oc1 kV1 dc1 pm1 cd1 ct1 oc2 kV2 dc2 pm2 cd2 ct2 oc3 kV3 dc3 pm3 cd3 ct3 oc4 kV4 dc4 pm4 cd4 ct4 oc5 kV5 dc5 pm5 cd5 ct5 oc6 kV6 dc6 pm6 cd6 ct6 oc7 kV7 dc7 pm7 cd7 ct7 oc8 kV8 dc8 pm8 cd8 ct8 oc9 kV9 dc9 pm9 cd9 ct9 oc10 kV10 dc10 pm10 cd10 ct10 oc11 kV11 dc11 pm11 cd11 ct11 oc12 kV12 dc12 pm12 cd12 ct12 : Value}
    (a1 : PySem.W.nsIn K mainGlobals "is_thing" = some (some (.ref f1))) (l1 : K.lookup f1 = some ⟨oc1, od1, .func (PySem.W.fnOf "is_thing" "is_thing" (defArgs s_is_thing) (defBody s_is_thing) (defScope s_is_thing) .none kV1 dc1 pm1 an1 cd1 ct1), sl1⟩) (c1 : PySem.W.codeIn K cd1 "is_thing" = true) (k1 : PySem.W.keepIn K (.ref f1) = true)
    (a2 : PySem.W.nsIn K mainGlobals "things_of" = some (some (.ref f2))) (l2 : K.lookup f2 = some ⟨oc2, od2, .func (PySem.W.fnOf "things_of" "things_of" (defArgs s_things_of) (defBody s_things_of) (defScope s_things_of) .none kV2 dc2 pm2 an2 cd2 ct2), sl2⟩) (c2 : PySem.W.codeIn K cd2 "things_of" = true) (k2 : PySem.W.keepIn K (.ref f2) = true)
    (a3 : PySem.W.nsIn K mainGlobals "_law_cell_at" = some (some (.ref f3))) (l3 : K.lookup f3 = some ⟨oc3, od3, .func (PySem.W.fnOf "_law_cell_at" "_law_cell_at" (defArgs s__law_cell_at) (defBody s__law_cell_at) (defScope s__law_cell_at) .none kV3 dc3 pm3 an3 cd3 ct3), sl3⟩) (c3 : PySem.W.codeIn K cd3 "_law_cell_at" = true) (k3 : PySem.W.keepIn K (.ref f3) = true)
    (a4 : PySem.W.nsIn K mainGlobals "_law_bag" = some (some (.ref f4))) (l4 : K.lookup f4 = some ⟨oc4, od4, .func (PySem.W.fnOf "_law_bag" "_law_bag" (defArgs s__law_bag) (defBody s__law_bag) (defScope s__law_bag) .none kV4 dc4 pm4 an4 cd4 ct4), sl4⟩) (c4 : PySem.W.codeIn K cd4 "_law_bag" = true) (k4 : PySem.W.keepIn K (.ref f4) = true)
    (a5 : PySem.W.nsIn K mainGlobals "_law_draw" = some (some (.ref f5))) (l5 : K.lookup f5 = some ⟨oc5, od5, .func (PySem.W.fnOf "_law_draw" "_law_draw" (defArgs s__law_draw) (defBody s__law_draw) (defScope s__law_draw) .none kV5 dc5 pm5 an5 cd5 ct5), sl5⟩) (c5 : PySem.W.codeIn K cd5 "_law_draw" = true) (k5 : PySem.W.keepIn K (.ref f5) = true)
    (a6 : PySem.W.nsIn K mainGlobals "_law_number" = some (some (.ref f6))) (l6 : K.lookup f6 = some ⟨oc6, od6, .func (PySem.W.fnOf "_law_number" "_law_number" (defArgs s__law_number) (defBody s__law_number) (defScope s__law_number) .none kV6 dc6 pm6 an6 cd6 ct6), sl6⟩) (c6 : PySem.W.codeIn K cd6 "_law_number" = true) (k6 : PySem.W.keepIn K (.ref f6) = true)
    (a7 : PySem.W.nsIn K mainGlobals "_law_whole" = some (some (.ref f7))) (l7 : K.lookup f7 = some ⟨oc7, od7, .func (PySem.W.fnOf "_law_whole" "_law_whole" (defArgs s__law_whole) (defBody s__law_whole) (defScope s__law_whole) .none kV7 dc7 pm7 an7 cd7 ct7), sl7⟩) (c7 : PySem.W.codeIn K cd7 "_law_whole" = true) (k7 : PySem.W.keepIn K (.ref f7) = true)
    (a8 : PySem.W.nsIn K mainGlobals "_law_same" = some (some (.ref f8))) (l8 : K.lookup f8 = some ⟨oc8, od8, .func (PySem.W.fnOf "_law_same" "_law_same" (defArgs s__law_same) (defBody s__law_same) (defScope s__law_same) .none kV8 dc8 pm8 an8 cd8 ct8), sl8⟩) (c8 : PySem.W.codeIn K cd8 "_law_same" = true) (k8 : PySem.W.keepIn K (.ref f8) = true)
    (a9 : PySem.W.nsIn K mainGlobals "_law_same_pile" = some (some (.ref f9))) (l9 : K.lookup f9 = some ⟨oc9, od9, .func (PySem.W.fnOf "_law_same_pile" "_law_same_pile" (defArgs s__law_same_pile) (defBody s__law_same_pile) (defScope s__law_same_pile) .none kV9 dc9 pm9 an9 cd9 ct9), sl9⟩) (c9 : PySem.W.codeIn K cd9 "_law_same_pile" = true) (k9 : PySem.W.keepIn K (.ref f9) = true)
    (a10 : PySem.W.nsIn K mainGlobals "_law_worth" = some (some (.ref f10))) (l10 : K.lookup f10 = some ⟨oc10, od10, .func (PySem.W.fnOf "_law_worth" "_law_worth" (defArgs s__law_worth) (defBody s__law_worth) (defScope s__law_worth) .none kV10 dc10 pm10 an10 cd10 ct10), sl10⟩) (c10 : PySem.W.codeIn K cd10 "_law_worth" = true) (k10 : PySem.W.keepIn K (.ref f10) = true)
    (a11 : PySem.W.nsIn K mainGlobals "_law_things" = some (some (.ref f11))) (l11 : K.lookup f11 = some ⟨oc11, od11, .func (PySem.W.fnOf "_law_things" "_law_things" (defArgs s__law_things) (defBody s__law_things) (defScope s__law_things) .none kV11 dc11 pm11 an11 cd11 ct11), sl11⟩) (c11 : PySem.W.codeIn K cd11 "_law_things" = true) (k11 : PySem.W.keepIn K (.ref f11) = true)
    (a12 : PySem.W.nsIn K mainGlobals "law" = some (some (.ref f12))) (l12 : K.lookup f12 = some ⟨oc12, od12, .func (PySem.W.fnOf "law" "law" (defArgs s_law) (defBody s_law) (defScope s_law) .none kV12 dc12 pm12 an12 cd12 ct12), sl12⟩) (c12 : PySem.W.codeIn K cd12 "law" = true) (k12 : PySem.W.keepIn K (.ref f12) = true)
    (z0 : PySem.W.nsIn K mainGlobals "len" = some none) (z1 : PySem.W.nsIn K mainGlobals "isinstance" = some none) (z2 : PySem.W.nsIn K mainGlobals "range" = some none) (z3 : PySem.W.nsIn K mainGlobals "max" = some none) (z4 : PySem.W.nsIn K mainGlobals "min" = some none) (z5 : PySem.W.nsIn K mainGlobals "int" = some none) (z6 : PySem.W.nsIn K mainGlobals "bool" = some none) (z7 : PySem.W.nsIn K mainGlobals "str" = some none) (z8 : PySem.W.nsIn K mainGlobals "list" = some none) (z9 : PySem.W.nsIn K mainGlobals "tuple" = some none) (z10 : PySem.W.nsIn K mainGlobals "dict" = some none) (z11 : PySem.W.nsIn K mainGlobals "sorted" = some none) (z12 : PySem.W.nsIn K mainGlobals "sum" = some none) (z13 : PySem.W.nsIn K mainGlobals "all" = some none) (z14 : PySem.W.nsIn K mainGlobals "any" = some none) (z15 : PySem.W.nsIn K mainGlobals "enumerate" = some none) (z16 : PySem.W.nsIn K mainGlobals "zip" = some none) (z17 : PySem.W.nsIn K mainGlobals "reversed" = some none)
    : ∃ fd : FuncData, (∀ (s : Shared) (v : Value), BindsTo s fd ⟨[v], []⟩ [("script", v)]) ∧ ∀ base : Heap, K.In base → base.Ns mainGlobals mg → FnOk l.prog w K mg base CX0 4 fa fd ["script"] (sp_law K) := by
  have e := hfa.symm.trans (PySem.W.mg_of X G a12)
  cases e
  have F1 := fun_mk (st := s_is_thing) l1 c1 k1
  have b1 := F1.binds (ps := ["worth"]) fun _ _ _ _ _ _ us hl => match us, hl with | [_], _ => rfl
  have F2 := fun_mk (st := s_things_of) l2 c2 k2
  have b2 := F2.binds (ps := ["worths"]) fun _ _ _ _ _ _ us hl => match us, hl with | [_], _ => rfl
  have F3 := fun_mk (st := s__law_cell_at) l3 c3 k3
  have b3 := F3.binds (ps := ["script", "k"]) fun _ _ _ _ _ _ us hl => match us, hl with | [_, _], _ => rfl
  have F4 := fun_mk (st := s__law_bag) l4 c4 k4
  have b4 := F4.binds (ps := ["cell", "place"]) fun _ _ _ _ _ _ us hl => match us, hl with | [_, _], _ => rfl
  have F5 := fun_mk (st := s__law_draw) l5 c5 k5
  have b5 := F5.binds (ps := ["bag", "many"]) fun _ _ _ _ _ _ us hl => match us, hl with | [_, _], _ => rfl
  have F6 := fun_mk (st := s__law_number) l6 c6 k6
  have b6 := F6.binds (ps := ["bag"]) fun _ _ _ _ _ _ us hl => match us, hl with | [_], _ => rfl
  have F7 := fun_mk (st := s__law_whole) l7 c7 k7
  have b7 := F7.binds (ps := ["found"]) fun _ _ _ _ _ _ us hl => match us, hl with | [_], _ => rfl
  have F8 := fun_mk (st := s__law_same) l8 c8 k8
  have b8 := F8.binds (ps := ["found", "due"]) fun _ _ _ _ _ _ us hl => match us, hl with | [_, _], _ => rfl
  have F9 := fun_mk (st := s__law_same_pile) l9 c9 k9
  have b9 := F9.binds (ps := ["found", "due"]) fun _ _ _ _ _ _ us hl => match us, hl with | [_, _], _ => rfl
  have F10 := fun_mk (st := s__law_worth) l10 c10 k10
  have b10 := F10.binds (ps := ["bag", "few"]) fun _ _ _ _ _ _ us hl => match us, hl with | [_, _], _ => rfl
  have F11 := fun_mk (st := s__law_things) l11 c11 k11
  have b11 := F11.binds (ps := ["row"]) fun _ _ _ _ _ _ us hl => match us, hl with | [_], _ => rfl
  have F12 := fun_mk (st := s_law) l12 c12 k12
  have TX : Tx mg := ⟨PySem.W.mg_none_of X G z0, PySem.W.mg_none_of X G z1, PySem.W.mg_none_of X G z2, PySem.W.mg_none_of X G z3, PySem.W.mg_none_of X G z4, PySem.W.mg_none_of X G z5, PySem.W.mg_none_of X G z6, PySem.W.mg_none_of X G z7, PySem.W.mg_none_of X G z8, PySem.W.mg_none_of X G z9, PySem.W.mg_none_of X G z10, PySem.W.mg_none_of X G z11, PySem.W.mg_none_of X G z12, PySem.W.mg_none_of X G z13, PySem.W.mg_none_of X G z14, PySem.W.mg_none_of X G z15, PySem.W.mg_none_of X G z16, PySem.W.mg_none_of X G z17⟩
  refine ⟨PySem.W.fnOf "law" "law" (defArgs s_law) (defBody s_law) (defScope s_law) .none kV12 dc12 pm12 an12 cd12 ct12, fun s v => .of_eq rfl, fun base _ _ => ?_⟩
  have C_is_thing := Cal.of (ok_is_thing (P := l.prog) (w := w) (K := K) (mg := mg) (base := base) F1 TX) b1 k1 (PySem.W.mg_of X G a1)
  have C_things_of := Cal.of (ok_things_of (P := l.prog) (w := w) (K := K) (mg := mg) (base := base) F2 TX C_is_thing) b2 k2 (PySem.W.mg_of X G a2)
  have C__law_cell_at := Cal.of (ok__law_cell_at (P := l.prog) (w := w) (K := K) (mg := mg) (base := base) F3 TX) b3 k3 (PySem.W.mg_of X G a3)
  have C__law_bag := Cal.of (ok__law_bag (P := l.prog) (w := w) (K := K) (mg := mg) (base := base) F4 TX) b4 k4 (PySem.W.mg_of X G a4)
  have C__law_draw := Cal.of (ok__law_draw (P := l.prog) (w := w) (K := K) (mg := mg) (base := base) F5 TX) b5 k5 (PySem.W.mg_of X G a5)
  have C__law_number := Cal.of (ok__law_number (P := l.prog) (w := w) (K := K) (mg := mg) (base := base) F6 TX C__law_draw) b6 k6 (PySem.W.mg_of X G a6)
  have C__law_whole := Cal.of (ok__law_whole (P := l.prog) (w := w) (K := K) (mg := mg) (base := base) F7 TX) b7 k7 (PySem.W.mg_of X G a7)
  have C__law_same := Cal.of (ok__law_same (P := l.prog) (w := w) (K := K) (mg := mg) (base := base) F8 TX C__law_whole) b8 k8 (PySem.W.mg_of X G a8)
  have C__law_same_pile := Cal.of (ok__law_same_pile (P := l.prog) (w := w) (K := K) (mg := mg) (base := base) F9 TX C__law_same) b9 k9 (PySem.W.mg_of X G a9)
  have C__law_worth := Cal.of (ok__law_worth (P := l.prog) (w := w) (K := K) (mg := mg) (base := base) F10 TX C__law_draw C__law_number) b10 k10 (PySem.W.mg_of X G a10)
  have C__law_things := Cal.of (ok__law_things (P := l.prog) (w := w) (K := K) (mg := mg) (base := base) F11 TX) b11 k11 (PySem.W.mg_of X G a11)
  exact ok_law F12 TX C__law_bag C__law_cell_at C__law_draw C__law_same_pile C__law_things C__law_worth C_things_of
end Q
open PySem PySem.W PyProof.Rows
set_option maxHeartbeats 0 in
theorem PySem.Challenge.cw_manygoings_k02_things_of_lists_holds : PySem.Challenge.rw_manygoings_k02_things_of_lists.Holds := by
  w_on; o_law; k_head; (case hw => w_witness2)
  k_fill
  refine L2.walk_ofB (l := PySem.Challenge.rw_manygoings_k02_things_of_lists) (n := 63) (k := 4) (x := "script") (CX := fun _ => L2.CX0) (sp := fun w => Q.sp_law _) rfl (by decide) rfl ⟨rfl, by decide, by decide⟩ (fun w h Y => PySem.W.kIn_of Y) ?F (fun _ _ a ns hl hb _ hS => ⟨a, ns, rfl, hS, hl, hb, fun _ => rfl⟩) (fun _ _ _ _ _ h => h)
  case F =>
    intro w mg fa h KX G hmg
    refine' Q.all_mk KX G hmg ?a1 ?l1 ?c1 ?k1 ?a2 ?l2 ?c2 ?k2 ?a3 ?l3 ?c3 ?k3 ?a4 ?l4 ?c4 ?k4 ?a5 ?l5 ?c5 ?k5 ?a6 ?l6 ?c6 ?k6 ?a7 ?l7 ?c7 ?k7 ?a8 ?l8 ?c8 ?k8 ?a9 ?l9 ?c9 ?k9 ?a10 ?l10 ?c10 ?k10 ?a11 ?l11 ?c11 ?k11 ?a12 ?l12 ?c12 ?k12 ?z0 ?z1 ?z2 ?z3 ?z4 ?z5 ?z6 ?z7 ?z8 ?z9 ?z10 ?z11 ?z12 ?z13 ?z14 ?z15 ?z16 ?z17
    (case a1 => k_is)
    (case l1 => k_is)
    (case c1 => k_is)
    (case k1 => k_is)
    (case a2 => k_is)
    (case l2 => k_is)
    (case c2 => k_is)
    (case k2 => k_is)
    (case a3 => k_is)
    (case l3 => k_is)
    (case c3 => k_is)
    (case k3 => k_is)
    (case a4 => k_is)
    (case l4 => k_is)
    (case c4 => k_is)
    (case k4 => k_is)
    (case a5 => k_is)
    (case l5 => k_is)
    (case c5 => k_is)
    (case k5 => k_is)
    (case a6 => k_is)
    (case l6 => k_is)
    (case c6 => k_is)
    (case k6 => k_is)
    (case a7 => k_is)
    (case l7 => k_is)
    (case c7 => k_is)
    (case k7 => k_is)
    (case a8 => k_is)
    (case l8 => k_is)
    (case c8 => k_is)
    (case k8 => k_is)
    (case a9 => k_is)
    (case l9 => k_is)
    (case c9 => k_is)
    (case k9 => k_is)
    (case a10 => k_is)
    (case l10 => k_is)
    (case c10 => k_is)
    (case k10 => k_is)
    (case a11 => k_is)
    (case l11 => k_is)
    (case c11 => k_is)
    (case k11 => k_is)
    (case a12 => k_is)
    (case l12 => k_is)
    (case c12 => k_is)
    (case k12 => k_is)
    (case z0 => k_is)
    (case z1 => k_is)
    (case z2 => k_is)
    (case z3 => k_is)
    (case z4 => k_is)
    (case z5 => k_is)
    (case z6 => k_is)
    (case z7 => k_is)
    (case z8 => k_is)
    (case z9 => k_is)
    (case z10 => k_is)
    (case z11 => k_is)
    (case z12 => k_is)
    (case z13 => k_is)
    (case z14 => k_is)
    (case z15 => k_is)
    (case z16 => k_is)
    (case z17 => k_is)
