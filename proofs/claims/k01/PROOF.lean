import PyProof.Rows.All
import Wide.All
import OpenK.AllK
import Wide.FinOn
import HandS.ForMost
import HandS.Wide
import HandS.IsInst
import HandS.EndBits
import HandS.Deep
import HandS.More
import PySem.Challenge.RW_manygoings_k01_what_is_a_worth
set_option Elab.async false
set_option linter.all false
set_option maxRecDepth 100000
set_option maxHeartbeats 4000000
namespace G
open PySem L2
/-! ### one's own defs, called by name -/
section
variable (P : Program) (w : World) (K : PySem.W.Frag) (mg : Str → Option Value) (base : Heap)
/-- the def that the module's name x holds keeps the promise sp -/
structure Cal (CX : CXT) (k : Nat) (x : Str) (ps : List Str) (sp : Sp) : Prop where
  ex : ∃ (f : Addr) (fd : FuncData), FnOk P w K mg base CX k f fd ps sp ∧ Binds K fd ps [] ∧ PySem.W.keepIn K (.ref f) = true ∧ mg x = some (.ref f)
end
section
variable {X : Cx} {e : Expr} {es : List Expr} {pos p : Pos} {t : TA} {CX : CXT} {k j : Nat} {x : Str} {ps : List Str} {sp : Sp} {E : XK}
def tCal (sp : Sp) (E : XK) (t : TA) : TE := fun σ H Q => t σ H fun vs H1 => sp vs H1 Q E
theorem pe_cal (C : Cal X.prog X.w X.K X.mg X.base CX j x ps sp) (hr : Room j X.A) (hg : Gl X x) (hx : Passes CX X E) (ha : PA X (e :: es) t)
    (hdb : (x == ("__debug__" : Str)) = false := by decide) (he : starEach (e :: es) X.env = (false, eval e X.env) :: starEach es X.env := by rfl) (hpl : (backTo pos (starEach es X.env)).any (·.1) = false := by rfl) :
    PE X (.Call (.Name x p) (e :: es) [] pos) (tCal sp E t) := by
  obtain ⟨f, fd, F, b, kp, hm⟩ := C.ex
  have q := pe_call (p := p) (pos := pos) F hr hg hm kp b .nil hx ha hdb he hpl
  have z : tCall sp [] E t = tCal sp E t := by
    funext σ H Q
    unfold tCall tCal
    simp only [List.append_nil]
  rw [z] at q
  exact q
theorem pe_cal0 (C : Cal X.prog X.w X.K X.mg X.base CX j x ps sp) (hr : Room j X.A) (hg : Gl X x) (hx : Passes CX X E)
    (hdb : (x == ("__debug__" : Str)) = false := by decide) : PE X (.Call (.Name x p) [] [] pos) (tCal sp E tNil) := by
  obtain ⟨f, fd, F, b, kp, hm⟩ := C.ex
  have q := pe_call0 (p := p) (pos := pos) F hr hg hm kp b .nil hx hdb
  have z : tCall sp [] E tNil = tCal sp E tNil := by
    funext σ H Q
    unfold tCall tCal
    simp only [List.append_nil]
  rw [z] at q
  exact q
theorem Cal.of {P : Program} {w : World} {K : PySem.W.Frag} {mg : Str → Option Value} {base : Heap} {f : Addr} {fd : FuncData} (F : FnOk P w K mg base CX j f fd ps sp) (b : Binds K fd ps []) (kp : PySem.W.keepIn K (.ref f) = true) (hm : mg x = some (.ref f)) :
    Cal P w K mg base CX j x ps sp := ⟨f, fd, F, b, kp, hm⟩
end
/-- the built-in names that no module's name hides -/
structure Tx (mg : Str → Option Value) : Prop where
  n_len : mg "len" = none
  n_isinstance : mg "isinstance" = none
  range : mg "range" = none
  n_max : mg "max" = none
  n_min : mg "min" = none
  n_int : mg "int" = none
  n_bool : mg "bool" = none
  n_str : mg "str" = none
  n_list : mg "list" = none
  n_tuple : mg "tuple" = none
  n_dict : mg "dict" = none
  n_sorted : mg "sorted" = none
  n_sum : mg "sum" = none
  n_all : mg "all" = none
  n_any : mg "any" = none
  enumerate : mg "enumerate" = none
  zip : mg "zip" = none
  reversed : mg "reversed" = none

/-! ### readings, one step at a time -/
section
variable {σ : L2.St} {H : Hp} {Q : VK} {nx : L2.St → Hp → Prop} {rt : VK} {bk ct : L2.St → Hp → Prop} {t u : TS} {te ta tb tv : TE} {tt tc : TT} {tl : TA} {g : TG} {v x y : V} {i : Nat} {K : PySem.W.Frag}
theorem r_seq (h : t ⟨u ⟨nx, rt, bk, ct⟩, rt, bk, ct⟩ σ H) : tSeq t u ⟨nx, rt, bk, ct⟩ σ H := h
theorem r_asg (h : te σ H fun x H1 => g x σ H1 nx) : tAsg te g ⟨nx, rt, bk, ct⟩ σ H := h
theorem r_name {Q : L2.St → Hp → Prop} {σ' : L2.St} (e : σ.set i (some v) = σ') (h : Q σ' H) : gName i v σ H Q := by
  subst e
  exact h
theorem r_begin {D : Ends} {σ' : L2.St} (e : σ = σ') (h : t D σ' H) : t D σ H := by
  subst e
  exact h
theorem r_ret (h : te σ H rt) : tRet te ⟨nx, rt, bk, ct⟩ σ H := h
theorem r_retN (h : rt .non H) : tRetN ⟨nx, rt, bk, ct⟩ σ H := h
theorem r_next (h : nx σ H) : tNext ⟨nx, rt, bk, ct⟩ σ H := h
theorem r_brk (h : bk σ H) : tBreak ⟨nx, rt, bk, ct⟩ σ H := h
theorem r_cont (h : ct σ H) : tCont ⟨nx, rt, bk, ct⟩ σ H := h
theorem r_drop (h : te σ H fun _ H1 => nx σ H1) : tDrop te ⟨nx, rt, bk, ct⟩ σ H := h
theorem r_if (h : tc σ H fun b H1 => if b = true then t ⟨nx, rt, bk, ct⟩ σ H1 else u ⟨nx, rt, bk, ct⟩ σ H1) : tIfS tc t u ⟨nx, rt, bk, ct⟩ σ H := h
theorem r_var (e : σ[i]? = some (some v)) (h : Q v H) : tVar i σ H Q := ⟨v, e, h⟩
theorem r_c (h : Q v H) : tC v σ H Q := h
theorem r_op {r : R2} (h : ta σ H fun x H1 => tb σ H1 fun y H2 => r x y H2 Q) : tOp r ta tb σ H Q := h
theorem r_un {r : V → Hp → VK → Prop} (h : ta σ H fun x H1 => r x H1 Q) : tUn r ta σ H Q := h
theorem r_i0 {f : Int → Int → V} {a b : Int} (h : Q (f a b) H) : rI0 f (.int a) (.int b) H Q := ⟨a, b, rfl, rfl, h⟩
theorem r_i {C : Int → Int → Prop} {f : Int → Int → V} {a b : Int} (c : C a b) (h : Q (f a b) H) : rI C f (.int a) (.int b) H Q := ⟨a, b, rfl, rfl, c, h⟩
theorem r_u {f : Int → V} {a : Int} (h : Q (f a) H) : rU f (.int a) H Q := ⟨a, rfl, h⟩
theorem r_eq (s : scal x y = true) (h : Q (.bl (decide (x = y))) H) : rEq x y H Q := ⟨s, h⟩
theorem r_ne (s : scal x y = true) (h : Q (.bl (!decide (x = y))) H) : rNe x y H Q := ⟨s, h⟩
theorem r_test {Q : Bool → Hp → Prop} (h : te σ H fun x H' => ∃ k, x = .bl k ∧ Q k H') : tTest te σ H Q := h
theorem r_tB {Q : Bool → Hp → Prop} (h : te σ H fun x H' => ∃ k, x = .bl k ∧ Q k H') : tB te σ H Q := h
theorem r_bl {Q : Bool → Prop} {b : Bool} (h : Q b) : ∃ k, V.bl b = .bl k ∧ Q k := ⟨b, rfl, h⟩
theorem r_and {Q : Bool → Hp → Prop} (h : tt σ H fun c H1 => if c = true then tc σ H1 Q else Q false H1) : tAnd tt tc σ H Q := h
theorem r_or {Q : Bool → Hp → Prop} (h : tt σ H fun c H1 => if c = true then Q true H1 else tc σ H1 Q) : tOr tt tc σ H Q := h
theorem r_not {Q : Bool → Hp → Prop} (h : tt σ H fun c H1 => Q (!c) H1) : tNot tt σ H Q := h
theorem r_andV (h : ta σ H fun x H1 => ∃ c, x = .bl c ∧ if c = true then tb σ H1 Q else Q (.bl false) H1) : tAndV ta tb σ H Q := h
theorem r_orV (h : ta σ H fun x H1 => ∃ c, x = .bl c ∧ if c = true then Q (.bl true) H1 else tb σ H1 Q) : tOrV ta tb σ H Q := h
theorem r_notV (h : ta σ H fun x H1 => ∃ c, x = .bl c ∧ Q (.bl (!c)) H1) : tNotV ta σ H Q := h
theorem r_ifE (h : tt σ H fun c H1 => if c = true then ta σ H1 Q else tb σ H1 Q) : tIf tt ta tb σ H Q := h
theorem r_cb {r : List V → Hp → VK → Prop} (h : tl σ H fun vs H1 => r vs H1 Q) : tCB r tl σ H Q := h
theorem r_cal {sp : Sp} {E : XK} (h : tl σ H fun vs H1 => sp vs H1 Q E) : tCal sp E tl σ H Q := h
theorem r_nil {Q : List V → Hp → Prop} (h : Q [] H) : tNil σ H Q := h
theorem r_cons {Q : List V → Hp → Prop} (h : te σ H fun x H1 => tl σ H1 fun xs H2 => Q (x :: xs) H2) : tCons te tl σ H Q := h
theorem r_tup (h : tl σ H fun xs H1 => xs.length ≤ sizeLine ∧ ∀ p, H1 p = none → Q (.ref p) (upd H1 p (.tup xs))) : tTup tl σ H Q := h
theorem r_lst (h : tl σ H fun xs H1 => xs.length ≤ sizeLine ∧ ∀ p, H1 p = none → Q (.ref p) (upd H1 p (.lst xs))) : tLst tl σ H Q := h
theorem r_ixL {p : Addr} {xs : List V} {i : Int} (hs : SqL K H p xs) (e : atI xs i = some v) (h : Q v H) : rIxL K (.ref p) (.int i) H Q := ⟨p, xs, i, v, rfl, rfl, hs, e, h⟩
theorem r_ixT {p : Addr} {xs : List V} {i : Int} (hs : SqT K H p xs) (e : atI xs i = some v) (h : Q v H) : rIxT K (.ref p) (.int i) H Q := ⟨p, xs, i, v, rfl, rfl, hs, e, h⟩
theorem r_ixl {p : Addr} {xs : List V} {i : Int} (hs : H p = some (.lst xs)) (e : atI xs i = some v) (h : Q v H) : rIxL K (.ref p) (.int i) H Q := ⟨p, xs, i, v, rfl, rfl, .inl (.inl hs), e, h⟩
theorem r_ixt {p : Addr} {xs : List V} {i : Int} (hs : H p = some (.tup xs)) (e : atI xs i = some v) (h : Q v H) : rIxT K (.ref p) (.int i) H Q := ⟨p, xs, i, v, rfl, rfl, .inl (.inl hs), e, h⟩
theorem r_ixS {z : Str} {i : Int} {c : Nat} (hz : z.length ≤ sizeLine) (e : atI z.cps.toList i = some c) (h : Q (.str ⟨#[c]⟩) H) : rIxS (.str z) (.int i) H Q := ⟨z, i, c, rfl, rfl, hz, e, h⟩
theorem r_ix {r : V → V → Hp → VK → Prop} (h : r x y H Q) : (fun x y H Q => r x y H Q) x y H Q := h
theorem r_sub {o j : TE} {ts : TSet} {Q : L2.St → Hp → Prop} (h : o σ H fun a H1 => j σ H1 fun b H2 => ts a b v H2 fun H3 => Q σ H3) : gSub o j ts v σ H Q := h
theorem r_setL {p : Addr} {xs ys : List V} {k : Int} {j : Nat} {Q : Hp → Prop} (hs : H p = some (.lst xs)) (e : ixN xs.length k = some j) (e2 : xs.set j v = ys) (h : Q (upd H p (.lst ys))) : rSetL (.ref p) (.int k) v H Q := by
  subst e2
  exact ⟨p, xs, k, j, rfl, rfl, hs, e, h⟩
theorem r_gtup {p : Addr} {xs : List V} {n : Nat} {ts : TGs} {Q : L2.St → Hp → Prop} (hs : H p = some (.tup xs)) (hn : xs.length = n) (h : ts xs σ H Q) : gTup K n ts (.ref p) σ H Q := ⟨p, xs, rfl, .inl (.inl hs), hn, h⟩
theorem r_gcons {ts : TGs} {vs : List V} {Q : L2.St → Hp → Prop} (h : g v σ H fun σ' H' => ts vs σ' H' Q) : gCons g ts (v :: vs) σ H Q := ⟨v, vs, rfl, h⟩
theorem r_gnil {Q : L2.St → Hp → Prop} (h : Q σ H) : gNil [] σ H Q := ⟨rfl, h⟩
theorem r_bm {T : String} {r : V → List V → Hp → VK → Prop} (h : ta σ H fun x H1 => tyV K T x H1 ∧ tl σ H1 fun xs H2 => r x xs H2 Q) : tBM K T r ta tl σ H Q := h
theorem r_bm0 {T : String} {r : V → List V → Hp → VK → Prop} (h : ta σ H fun x H1 => tyV K T x H1 ∧ r x [] H1 Q) : tBM0 K T r ta σ H Q := h
theorem r_tyL {p : Addr} {xs : List V} {R : Prop} (hs : H p = some (.lst xs)) (h : R) : tyV K "list" (.ref p) H ∧ R := ⟨.inl ⟨rfl, _, .inl (.inl hs)⟩, h⟩
theorem r_app {p : Addr} {xs : List V} (hs : H p = some (.lst xs)) (hz : xs.length < sizeLine) (h : Q .non (upd H p (.lst (xs ++ [v])))) : rAppend (.ref p) [v] H Q := ⟨p, xs, v, rfl, rfl, hs, hz, h⟩
theorem r_slc {r : V → Option Int → Option Int → Hp → VK → Prop} {to th : TO} (h : te σ H fun x H1 => to σ H1 fun l H2 => th σ H2 fun u H3 => r x l u H3 Q) : tSl r te to th σ H Q := h
theorem r_nop {Q : Option Int → Hp → Prop} (h : Q none H) : tNoPart σ H Q := h
theorem r_part {Q : Option Int → Hp → Prop} (h : te σ H fun x H1 => ∃ i, x = .int i ∧ Q (some i) H1) : tPart te σ H Q := h
theorem r_int {Q : Int → Prop} {a : Int} (h : Q a) : ∃ k, V.int a = .int k ∧ Q k := ⟨a, rfl, h⟩
theorem r_isi {T C : String} {b : Bool} (h : TyX K H x (.type T)) (e : kitB T C = some b) (q : Q (.bl b) H) : rIsi K [x, .ty C] H Q := ⟨x, .ty C, _, _, b, rfl, .ty C, h, kit_ty e, q⟩
theorem r_disp {trs : List (TE × TE)} (h : ∀ p, H p = none → tPairs trs σ (upd H p (.dK [])) fun ps H2 => H2 p = some (.dK []) ∧ ∃ kvs : List (Key × V), ps = kvs.map (fun kv => (kV kv.1, kv.2)) ∧ kvs.length ≤ 15 ∧ Q (.ref p) (upd H2 p (.dK (mergeK [] kvs)))) : tDisp trs σ H Q := h
theorem r_pcons {r : List (TE × TE)} {Q : List (V × V) → Hp → Prop} (h : ta σ H fun x H1 => tb σ H1 fun y H2 => tPairs r σ H2 fun ps H3 => Q ((x, y) :: ps) H3) : tPairs ((ta, tb) :: r) σ H Q := h
theorem r_pnil {Q : List (V × V) → Hp → Prop} (h : Q [] H) : tPairs [] σ H Q := h
theorem r_slS {z : Str} {lo hi : Option Int} (hz : z.length ≤ sizeLine) (q : Q (.str (cutS z lo hi)) H) : rSlS (.str z) lo hi H Q := ⟨z, rfl, hz, q⟩
theorem r_yes {Q : Bool → Hp → Prop} (h : Q true H) : tYes σ H Q := h
theorem r_ite {b : Bool} {A B : Prop} (h1 : b = true → A) (h2 : b = false → B) : if b = true then A else B := by
  cases b with
  | true => exact (if_pos rfl).mpr (h1 rfl)
  | false => exact (if_neg Bool.false_ne_true).mpr (h2 rfl)
theorem r_itT {b : Bool} {A B : Prop} (e : b = true) (h : A) : if b = true then A else B := by rw [if_pos e]; exact h
theorem r_itF {b : Bool} {A B : Prop} (e : b = false) (h : B) : if b = true then A else B := by rw [e]; exact (if_neg Bool.false_ne_true).mpr h
/-! loops -/
def ForL (J : It) (g : TG) (tb : TS) (nx : L2.St → Hp → Prop) (rt : VK) (σ : L2.St) (H : Hp) : Prop := ∃ W : Nat → Nat → L2.St → Hp → Prop, (∃ m, W 0 m σ H) ∧ ∀ i m σ H, W i m σ H →
  (J.stop i H ∧ nx σ H) ∨ (J.go i H ∧ ∃ N : L2.St → Hp → Prop, (∀ σ' H', N σ' H' → ∃ m', m' < m ∧ W (i + 1) m' σ' H') ∧ ∀ x H', J.yld i H x H' → g x σ H' fun σ2 H2 => tb ⟨N, rt, nx, N⟩ σ2 H2)
theorem r_for {wi : TI} {tb : TS} (h : wi σ H fun J H1 => ForL J g tb nx rt σ H1) : tFor wi g tb ⟨nx, rt, bk, ct⟩ σ H := h
theorem r_rng1 {R : It → Hp → Prop} (h : tl σ H fun vs H1 => ∃ j : Int, vs = [.int j] ∧ -(2 ^ 62) ≤ j ∧ j < 2 ^ 62 ∧ R (Itr 0 j.toNat) H1) : iRng1 tl σ H R := h
theorem r_rngv {R : Int → Prop} {n : Int} (h0 : -1000000 ≤ n) (h1 : n ≤ 1000000) (h : R n) : ∃ j : Int, [V.int n] = [.int j] ∧ -(2 ^ 62) ≤ j ∧ j < 2 ^ 62 ∧ R j := ⟨n, rfl, by omega, by omega, h⟩
theorem r_rng2 {R : It → Hp → Prop} (h : tl σ H fun vs H1 => ∃ i j : Int, vs = [.int i, .int j] ∧ (-(2 ^ 62) ≤ i ∧ i < 2 ^ 62 ∧ -(2 ^ 62) ≤ j ∧ j < 2 ^ 62) ∧ R (Itr i (j - i).toNat) H1) : iRng2 tl σ H R := h
theorem r_rngw {R : Int → Int → Prop} {n m : Int} (h0 : -1000000 ≤ n) (h1 : n ≤ 1000000) (h2 : -1000000 ≤ m) (h3 : m ≤ 1000000) (h : R n m) : ∃ i j : Int, [V.int n, V.int m] = [.int i, .int j] ∧ (-(2 ^ 62) ≤ i ∧ i < 2 ^ 62 ∧ -(2 ^ 62) ≤ j ∧ j < 2 ^ 62) ∧ R i j := ⟨n, m, rfl, by omega, h⟩
theorem L_range {lo : Int} {n : Nat} {tb : TS} (Pv : Nat → L2.St → Hp → Prop) (h0 : Pv 0 σ H)
    (hs : ∀ i σ H, i < n → Pv i σ H → g (.int (lo + i)) σ H fun σ2 H2 => tb ⟨Pv (i + 1), rt, nx, Pv (i + 1)⟩ σ2 H2) (hd : ∀ σ H, Pv n σ H → nx σ H) : ForL (Itr lo n) g tb nx rt σ H :=
  for_range (D := ⟨nx, rt, nx, nx⟩) Pv h0 hs hd
theorem L_list {a : Addr} {xs : List V} {tb : TS} (Pv : Nat → L2.St → Hp → Prop) (h0 : Pv 0 σ H) (hl : ∀ i σ H, i ≤ xs.length → Pv i σ H → SqL K H a xs)
    (hs : ∀ i x σ H, xs[i]? = some x → Pv i σ H → g x σ H fun σ2 H2 => tb ⟨Pv (i + 1), rt, nx, Pv (i + 1)⟩ σ2 H2) (hd : ∀ σ H, Pv xs.length σ H → nx σ H) : ForL (Itl K a) g tb nx rt σ H :=
  for_list (D := ⟨nx, rt, nx, nx⟩) Pv h0 hl hs hd
theorem r_ilst {R : It → Hp → Prop} (h : te σ H fun x H1 => ∃ a, x = .ref a ∧ (∃ xs, SqL K H1 a xs) ∧ R (Itl K a) H1) : iList K te σ H R := h
theorem r_ilv {R : Addr → Prop} {a : Addr} {xs : List V} (hs : SqL K H a xs) (h : R a) : ∃ b, V.ref a = .ref b ∧ (∃ xs, SqL K H b xs) ∧ R b := ⟨a, rfl, ⟨xs, hs⟩, h⟩
theorem r_ilw {R : Addr → Prop} {a : Addr} {xs : List V} (hs : H a = some (.lst xs)) (h : R a) : ∃ b, V.ref a = .ref b ∧ (∃ xs, SqL K H b xs) ∧ R b := ⟨a, rfl, ⟨xs, .inl (.inl hs)⟩, h⟩
/-! while -/
def Wh (W : Nat → L2.St → Hp → Prop) (m : Nat) (tb : TS) (nx : L2.St → Hp → Prop) (rt : VK) (σ : L2.St) (H : Hp) : Prop :=
  ∃ N : L2.St → Hp → Prop, (∀ σ' H', N σ' H' → ∃ m', m' < m ∧ W m' σ' H') ∧ tb ⟨N, rt, nx, N⟩ σ H
theorem r_while {tb : TS} (W : Nat → L2.St → Hp → Prop) (m0 : Nat) (h0 : W m0 σ H) (hs : ∀ m σ H, W m σ H → tc σ H fun b H1 => if b = true then Wh W m tb nx rt σ H1 else nx σ H1) : tWhile tc tb ⟨nx, rt, bk, ct⟩ σ H :=
  ⟨W, ⟨m0, h0⟩, hs⟩
theorem r_wh {tb : TS} {W : Nat → L2.St → Hp → Prop} {m : Nat} (h : tb ⟨fun σ' H' => ∃ m', m' < m ∧ W m' σ' H', rt, nx, fun σ' H' => ∃ m', m' < m ∧ W m' σ' H'⟩ σ H) : Wh W m tb nx rt σ H := ⟨_, fun _ _ h => h, h⟩
/-! comprehensions -/
def LcL (J : It) (g : TG) (tt : TT) (te : TE) (vs : List Nat) (σ : L2.St) (H1 : Hp) (Q : VK) : Prop := ∀ D, H1 D = none → ∃ W : Nat → Nat → Hp → Prop, (∃ m, W 0 m (upd H1 D (.lst []))) ∧ ∀ i m H, W i m H →
  (J.stop i H ∧ Q (.ref D) H) ∨ (J.go i H ∧ ∃ Nx : Hp → Prop, (∀ H', Nx H' → ∃ m', m' < m ∧ W (i + 1) m' H') ∧ ∀ x H', J.yld i H x H' → g x (wipe σ vs) H' fun σ2 H2 => wipe σ2 vs = wipe σ vs ∧ tt σ2 H2 fun b H3 =>
    if b = true then te σ2 H3 fun y H4 => ∃ acc, H4 D = some (.lst acc) ∧ acc.length < sizeLine ∧ Nx (upd H4 D (.lst (acc ++ [y]))) else Nx H3)
theorem r_lc {wi : TI} {vs : List Nat} (h : wi σ H fun J H1 => LcL J g tt te vs σ H1 Q) : tLc wi g tt te vs σ H Q := h
theorem C_range {lo : Int} {n : Nat} {vs : List Nat} (Pv : Addr → Nat → Hp → Prop) (h0 : ∀ D, H D = none → Pv D 0 (upd H D (.lst [])))
    (hs : ∀ D i H', i < n → Pv D i H' → g (.int (lo + i)) (wipe σ vs) H' fun σ2 H2 => wipe σ2 vs = wipe σ vs ∧ tt σ2 H2 fun b H3 =>
      if b = true then te σ2 H3 fun y H4 => ∃ acc, H4 D = some (.lst acc) ∧ acc.length < sizeLine ∧ Pv D (i + 1) (upd H4 D (.lst (acc ++ [y]))) else Pv D (i + 1) H3) (hd : ∀ D H', H D = none → Pv D n H' → Q (.ref D) H') : LcL (Itr lo n) g tt te vs σ H Q :=
  fun D hD => lc_range (Pv D) (h0 D hD) (hs D) (fun H' => hd D H' hD)
theorem C_list {a : Addr} {xs : List V} {vs : List Nat} (Pv : Addr → Nat → Hp → Prop) (h0 : ∀ D, H D = none → Pv D 0 (upd H D (.lst []))) (hl : ∀ D i H, i ≤ xs.length → Pv D i H → SqL K H a xs)
    (hs : ∀ D i x H', xs[i]? = some x → Pv D i H' → g x (wipe σ vs) H' fun σ2 H2 => wipe σ2 vs = wipe σ vs ∧ tt σ2 H2 fun b H3 =>
      if b = true then te σ2 H3 fun y H4 => ∃ acc, H4 D = some (.lst acc) ∧ acc.length < sizeLine ∧ Pv D (i + 1) (upd H4 D (.lst (acc ++ [y]))) else Pv D (i + 1) H3) (hd : ∀ D H', H D = none → Pv D xs.length H' → Q (.ref D) H') : LcL (Itl K a) g tt te vs σ H Q :=
  fun D hD => lc_list (K := K) (a := a) (xs := xs) (Pv D) (h0 D hD) (hl D) (hs D) (fun H' => hd D H' hD)
theorem r_wip {vs : List Nat} {σ2 : L2.St} {B : Prop} (e : wipe σ2 vs = wipe σ vs) (h : B) : wipe σ2 vs = wipe σ vs ∧ B := ⟨e, h⟩
theorem r_d {c A B : Prop} [Decidable c] (h1 : c → A) (h2 : ¬ c → B) : if decide c = true then A else B := r_ite (fun h => h1 (of_decide_eq_true h)) (fun h => h2 (of_decide_eq_false h))
theorem r_nd {c A B : Prop} [Decidable c] (h1 : ¬ c → A) (h2 : c → B) : if (!decide c) = true then A else B := r_ite (fun h => h1 (of_decide_eq_false (by simpa using h))) (fun h => h2 (of_decide_eq_true (by simpa using h)))
theorem mulL {a b : Int} (h1 : -(2 ^ 64) < a) (h2 : a < 2 ^ 64) : CMul a b := .inl ⟨h1, h2⟩
theorem mulR {a b : Int} (h1 : -(2 ^ 64) < b) (h2 : b < 2 ^ 64) : CMul a b := .inr ⟨h1, h2⟩
theorem powS {a b : Int} (h0 : 0 ≤ b) (h1 : b ≤ 1000000) (h2 : a.natAbs < 2 ^ 64) : CPow a b := ⟨h0, h1, h2⟩
theorem divS {a b : Int} (h0 : 0 < b) (h1 : b.natAbs < 2 ^ 220) : CDivW a b := wide_div h0 h1 (by decide) (by decide)
end
theorem sz {n : Nat} (h : n ≤ 100000) : n ≤ sizeLine := Nat.le_trans h (by decide)
theorem szl {n : Nat} (h : n < 100000) : n < sizeLine := Nat.lt_of_lt_of_le h (by decide)
/-! ### heaps -/
/-- all that was tracked but at p is as it was -/
def But (p : Addr) (H H' : Hp) : Prop := ∀ b o, H b = some o → b ≠ p → H' b = some o
theorem But.refl {p : Addr} {H : Hp} : But p H H := fun _ _ h _ => h
theorem But.trans {p : Addr} {H H1 H2 : Hp} (a : But p H H1) (b : But p H1 H2) : But p H H2 := fun c o h n => b c o (a c o h n) n
theorem But.of {p : Addr} {H H' : Hp} (s : Same H H') : But p H H' := fun b o h _ => s b o h
theorem But.upd {p : Addr} {H : Hp} {o : HO} : But p H (upd H p o) := fun b u h n => by rw [upd_ne n]; exact h
theorem But.upd' {p q : Addr} {H H' : Hp} {o : HO} (h : But p H H') (n : H q = none) : But p H (L2.upd H' q o) := fun b u e k => by
  rw [upd_ne (ne_of_none e n)]
  exact h b u e k
theorem But.free {p q : Addr} {H H' : Hp} (b : But p H H') (hq : H' q = none) (hp' : H' p ≠ none) : H q = none := by
  cases e : H q with
  | none => rfl
  | some u =>
    by_cases z : q = p
    · rw [z] at hq
      exact absurd hq hp'
    · rw [b q u e z] at hq
      cases hq
theorem same_new {H : Hp} {p : Addr} {o : HO} (h : H p = none) : Same H (upd H p o) := fun b x e => by
  rw [upd_ne (ne_of_none e h)]
  exact e
theorem Same.upd' {q : Addr} {H H' : Hp} {o : HO} (h : Same H H') (n : H q = none) : Same H (L2.upd H' q o) := fun b u e => by
  rw [upd_ne (ne_of_none e n)]
  exact h b u e
theorem Same.free' {H H' : Hp} {q : Addr} (h : Same H H') (n : H' q = none) : H q = none := h.free n
theorem But.back {p : Addr} {H H1 H2 : Hp} (s : Same H H1) (n : H p = none) (b : But p H1 H2) : Same H H2 := fun c o e => b c o (s c o e) (ne_of_none e n)
/-- the bag: three whole numbers; the second one stays below 2 ^ 62, the third one counts -/
def BagAt (H : Hp) (p : Addr) (n : Nat) : Prop := ∃ a b c : Int, H p = some (.lst [.int a, .int b, .int c]) ∧ 0 ≤ b ∧ b < 4611686018427387904 ∧ 0 ≤ c ∧ c ≤ n
theorem BagAt.mono {H : Hp} {p : Addr} {n m : Nat} (h : BagAt H p n) (l : n ≤ m) : BagAt H p m := by
  obtain ⟨a, b, c, e, h1, h2, h3, h4⟩ := h
  exact ⟨a, b, c, e, h1, h2, h3, by omega⟩
theorem BagAt.there {H : Hp} {p : Addr} {n : Nat} (h : BagAt H p n) : H p ≠ none := by
  obtain ⟨a, b, c, e, _⟩ := h
  rw [e]
  simp
theorem BagAt.same {H H' : Hp} {p : Addr} {n : Nat} (h : BagAt H p n) (s : Same H H') : BagAt H' p n := by
  obtain ⟨a, b, c, e, r⟩ := h
  exact ⟨a, b, c, s _ _ e, r⟩
theorem BagAt.upd {H : Hp} {p q : Addr} {n : Nat} {o : HO} (h : BagAt H p n) (hq : H q = none) : BagAt (upd H q o) p n := h.same (same_new hq)
/-- what stood at another address is the bag no more -/
theorem BagAt.ne {H : Hp} {p q : Addr} {n : Nat} (h : BagAt H p n) {xs : List V} (e : H q = some (.tup xs)) : q ≠ p := by
  intro z
  subst z
  obtain ⟨a, b, c, e', _⟩ := h
  rw [e] at e'
  cases e'
end G
local macro_rules | `(tactic| walk_at "r1") => `(tactic| first
  | with_reducible refine G.r_seq ?_ | with_reducible refine G.r_asg ?_ | ((with_reducible refine' G.r_name ?r_h ?_); (case r_h => (simp only [L2.wipe, List.set_cons_zero, List.set_cons_succ]; exact rfl))) | with_reducible refine G.r_ret ?_ | with_reducible refine G.r_if ?_
  | ((with_reducible refine' G.r_var ?r_h ?_); (case r_h => rfl)) | with_reducible refine G.r_c ?_ | with_reducible refine G.r_op ?_ | with_reducible refine G.r_i0 ?_
  | with_reducible refine G.r_cons ?_ | with_reducible refine G.r_nil ?_ | with_reducible refine G.r_cal ?_ | with_reducible refine G.r_cb ?_ | with_reducible refine G.r_test ?_ | with_reducible refine G.r_tB ?_
  | with_reducible refine G.r_bl ?_ | with_reducible refine G.r_next ?_ | ((with_reducible refine' G.r_eq ?r_h ?_); (case r_h => rfl)) | ((with_reducible refine' G.r_ne ?r_h ?_); (case r_h => rfl))
  | with_reducible refine G.r_u ?_ | with_reducible refine G.r_un ?_ | with_reducible refine G.r_and ?_ | with_reducible refine G.r_or ?_ | with_reducible refine G.r_not ?_ | with_reducible refine G.r_andV ?_ | with_reducible refine G.r_orV ?_
  | with_reducible refine G.r_notV ?_ | with_reducible refine G.r_ifE ?_ | with_reducible refine G.r_tup ?_ | with_reducible refine G.r_lst ?_ | with_reducible refine G.r_drop ?_ | with_reducible refine G.r_retN ?_
  | with_reducible refine G.r_brk ?_ | with_reducible refine G.r_cont ?_ | with_reducible refine G.r_sub ?_ | with_reducible refine G.r_gcons ?_ | with_reducible refine G.r_gnil ?_ | with_reducible refine G.r_bm ?_ | with_reducible refine G.r_bm0 ?_
  | with_reducible refine G.r_slc ?_ | with_reducible refine G.r_nop ?_ | with_reducible refine G.r_part ?_ | with_reducible refine G.r_int ?_ | with_reducible refine G.r_yes ?_
  | with_reducible refine G.r_for ?_ | with_reducible refine G.r_rng1 ?_ | with_reducible refine G.r_rng2 ?_ | with_reducible refine G.r_ilst ?_ | with_reducible refine G.r_lc ?_ | with_reducible refine G.r_wh ?_ | with_reducible refine G.r_pcons ?_ | with_reducible refine G.r_pnil ?_
  | ((with_reducible refine' G.r_rngv ?r_h ?r_e ?_); (case r_h => omega); (case r_e => omega))
  | ((with_reducible refine' G.r_wip ?r_h ?_); (case r_h => rfl))
  | ((with_reducible refine' G.r_ixl ?r_h ?r_e ?_); (case r_h => assumption); (case r_e => rfl))
  | ((with_reducible refine' G.r_ixt ?r_h ?r_e ?_); (case r_h => assumption); (case r_e => rfl))
  | ((with_reducible refine' G.r_gtup ?r_h ?r_e ?_); (case r_h => assumption); (case r_e => rfl))
  | ((with_reducible refine' G.r_i ?r_h ?_); (case r_h => first
      | (with_reducible exact G.mulL (by omega) (by omega)) | (with_reducible exact G.mulR (by omega) (by omega)) | (with_reducible exact G.mulR (by decide) (by decide)) | (with_reducible exact G.mulL (by decide) (by decide)) | (with_reducible exact G.powS (by omega) (by omega) (by omega)) | (with_reducible exact G.divS (by omega) (by omega)) | (with_reducible exact G.divS (by assumption) (by assumption)) | (with_reducible assumption) | (show (0 : Int) < _; omega))))
local macro_rules | `(tactic| walk_at "rr") => `(tactic| repeat (walk_at "r1"))

namespace G
open PySem L2
/-! ### what kind of thing a value is -/
def kinds7 : List String := ["NoneType", "bool", "int", "str", "list", "tuple", "dict"]
theorem kit_tuple : ∀ T ∈ kinds7, kitB T "tuple" = some (T == "tuple") := by decide +kernel
theorem kit_list : ∀ T ∈ kinds7, kitB T "list" = some (T == "list") := by decide +kernel
theorem kit_str : ∀ T ∈ kinds7, kitB T "str" = some (T == "str") := by decide +kernel
theorem kit_bool : ∀ T ∈ kinds7, kitB T "bool" = some (T == "bool") := by decide +kernel
theorem kit_int : ∀ T ∈ kinds7, kitB T "int" = some (T == "int" || T == "bool") := by decide +kernel
theorem whole_of : ∀ T ∈ kinds7, ((T == "int" || T == "bool") && !(T == "bool")) = (T == "int") := by decide +kernel
section
variable {K : PySem.W.Frag} {H H' : Hp} {v : V} {t : Value}
theorem ty_tup {a : Addr} {xs : List V} (h : H a = some (.tup xs)) : TyX K H (.ref a) (.type "tuple") := .base (.tup h)
theorem ty_lst {a : Addr} {xs : List V} (h : H a = some (.lst xs)) : TyX K H (.ref a) (.type "list") := .base (.lst h)
theorem ty_dK {a : Addr} {xs : List (Key × V)} (h : H a = some (.dK xs)) : TyX K H (.ref a) (.type "dict") := .base (.dK h)
theorem ty_int {i : Int} : TyX K H (.int i) (.type "int") := .base (.int i)
theorem ty_str {i : Str} : TyX K H (.str i) (.type "str") := .base (.str i)
theorem ty_bl {i : Bool} : TyX K H (.bl i) (.type "bool") := .base (.bl i)
theorem ty_non : TyX K H .non (.type "NoneType") := .base .non
theorem TyOf.same (s : Same H H') (h : TyOf K H v t) : TyOf K H' v t := by
  cases h with
  | non => exact .non
  | bl x => exact .bl x
  | int x => exact .int x
  | str x => exact .str x
  | flt x => exact .flt x
  | lst e => exact .lst (s _ _ e)
  | frz e => exact .frz (s _ _ e)
  | tup e => exact .tup (s _ _ e)
  | dK e => exact .dK (s _ _ e)
  | dT e => exact .dT (s _ _ e)
  | ins e a b c d f => exact .ins (s _ _ e) a b c d f
theorem TyX.same (s : Same H H') (h : TyX K H v t) : TyX K H' v t := by
  cases h with
  | base h => exact .base (TyOf.same s h)
  | byt b => exact .byt b
  | set e => exact .set (s _ _ e)
  | kList e c => exact .kList e c
  | kTuple e c => exact .kTuple e c
  | kDict e c => exact .kDict e c
  | fTuple e => exact .fTuple (s _ _ e)
  | fDict e => exact .fDict (s _ _ e)
end
/-- v is something of one of the seven kinds -/
def Some7 (K : PySem.W.Frag) (H : Hp) (v : V) : Prop := ∃ T, TyX K H v (.type T) ∧ T ∈ kinds7
theorem Some7.same {K : PySem.W.Frag} {H H' : Hp} {v : V} (s : Same H H') (h : Some7 K H v) : Some7 K H' v := by
  obtain ⟨T, a, b⟩ := h
  exact ⟨T, TyX.same s a, b⟩
theorem any_non {K : PySem.W.Frag} {H : Hp} : Some7 K H .non := ⟨_, ty_non, by decide⟩
theorem any_bl {K : PySem.W.Frag} {H : Hp} {b : Bool} : Some7 K H (.bl b) := ⟨_, ty_bl, by decide⟩
theorem any_int {K : PySem.W.Frag} {H : Hp} {b : Int} : Some7 K H (.int b) := ⟨_, ty_int, by decide⟩
theorem any_str {K : PySem.W.Frag} {H : Hp} {b : Str} : Some7 K H (.str b) := ⟨_, ty_str, by decide⟩
theorem any_tup {K : PySem.W.Frag} {H : Hp} {a : Addr} {xs : List V} (h : H a = some (.tup xs)) : Some7 K H (.ref a) := ⟨_, ty_tup h, by decide⟩
theorem any_lst {K : PySem.W.Frag} {H : Hp} {a : Addr} {xs : List V} (h : H a = some (.lst xs)) : Some7 K H (.ref a) := ⟨_, ty_lst h, by decide⟩
theorem any_dK {K : PySem.W.Frag} {H : Hp} {a : Addr} {xs : List (Key × V)} (h : H a = some (.dK xs)) : Some7 K H (.ref a) := ⟨_, ty_dK h, by decide⟩
/-- a worth by its word and number -/
def isW (s : Str) (n : Int) : Bool := s == "num" || ((s == "at" || s == "box" || s == "go") && decide (0 ≤ n))
/-- v is a thing, and b says whether it is a worth -/
inductive Th (K : PySem.W.Frag) (H : Hp) : V → Bool → Prop
  | other {v : V} {T : String} (h : TyX K H v (.type T)) (m : T ∈ kinds7) (n : (T == "tuple") = false) : Th K H v false
  | tupN {a : Addr} {xs : List V} (h : H a = some (.tup xs)) (n : xs.length ≠ 2) : Th K H (.ref a) false
  | tupX {a : Addr} {x y : V} {T : String} (h : H a = some (.tup [x, y])) (hx : TyX K H x (.type T)) (m : T ∈ kinds7) (n : (T == "str") = false) : Th K H (.ref a) false
  | tupY {a : Addr} {s : Str} {y : V} {T : String} (h : H a = some (.tup [.str s, y])) (hy : TyX K H y (.type T)) (m : T ∈ kinds7) (n : (T == "int") = false) : Th K H (.ref a) false
  | tupW {a : Addr} {s : Str} {n : Int} (h : H a = some (.tup [.str s, .int n])) : Th K H (.ref a) (isW s n)
/-- only a whole number is of the kind int -/
theorem ty_is_int' {K : PySem.W.Frag} {H : Hp} {v : V} {t : Value} (h : TyX K H v t) (e : t = .type "int") : ∃ n, v = .int n := by
  cases h with
  | base h =>
    cases h with
    | int i => exact ⟨i, rfl⟩
    | _ => first | (cases e; done) | (injection e with e; exact absurd e (by decide))
  | _ => first | (cases e; done) | (injection e with e; exact absurd e (by decide))
theorem ty_is_str' {K : PySem.W.Frag} {H : Hp} {v : V} {t : Value} (h : TyX K H v t) (e : t = .type "str") : ∃ n, v = .str n := by
  cases h with
  | base h =>
    cases h with
    | str i => exact ⟨i, rfl⟩
    | _ => first | (cases e; done) | (injection e with e; exact absurd e (by decide))
  | _ => first | (cases e; done) | (injection e with e; exact absurd e (by decide))
theorem ty_is_int {K : PySem.W.Frag} {H : Hp} {v : V} (h : TyX K H v (.type "int")) : ∃ n, v = .int n := ty_is_int' h rfl
theorem ty_is_str {K : PySem.W.Frag} {H : Hp} {v : V} (h : TyX K H v (.type "str")) : ∃ n, v = .str n := ty_is_str' h rfl
/-- any tuple of two, of any kinds, is a thing -/
theorem Th.pair {K : PySem.W.Frag} {H : Hp} {a : Addr} {x y : V} (h : H a = some (.tup [x, y])) (hx : Some7 K H x) (hy : Some7 K H y) : ∃ b, Th K H (.ref a) b := by
  obtain ⟨T, tx, mx⟩ := hx
  obtain ⟨U, tu, mu⟩ := hy
  cases e : T == "str" with
  | false => exact ⟨_, .tupX h tx mx e⟩
  | true =>
    have e' := eq_of_beq e
    subst e'
    obtain ⟨s, rfl⟩ := ty_is_str tx
    cases e2 : U == "int" with
    | false => exact ⟨_, .tupY h tu mu e2⟩
    | true =>
      have e' := eq_of_beq e2
      subst e'
      obtain ⟨n, rfl⟩ := ty_is_int tu
      exact ⟨_, .tupW h⟩
theorem atI_there {α : Type} {xs : List α} {i : Int} (h0 : 0 ≤ i) (h1 : i < xs.length) : ∃ c, atI xs i = some c := by
  obtain ⟨j, rfl⟩ : ∃ j : Nat, i = (j : Int) := ⟨i.toNat, by omega⟩
  have hj : j < xs.length := by omega
  exact ⟨xs[j], atI_nat (List.getElem?_eq_getElem hj)⟩
theorem r_ixS' {H : Hp} {Q : VK} {z : Str} {i : Int} (hz : z.length ≤ sizeLine) (h0 : 0 ≤ i) (h1 : i < z.length) (h : ∀ c, Q (.str ⟨#[c]⟩) H) : rIxS (.str z) (.int i) H Q := by
  obtain ⟨c, e⟩ : ∃ c, atI z.cps.toList i = some c := atI_there h0 (by rw [Array.length_toList]; exact h1)
  exact ⟨z, i, c, rfl, rfl, hz, e, h c⟩
theorem Th.same {K : PySem.W.Frag} {H H' : Hp} {v : V} {b : Bool} (s : Same H H') (h : Th K H v b) : Th K H' v b := by
  cases h with
  | other h m n => exact .other (TyX.same s h) m n
  | tupN h n => exact .tupN (s _ _ h) n
  | tupX h hx m n => exact .tupX (s _ _ h) (TyX.same s hx) m n
  | tupY h hy m n => exact .tupY (s _ _ h) (TyX.same s hy) m n
  | tupW h => exact .tupW (s _ _ h)
/-- one of the odd things: no tuple, or one of none or two -/
inductive Odd (K : PySem.W.Frag) (H : Hp) : V → Prop
  | other {v : V} {T : String} (h : TyX K H v (.type T)) (m : T ∈ kinds7) (n : (T == "tuple") = false) : Odd K H v
  | tup0 {a : Addr} (h : H a = some (.tup [])) : Odd K H (.ref a)
  | tup2 {a : Addr} {s : Str} {n : Int} (h : H a = some (.tup [.str s, .int n])) : Odd K H (.ref a)
theorem Odd.some7 {K : PySem.W.Frag} {H : Hp} {v : V} (h : Odd K H v) : Some7 K H v := by
  cases h with
  | other h m n => exact ⟨_, h, m⟩
  | tup0 h => exact any_tup h
  | tup2 h => exact any_tup h
theorem Odd.thing {K : PySem.W.Frag} {H : Hp} {v : V} (h : Odd K H v) : ∃ b, Th K H v b := by
  cases h with
  | other h m n => exact ⟨_, .other h m n⟩
  | tup0 h => exact ⟨_, .tupN h (by decide)⟩
  | tup2 h => exact ⟨_, .tupW h⟩
end G

namespace G
open PySem L2
/-! ### a dict of the module's top: texts to texts -/
def keyS : Value → Option Str
  | .str x _ => some x
  | _ => none
theorem keyS_of {v : Value} {x : Str} (h : keyS v = some x) : ∃ t, v = .str x t := by
  cases v with
  | str y t =>
    have e : y = x := Option.some.inj h
    exact ⟨t, by rw [e]⟩
  | _ => cases h
def pairsS (l : List DictEntry) : List (Option Str × Option Str) := l.map fun e => (keyS e.key, keyS e.val)
theorem find_pairs (z : Str) : ∀ {l : List DictEntry} {ks : List (Str × Str)}, pairsS l = ks.map (fun p => (some p.1, some p.2)) →
    (∃ r, (match l.find? (·.key.isStr z) with | some e => some (some e.val) | none => if l.any (·.refKey) then none else some none) = some r ∧ match ks.find? (fun p => decide (p.1 = z)) with | some p => ∃ t, r = some (.str p.2 t) | none => r = none) ∧ l.any (·.refKey) = false
  | [], [], _ => ⟨⟨none, rfl, rfl⟩, rfl⟩
  | [], _ :: _, h => by cases h
  | _ :: _, [], h => by cases h
  | e :: r, k :: ks, h => by
    have h1 : (keyS e.key, keyS e.val) :: pairsS r = (some k.1, some k.2) :: ks.map (fun p => (some p.1, some p.2)) := h
    injection h1 with h2 h3
    obtain ⟨h4, h5⟩ := Prod.mk.inj h2
    obtain ⟨t, h6⟩ := keyS_of h4
    obtain ⟨u, h7⟩ := keyS_of h5
    obtain ⟨⟨q, e1, e2⟩, e3⟩ := find_pairs z h3
    have rk : (e.refKey : Bool) = false := by
      unfold DictEntry.refKey
      rw [h6]
    have e4 : (e :: r).any (·.refKey) = false := by
      rw [List.any_cons, rk, e3]
      rfl
    refine ⟨?_, e4⟩
    by_cases c : k.1 = z
    · have i1 : e.key.isStr z = true := by
        rw [h6, ← c]
        simp [Value.isStr]
      refine ⟨some e.val, ?_, ?_⟩
      · rw [List.find?_cons, i1]
      · rw [List.find?_cons, decide_eq_true c]
        exact ⟨u, by rw [h7]⟩
    · have i1 : e.key.isStr z = false := by
        rw [h6]
        simp [Value.isStr, c]
      refine ⟨q, ?_, ?_⟩
      · rw [List.find?_cons, i1, List.any_cons, rk]
        exact e1
      · rw [List.find?_cons, decide_eq_false c]
        exact e2
theorem nsIn_pairs {K : PySem.W.Frag} {d : Addr} {es : Array DictEntry} {n : Nat} {ks : List (Str × Str)} (l : K.lookup d = some ⟨.type "dict", none, .dict es n, #[]⟩) (h : pairsS es.toList = ks.map (fun p => (some p.1, some p.2))) (z : Str) :
    ∃ r, PySem.W.nsIn K d z = some r ∧ match ks.find? (fun p => decide (p.1 = z)) with | some p => ∃ t, r = some (.str p.2 t) | none => r = none := by
  unfold PySem.W.nsIn
  rw [l]
  exact (find_pairs z h).1
def marks : List (Str × Str) := [("num", ""), ("at", "@"), ("box", "b"), ("go", "g")]
theorem marks_some (z : Str) : (marks.find? (fun p => decide (p.1 = z))).isSome = (z == "num" || (z == "at" || z == "box" || z == "go")) := by
  unfold marks
  by_cases h1 : z = "num"
  · subst h1
    rfl
  by_cases h2 : z = "at"
  · subst h2
    decide +kernel
  by_cases h3 : z = "box"
  · subst h3
    decide +kernel
  by_cases h4 : z = "go"
  · subst h4
    decide +kernel
  · have b : ∀ y : Str, ¬ z = y → decide (y = z) = false ∧ (z == y) = false := fun y h => ⟨decide_eq_false fun e => h e.symm, beq_eq_false_iff_ne.mpr h⟩
    simp only [List.find?_cons, (b _ h1).1, (b _ h2).1, (b _ h3).1, (b _ h4).1, (b _ h1).2, (b _ h2).2, (b _ h3).2, (b _ h4).2, List.find?_nil, Option.isSome_none, Bool.or_false]
end G

namespace Q
open PySem L2 G
def top (i : Nat) : Stmt := PySem.Challenge.pw_manygoings_k01_what_is_a_worth.main.body.getD i (.Pass ⟨0, 0, 0, 0⟩)
section
variable {P : Program} {w : World} {K : PySem.W.Frag} {mg : Str → Option Value} {base : Heap}

/-! ### is_whole -/
abbrev s_is_whole : Stmt := top 2
theorem sc_is_whole : FnScope ["thing"] ["thing"] (defScope s_is_whole) := ⟨rfl, rfl, rfl, by decide +kernel, rfl, by decide +kernel, by decide +kernel⟩
def sp_is_whole (K : PySem.W.Frag) : Sp := fun vs H Q _ => ∃ (v : V) (T : String), vs = [v] ∧ TyX K H v (.type T) ∧ T ∈ kinds7 ∧ Q (.bl (T == "int")) H
theorem ok_is_whole {fa : Addr} {fd : FuncData} (F : Fun K "is_whole" "is_whole" s_is_whole fa fd) (TX : Tx mg) :
    FnOk P w K mg base CX0 1 fa fd ["thing"] (sp_is_whole K) := by
  refine F.ok sc_is_whole (fun vs H Q E h => ?_) (fun cdv A outer s H vs Q E hr h => ?_)
  · obtain ⟨v, T, rfl, hT, hm, q⟩ := h
    rfl
  · obtain ⟨v, T, rfl, hT, hm, q⟩ := h
    have hu := hu_of hr
    have hu64 := hr.units
    rw [← whole_of T hm] at q
    refine ⟨_, (pss_one (ps_ret (pe_and (pe_callB call_isi (by rfl) TX.n_isinstance (by decide +kernel) (pa_cons (pv 0) (pa_cons (pe_bltn (v := .ty "int") (by rfl) TX.n_int (by decide +kernel) rfl) pa_nil))) (pe_one (pe_not (pe_callB call_isi (by rfl) TX.n_isinstance (by decide +kernel) (pa_cons (pv 0) (pa_cons (pe_bltn (v := .ty "bool") (by rfl) TX.n_bool (by decide +kernel) rfl) pa_nil)))))))), ?_⟩
    refine r_begin (show L2.start _ _ = [some _] from rfl) ?_
    try dsimp only [cxOf]
    walk_at "rr"
    refine r_isi hT (kit_int T hm) ?_
    walk_at "rr"
    refine r_ite (fun hc => ?_) (fun hc => ?_)
    · walk_at "rr"
      refine r_isi hT (kit_bool T hm) ?_
      walk_at "rr"
      rw [hc, Bool.true_and] at q
      exact q
    · rw [hc, Bool.false_and] at q
      exact q
/-! ### is_worth -/
abbrev s_is_worth : Stmt := top 3
theorem sc_is_worth : FnScope ["thing", "word", "number"] ["thing"] (defScope s_is_worth) := ⟨rfl, rfl, rfl, by decide +kernel, rfl, by decide +kernel, by decide +kernel⟩
def sp_is_worth (K : PySem.W.Frag) : Sp := fun vs H Q _ => ∃ (v : V) (b : Bool), vs = [v] ∧ Th K H v b ∧ Q (.bl b) H
theorem ok_is_worth {fa : Addr} {fd : FuncData} (F : Fun K "is_worth" "is_worth" s_is_worth fa fd) (TX : Tx mg)
    (C_is_whole : Cal P w K mg base CX0 1 "is_whole" ["thing"] (sp_is_whole K))
    {dM : Addr} {esM : Array DictEntry} {nM : Nat}
    (d_MARKS : KDict K w dM esM nM)
    (g_MARKS : mg "MARKS" = some (.ref dM))
    (m_MARKS : ∀ z : Str, ∃ r, PySem.W.nsIn K dM z = some r ∧ match marks.find? (fun p => decide (p.1 = z)) with | some p => ∃ t, r = some (.str p.2 t) | none => r = none) :
    FnOk P w K mg base CX0 2 fa fd ["thing"] (sp_is_worth K) := by
  refine F.ok sc_is_worth (fun vs H Q E h => ?_) (fun cdv A outer s H vs Q E hr h => ?_)
  · obtain ⟨v, b, rfl, hT, q⟩ := h
    rfl
  · obtain ⟨v, b, rfl, hT, q⟩ := h
    have hu := hu_of hr
    have hu64 := hr.units
    refine ⟨_, (pss_cons (ps_if (PW.pt (pw_or (pt_not (pt_val (pe_callB call_isi (by rfl) TX.n_isinstance (by decide +kernel) (pa_cons (pv 0) (pa_cons (pe_bltn (v := .ty "tuple") (by rfl) TX.n_tuple (by decide +kernel) rfl) pa_nil))))) (pw_or1 (pt_cmpR op_ne (pe_callB call_len (by rfl) TX.n_len (by decide +kernel) (pa_cons (pv 0) pa_nil)) pe_int (nomark _))))) (pss_one (ps_ret pe_bl)) pss_nil)
  (pss_cons (ps_asg (pv 0) (pg_tup rfl (pgs_cons (pg_name (i := 1) sc_is_worth.nd rfl (Or.inl rfl)) (pgs_cons (pg_name (i := 2) sc_is_worth.nd rfl (Or.inl rfl)) pgs_nil))))
  (pss_cons (ps_if (PW.pt (pw_or (pt_not (pt_val (pe_callB call_isi (by rfl) TX.n_isinstance (by decide +kernel) (pa_cons (pv 1) (pa_cons (pe_bltn (v := .ty "str") (by rfl) TX.n_str (by decide +kernel) rfl) pa_nil))))) (pw_or1 (pt_not (pt_val (pe_cal C_is_whole (hr.mono (by decide)) (by rfl) pass0 (pa_cons (pv 2) pa_nil))))))) (pss_one (ps_ret pe_bl)) pss_nil)
  (pss_one (ps_ret (pe_or (pe_cmpR op_eq (pv 1) pe_str (nomark _)) (pe_one (pe_and (pe_cmpR (op_in_kd d_MARKS) (pv 1) (pe_glob (v := .ref _) (by rfl) g_MARKS rfl) (by with_unfolding_all rfl)) (pe_one (pe_cmpR op_ge (pv 2) pe_int (nomark _))))))))))), ?_⟩
    refine r_begin (show L2.start _ _ = [some _, none, none] from rfl) ?_
    try dsimp only [cxOf]
    walk_at "rr"
    cases hT with
    | @other v T h m n =>
      refine r_isi h (kit_tuple T m) ?_
      rw [n]
      walk_at "rr"
      refine r_itT rfl ?_
      refine r_itT rfl ?_
      walk_at "rr"
      exact q
    | @tupN a xs h n =>
      refine r_isi (ty_tup h) (kit_tuple _ (by decide)) ?_
      walk_at "rr"
      refine r_itF rfl ?_
      walk_at "rr"
      refine ⟨_, _, rfl, .inr ⟨xs, .inl (.inl h), rfl⟩, ?_⟩
      walk_at "rr"
      refine r_nd (fun hc => ?_) (fun hc => ?_)
      · walk_at "rr"
        exact q
      · injection hc with hc
        omega
    | @tupX a x y T h hx m n =>
      refine r_isi (ty_tup h) (kit_tuple _ (by decide)) ?_
      walk_at "rr"
      refine r_itF rfl ?_
      walk_at "rr"
      refine ⟨_, _, rfl, .inr ⟨[x, y], .inl (.inl h), rfl⟩, ?_⟩
      walk_at "rr"
      refine r_itF rfl ?_
      walk_at "rr"
      refine r_isi hx (kit_str _ m) ?_
      rw [n]
      walk_at "rr"
      refine r_itT rfl ?_
      refine r_itT rfl ?_
      walk_at "rr"
      exact q
    | @tupY a s y T h hy m n =>
      refine r_isi (ty_tup h) (kit_tuple _ (by decide)) ?_
      walk_at "rr"
      refine r_itF rfl ?_
      walk_at "rr"
      refine ⟨_, _, rfl, .inr ⟨[.str s, y], .inl (.inl h), rfl⟩, ?_⟩
      walk_at "rr"
      refine r_itF rfl ?_
      walk_at "rr"
      refine r_isi ty_str (kit_str _ (by decide)) ?_
      walk_at "rr"
      refine r_itF rfl ?_
      walk_at "rr"
      refine ⟨y, T, rfl, hy, m, ?_⟩
      rw [n]
      walk_at "rr"
      refine r_itT rfl ?_
      walk_at "rr"
      exact q
    | @tupW a s n h =>
      refine r_isi (ty_tup h) (kit_tuple _ (by decide)) ?_
      walk_at "rr"
      refine r_itF rfl ?_
      walk_at "rr"
      refine ⟨_, _, rfl, .inr ⟨[.str s, .int n], .inl (.inl h), rfl⟩, ?_⟩
      walk_at "rr"
      refine r_itF rfl ?_
      walk_at "rr"
      refine r_isi ty_str (kit_str _ (by decide)) ?_
      walk_at "rr"
      refine r_itF rfl ?_
      walk_at "rr"
      refine ⟨.int n, "int", rfl, ty_int, by decide, ?_⟩
      walk_at "rr"
      refine r_itF rfl ?_
      walk_at "rr"
      unfold isW at q
      refine r_d (fun hc => ?_) (fun hc => ?_)
      · injection hc with hc
        subst hc
        exact q
      · have e1 : (s == "num") = false := beq_eq_false_iff_ne.mpr fun e => hc (by rw [e])
        rw [e1, Bool.false_or] at q
        walk_at "rr"
        obtain ⟨r, er, is'⟩ := m_MARKS s
        have is : r.isSome = (s == "num" || (s == "at" || s == "box" || s == "go")) := by
          rw [← marks_some]
          cases e : marks.find? (fun p => decide (p.1 = s)) with
          | none =>
            rw [e] at is'
            have : r = none := is'
            rw [this]
            rfl
          | some p =>
            rw [e] at is'
            obtain ⟨t, ht⟩ := is'
            rw [ht]
            rfl
        refine ⟨s, r, rfl, rfl, er, ?_⟩
        rw [is, e1, Bool.false_or]
        walk_at "rr"
        refine r_ite (fun hc => ?_) (fun hc => ?_)
        · rw [hc, Bool.true_and] at q
          walk_at "rr"
          exact q
        · rw [hc, Bool.false_and] at q
          exact q
/-! ### _law_cell_at -/
abbrev s__law_cell_at : Stmt := top 5
theorem sc__law_cell_at : FnScope ["script", "k"] ["script", "k"] (defScope s__law_cell_at) := ⟨rfl, rfl, rfl, by decide +kernel, rfl, by decide +kernel, by decide +kernel⟩
def sp__law_cell_at (K : PySem.W.Frag) : Sp := fun vs H Q _ => ∃ (a : Addr) (ns : List Int) (k : Int), vs = [.ref a, .int k] ∧ SqL K H a (ns.map V.int) ∧ 0 ≤ k ∧ ns.length ≤ 63 ∧ ∀ c : Int, Q (.int c) H
theorem ok__law_cell_at {fa : Addr} {fd : FuncData} (F : Fun K "_law_cell_at" "_law_cell_at" s__law_cell_at fa fd) (TX : Tx mg) :
    FnOk P w K mg base CX0 1 fa fd ["script", "k"] (sp__law_cell_at K) := by
  refine F.ok sc__law_cell_at (fun vs H Q E h => ?_) (fun cdv A outer s H vs Q E hr h => ?_)
  · obtain ⟨a, ns, k, rfl, hS, hk, hn, q⟩ := h
    rfl
  · obtain ⟨a, ns, k, rfl, hS, hk, hn, q⟩ := h
    have hu := hu_of hr
    have hu64 := hr.units
    refine ⟨_, (pss_cons (ps_if (pt_cmpR op_lt (pv 1) (pe_callB call_len (by rfl) TX.n_len (by decide +kernel) (pa_cons (pv 0) pa_nil)) (nomark _)) (pss_one (ps_ret (pe_ix ix_list (pv 0) (pv 1) (fun _ _ => rfl)))) pss_nil)
  (pss_one (ps_ret pe_int))), ?_⟩
    refine r_begin (show L2.start _ _ = [some _, some _] from rfl) ?_
    try dsimp only [cxOf]
    walk_at "rr"
    refine ⟨_, _, rfl, .inl ⟨_, hS, rfl⟩, ?_⟩
    walk_at "rr"
    refine r_d (fun hc => ?_) (fun hc => ?_)
    · walk_at "rr"
      rw [List.length_map] at hc
      obtain ⟨j, rfl⟩ : ∃ j : Nat, k = (j : Int) := ⟨k.toNat, by omega⟩
      have hj : j < ns.length := by omega
      have e : (ns.map V.int)[j]? = some (.int ns[j]) := by
        rw [List.getElem?_map, List.getElem?_eq_getElem hj]
        rfl
      refine r_ixL hS (atI_nat e) ?_
      exact q _
    · walk_at "rr"
      exact q _
/-! ### _law_bag -/
abbrev s__law_bag : Stmt := top 6
theorem sc__law_bag : FnScope ["cell", "place"] ["cell", "place"] (defScope s__law_bag) := ⟨rfl, rfl, rfl, by decide +kernel, rfl, by decide +kernel, by decide +kernel⟩
def sp__law_bag (_ : PySem.W.Frag) : Sp := fun vs H Q _ => ∃ (c k : Int), vs = [.int c, .int k] ∧ 0 ≤ k ∧ k ≤ 63 ∧ ∀ (p : Addr) (H' : Hp), H p = none → Same H H' → BagAt H' p 0 → Q (.ref p) H'
theorem ok__law_bag {fa : Addr} {fd : FuncData} (F : Fun K "_law_bag" "_law_bag" s__law_bag fa fd) (TX : Tx mg) :
    FnOk P w K mg base CX0 1 fa fd ["cell", "place"] (sp__law_bag K) := by
  refine F.ok sc__law_bag (fun vs H Q E h => ?_) (fun cdv A outer s H vs Q E hr h => ?_)
  · obtain ⟨c, k, rfl, hk, hk2, q⟩ := h
    rfl
  · obtain ⟨c, k, rfl, hk, hk2, q⟩ := h
    have hu := hu_of hr
    have hu64 := hr.units
    refine ⟨_, (pss_one (ps_ret (pe_lst (pa_cons (pe_callB (call_max2 rfl) (by rfl) TX.n_max (by decide +kernel) (pa_cons pe_int (pa_cons (pe_op op_sub (pv 0) (pe_op op_pow pe_int pe_int)) pa_nil))) (pa_cons (pe_op op_add (pe_op op_mod (pv 0) pe_int) (pe_op op_mul pe_int (pv 1))) (pa_cons pe_int pa_nil)))))), ?_⟩
    refine r_begin (show L2.start _ _ = [some _, some _] from rfl) ?_
    try dsimp only [cxOf]
    walk_at "rr"
    refine ⟨_, _, rfl, ?_⟩
    walk_at "rr"
    refine ⟨by show 3 ≤ sizeLine; decide, fun p hp => ?_⟩
    have g := Int.emod_nonneg c (show (2305843009213693951 : Int) ≠ 0 by decide)
    have g2 := Int.emod_lt_of_pos c (show (0 : Int) < 2305843009213693951 by decide)
    exact q p _ hp (same_new hp) ⟨_, _, _, upd_same, by omega, by omega, by omega, by omega⟩
/-! ### _law_draw -/
abbrev s__law_draw : Stmt := top 7
theorem sc__law_draw : FnScope ["bag", "many", "found", "mixed"] ["bag", "many"] (defScope s__law_draw) := ⟨rfl, rfl, rfl, by decide +kernel, rfl, by decide +kernel, by decide +kernel⟩
def sp__law_draw (_ : PySem.W.Frag) : Sp := fun vs H Q _ => ∃ (p : Addr) (m : Int) (n : Nat), vs = [.ref p, .int m] ∧ BagAt H p n ∧ 0 < m ∧ m.natAbs < 2 ^ 220 ∧ n < 1000000 ∧
  ∀ (i : Int) (H' : Hp), 0 ≤ i → i < m → But p H H' → BagAt H' p (n + 1) → Q (.int i) H'
theorem ok__law_draw {fa : Addr} {fd : FuncData} (F : Fun K "_law_draw" "_law_draw" s__law_draw fa fd) (TX : Tx mg) :
    FnOk P w K mg base CX0 1 fa fd ["bag", "many"] (sp__law_draw K) := by
  refine F.ok sc__law_draw (fun vs H Q E h => ?_) (fun cdv A outer s H vs Q E hr h => ?_)
  · obtain ⟨p, m, n, rfl, ⟨a, b, c, eb, h1, h2, h3, h4⟩, hm, hm2, hn, k⟩ := h
    rfl
  · obtain ⟨p, m, n, rfl, ⟨a, b, c, eb, h1, h2, h3, h4⟩, hm, hm2, hn, k⟩ := h
    have hu := hu_of hr
    have hu64 := hr.units
    refine ⟨_, (pss_cons (ps_if (pt_cmpR op_gt (pe_ix ix_list (pv 0) pe_int (fun _ _ => rfl)) pe_int (nomark _)) (pss_cons (ps_set (i := 2) sc__law_draw.nd rfl (Or.inl rfl) (pe_op op_mod (pe_ix ix_list (pv 0) pe_int (fun _ _ => rfl)) (pv 1)))
  (pss_cons (ps_asg (pe_op op_fdivW (pe_ix ix_list (pv 0) pe_int (fun _ _ => rfl)) (pv 1)) (pg_sub (pv 0) pe_int set_list))
  (pss_one (ps_ret (pv 2))))) pss_nil)
  (pss_cons (ps_asg (pe_op op_add (pe_ix ix_list (pv 0) pe_int (fun _ _ => rfl)) pe_int) (pg_sub (pv 0) pe_int set_list))
  (pss_cons (ps_set (i := 3) sc__law_draw.nd rfl (Or.inl rfl) (pe_op op_mod (pe_op op_pow (pe_op op_add (pe_ix ix_list (pv 0) pe_int (fun _ _ => rfl)) (pe_op op_mul pe_int (pe_ix ix_list (pv 0) pe_int (fun _ _ => rfl)))) pe_int) pe_int))
  (pss_cons (ps_set (i := 3) sc__law_draw.nd rfl (Or.inl rfl) (pe_op op_mod (pe_op op_pow (pe_op op_add (pv 3) (pe_op op_mul pe_int (pe_ix ix_list (pv 0) pe_int (fun _ _ => rfl)))) pe_int) pe_int))
  (pss_one (ps_ret (pe_op op_mod (pe_op op_fdivW (pv 3) pe_int) (pv 1)))))))), ?_⟩
    refine r_begin (show L2.start _ _ = [some _, some _, none, none] from rfl) ?_
    try dsimp only [cxOf]
    walk_at "rr"
    refine r_d (fun hc => ?_) (fun hc => ?_)
    · walk_at "rr"
      refine r_setL (j := 0) (ys := [.int (a / m), .int b, .int c]) eb rfl rfl ?_
      walk_at "rr"
      exact k _ _ (Int.emod_nonneg _ (by omega)) (Int.emod_lt_of_pos _ hm) But.upd ⟨_, _, _, upd_same, h1, h2, h3, by omega⟩
    · walk_at "rr"
      refine r_setL (j := 2) (ys := [.int a, .int b, .int (c + 1)]) eb rfl rfl ?_
      have e2 : (upd H p (.lst [.int a, .int b, .int (c + 1)])) p = some (.lst [.int a, .int b, .int (c + 1)]) := upd_same
      walk_at "rr"
      have g := fun x : Int => Int.emod_nonneg x (show (2305843009213693951 : Int) ≠ 0 by decide)
      have g2 := fun x : Int => Int.emod_lt_of_pos x (show (0 : Int) < 2305843009213693951 by decide)
      generalize (b + 7368787 * (c + 1)) ^ Int.toNat 3 = z
      have g3 := g z
      have g4 := g2 z
      walk_at "rr"
      exact k _ _ (Int.emod_nonneg _ (by omega)) (Int.emod_lt_of_pos _ hm) But.upd ⟨_, _, _, upd_same, h1, h2, by omega, by omega⟩
/-! ### _law_number -/
abbrev s__law_number : Stmt := top 8
theorem sc__law_number : FnScope ["bag", "way", "bound", "found", "k"] ["bag"] (defScope s__law_number) := ⟨rfl, rfl, rfl, by decide +kernel, rfl, by decide +kernel, by decide +kernel⟩
def sp__law_number (_ : PySem.W.Frag) : Sp := fun vs H Q _ => ∃ (p : Addr) (n : Nat), vs = [.ref p] ∧ BagAt H p n ∧ n + 10 < 1000000 ∧
  ∀ (i : Int) (H' : Hp), 0 ≤ i → i < 10 ^ 60 → But p H H' → BagAt H' p (n + 10) → Q (.int i) H'
theorem bounds7 {i : Int} (h0 : 0 ≤ i) (h7 : i < 7) : ∃ (z : Int), atI [V.int 10, .int 100, .int (10 ^ 5), .int (10 ^ 18), .int (10 ^ 30), .int (10 ^ 59), .int (10 ^ 60)] i = some (.int z) ∧ 0 < z ∧ z ≤ 10 ^ 60 := by
  have c : i = 0 ∨ i = 1 ∨ i = 2 ∨ i = 3 ∨ i = 4 ∨ i = 5 ∨ i = 6 := by omega
  rcases c with rfl | rfl | rfl | rfl | rfl | rfl | rfl <;> exact ⟨_, rfl, by decide, by decide⟩
theorem ok__law_number {fa : Addr} {fd : FuncData} (F : Fun K "_law_number" "_law_number" s__law_number fa fd) (TX : Tx mg)
    (C__law_draw : Cal P w K mg base CX0 1 "_law_draw" ["bag", "many"] (sp__law_draw K)) :
    FnOk P w K mg base CX0 2 fa fd ["bag"] (sp__law_number K) := by
  refine F.ok sc__law_number (fun vs H Q E h => ?_) (fun cdv A outer s H vs Q E hr h => ?_)
  · obtain ⟨p, n, rfl, hb, hn, k⟩ := h
    rfl
  · obtain ⟨p, n, rfl, hb, hn, k⟩ := h
    have hu := hu_of hr
    have hu64 := hr.units
    refine ⟨_, (pss_cons (ps_set (i := 1) sc__law_number.nd rfl (Or.inl rfl) (pe_cal C__law_draw (hr.mono (by decide)) (by rfl) pass0 (pa_cons (pv 0) (pa_cons pe_int pa_nil))))
  (pss_cons (ps_if (pt_cmpR op_lt (pv 1) pe_int (nomark _)) (pss_one (ps_ret (pe_cal C__law_draw (hr.mono (by decide)) (by rfl) pass0 (pa_cons (pv 0) (pa_cons (pe_ix ix_list (pe_lst (pa_cons pe_int (pa_cons pe_int pa_nil))) (pv 1) (fun _ _ => rfl)) pa_nil))))) pss_nil)
  (pss_cons (ps_set (i := 2) sc__law_number.nd rfl (Or.inl rfl) (pe_ix ix_list (pe_lst (pa_cons pe_int (pa_cons pe_int (pa_cons (pe_op op_pow pe_int pe_int) (pa_cons (pe_op op_pow pe_int pe_int) (pa_cons (pe_op op_pow pe_int pe_int) (pa_cons (pe_op op_pow pe_int pe_int) (pa_cons (pe_op op_pow pe_int pe_int) pa_nil)))))))) (pe_cal C__law_draw (hr.mono (by decide)) (by rfl) pass0 (pa_cons (pv 0) (pa_cons pe_int pa_nil))) (fun _ _ => rfl)))
  (pss_cons (ps_set (i := 3) sc__law_number.nd rfl (Or.inl rfl) pe_int)
  (pss_cons (ps_for PassesOwn.never rfl (pi_range1 (by rfl) TX.range (pa_cons pe_int pa_nil)) (pg_name (i := 4) sc__law_number.nd rfl (Or.inl rfl))
  (pss_one (ps_set (i := 3) sc__law_number.nd rfl (Or.inl rfl) (pe_op op_add (pe_op op_mul (pv 3) (pe_op op_pow pe_int pe_int)) (pe_cal C__law_draw (hr.mono (by decide)) (by rfl) pass0 (pa_cons (pv 0) (pa_cons (pe_op op_pow pe_int pe_int) pa_nil)))))))
  (pss_one (ps_ret (pe_op op_mod (pv 3) (pv 2))))))))), ?_⟩
    refine r_begin (show L2.start _ _ = [some _, none, none, none, none] from rfl) ?_
    try dsimp only [cxOf]
    walk_at "rr"
    refine ⟨p, 4, n, rfl, hb, by decide, by decide, by omega, fun way H1 w0 w4 b1 B1 => ?_⟩
    walk_at "rr"
    refine r_d (fun hc => ?_) (fun hc => ?_)
    · walk_at "rr"
      refine ⟨by show 2 ≤ sizeLine; decide, fun l hl => ?_⟩
      walk_at "rr"
      have hl0 : (upd H1 l (.lst [.int 3, .int 12])) l = some (.lst [.int 3, .int 12]) := upd_same
      obtain ⟨m, em, m0, m12⟩ : ∃ m : Int, atI [V.int 3, .int 12] way = some (.int m) ∧ 0 < m ∧ m ≤ 12 := by
        have c : way = 0 ∨ way = 1 := by omega
        rcases c with rfl | rfl
        · exact ⟨3, rfl, by decide, by decide⟩
        · exact ⟨12, rfl, by decide, by decide⟩
      refine r_ixl hl0 em ?_
      walk_at "rr"
      refine ⟨p, m, n + 1, rfl, ?_, m0, by omega, by omega, fun i H2 i0 i1 b2 B2 => ?_⟩
      · obtain ⟨a, b, c, e, r⟩ := B1
        exact ⟨a, b, c, (same_new hl) _ _ e, r⟩
      · exact k i H2 i0 (Int.lt_of_lt_of_le i1 (Int.le_trans m12 (by decide))) ((b1.trans (But.of (same_new hl))).trans b2) (B2.mono (by omega))
    · walk_at "rr"
      refine ⟨by show 7 ≤ sizeLine; decide, fun l hl => ?_⟩
      walk_at "rr"
      refine ⟨p, 7, n + 1, rfl, B1.upd hl, by decide, by decide, by omega, fun i H2 i0 i7 b2 B2 => ?_⟩
      obtain ⟨z, ez, z0, z1⟩ := bounds7 i0 i7
      have hl2 : H2 l = some (.lst [.int 10, .int 100, .int (10 ^ 5), .int (10 ^ 18), .int (10 ^ 30), .int (10 ^ 59), .int (10 ^ 60)]) := b2 _ _ upd_same (by
        intro e
        subst e
        exact B1.there hl)
      refine r_ixl hl2 ez ?_
      walk_at "rr"
      refine L_range (fun j σ H3 => ∃ (f : Int) (y : Option V), σ = [some (.ref p), some (.int way), some (.int z), some (.int f), y] ∧ 0 ≤ f ∧ But p H H3 ∧ BagAt H3 p (n + 2 + j)) ⟨0, none, rfl, by decide, (b1.trans (But.of (same_new hl))).trans b2, B2⟩ ?_ ?_
      · rintro j σ H3 hj ⟨f, y, rfl, f0, b3, B3⟩
        walk_at "rr"
        refine ⟨p, _, _, rfl, B3, by decide, by decide, by omega, fun i H4 i0 i1 b4 B4 => ?_⟩
        walk_at "rr"
        refine ⟨_, _, rfl, ?_, b3.trans b4, B4⟩
        have := Int.mul_nonneg f0 (show (0 : Int) ≤ 10 ^ Int.toNat 12 by decide)
        omega
      · rintro σ H3 ⟨f, y, rfl, f0, b3, B3⟩
        walk_at "rr"
        exact k _ _ (Int.emod_nonneg _ (by omega)) (Int.lt_of_lt_of_le (Int.emod_lt_of_pos _ z0) z1) b3 (B3.mono (by omega))
/-! ### _law_whole -/
abbrev s__law_whole : Stmt := top 9
theorem sc__law_whole : FnScope ["found"] ["found"] (defScope s__law_whole) := ⟨rfl, rfl, rfl, by decide +kernel, rfl, by decide +kernel, by decide +kernel⟩
def sp__law_whole (K : PySem.W.Frag) : Sp := fun vs H Q _ => ∃ (v : V) (T : String), vs = [v] ∧ TyX K H v (.type T) ∧ T ∈ kinds7 ∧ Q (.bl (T == "int")) H
theorem ok__law_whole {fa : Addr} {fd : FuncData} (F : Fun K "_law_whole" "_law_whole" s__law_whole fa fd) (TX : Tx mg) :
    FnOk P w K mg base CX0 1 fa fd ["found"] (sp__law_whole K) := by
  refine F.ok sc__law_whole (fun vs H Q E h => ?_) (fun cdv A outer s H vs Q E hr h => ?_)
  · obtain ⟨v, T, rfl, hT, hm, q⟩ := h
    rfl
  · obtain ⟨v, T, rfl, hT, hm, q⟩ := h
    have hu := hu_of hr
    have hu64 := hr.units
    rw [← whole_of T hm] at q
    refine ⟨_, (pss_one (ps_ret (pe_and (pe_callB call_isi (by rfl) TX.n_isinstance (by decide +kernel) (pa_cons (pv 0) (pa_cons (pe_bltn (v := .ty "int") (by rfl) TX.n_int (by decide +kernel) rfl) pa_nil))) (pe_one (pe_not (pe_callB call_isi (by rfl) TX.n_isinstance (by decide +kernel) (pa_cons (pv 0) (pa_cons (pe_bltn (v := .ty "bool") (by rfl) TX.n_bool (by decide +kernel) rfl) pa_nil)))))))), ?_⟩
    refine r_begin (show L2.start _ _ = [some _] from rfl) ?_
    try dsimp only [cxOf]
    walk_at "rr"
    refine r_isi hT (kit_int T hm) ?_
    walk_at "rr"
    refine r_ite (fun hc => ?_) (fun hc => ?_)
    · walk_at "rr"
      refine r_isi hT (kit_bool T hm) ?_
      walk_at "rr"
      rw [hc, Bool.true_and] at q
      exact q
    · rw [hc, Bool.false_and] at q
      exact q
/-! ### _law_worth -/
abbrev s__law_worth : Stmt := top 10
theorem sc__law_worth : FnScope ["bag", "word", "below", "number"] ["bag"] (defScope s__law_worth) := ⟨rfl, rfl, rfl, by decide +kernel, rfl, by decide +kernel, by decide +kernel⟩
def sp__law_worth (_ : PySem.W.Frag) : Sp := fun vs H Q _ => ∃ (p : Addr) (n : Nat), vs = [.ref p] ∧ BagAt H p n ∧ n + 30 < 1000000 ∧
  ∀ (t : Addr) (s : Str) (i : Int) (H' : Hp), H t = none → H' t = some (.tup [.str s, .int i]) → s.length ≤ 10 → But p H H' → BagAt H' p (n + 20) → Q (.ref t) H'
theorem words4 {i : Int} (h0 : 0 ≤ i) (h7 : i < 4) : ∃ (z : Str), atI [V.str "num", .str "at", .str "box", .str "go"] i = some (.str z) ∧ z.length ≤ 10 := by
  have c : i = 0 ∨ i = 1 ∨ i = 2 ∨ i = 3 := by omega
  rcases c with rfl | rfl | rfl | rfl <;> exact ⟨_, rfl, by decide⟩
theorem ok__law_worth {fa : Addr} {fd : FuncData} (F : Fun K "_law_worth" "_law_worth" s__law_worth fa fd) (TX : Tx mg)
    (C__law_draw : Cal P w K mg base CX0 1 "_law_draw" ["bag", "many"] (sp__law_draw K))
    (C__law_number : Cal P w K mg base CX0 2 "_law_number" ["bag"] (sp__law_number K)) :
    FnOk P w K mg base CX0 3 fa fd ["bag"] (sp__law_worth K) := by
  refine F.ok sc__law_worth (fun vs H Q E h => ?_) (fun cdv A outer s H vs Q E hr h => ?_)
  · obtain ⟨p, n, rfl, hb, hn, k⟩ := h
    rfl
  · obtain ⟨p, n, rfl, hb, hn, k⟩ := h
    have hu := hu_of hr
    have hu64 := hr.units
    refine ⟨_, (pss_cons (ps_set (i := 1) sc__law_worth.nd rfl (Or.inl rfl) (pe_ix ix_list (pe_lst (pa_cons pe_str (pa_cons pe_str (pa_cons pe_str (pa_cons pe_str pa_nil))))) (pe_cal C__law_draw (hr.mono (by decide)) (by rfl) pass0 (pa_cons (pv 0) (pa_cons pe_int pa_nil))) (fun _ _ => rfl)))
  (pss_cons (ps_set (i := 2) sc__law_worth.nd rfl (Or.inl rfl) (pe_cal C__law_draw (hr.mono (by decide)) (by rfl) pass0 (pa_cons (pv 0) (pa_cons pe_int pa_nil))))
  (pss_cons (ps_set (i := 3) sc__law_worth.nd rfl (Or.inl rfl) (pe_cal C__law_number (hr.mono (by decide)) (by rfl) pass0 (pa_cons (pv 0) pa_nil)))
  (pss_cons (ps_if (PW.pt (pw_and (pt_cmpR op_eq (pv 1) pe_str (nomark _)) (pw_and1 (pt_cmpR op_eq (pv 2) pe_int (nomark _))))) (pss_one (ps_set (i := 3) sc__law_worth.nd rfl (Or.inl rfl) (pe_un un_neg (pv 3)))) pss_nil)
  (pss_one (ps_ret (pe_tup (pa_cons (pv 1) (pa_cons (pv 3) pa_nil))))))))), ?_⟩
    refine r_begin (show L2.start _ _ = [some _, none, none, none] from rfl) ?_
    try dsimp only [cxOf]
    walk_at "rr"
    refine ⟨by show 4 ≤ sizeLine; decide, fun l hl => ?_⟩
    walk_at "rr"
    refine ⟨p, 4, n, rfl, hb.upd hl, by decide, by decide, by omega, fun i H1 i0 i4 b1 B1 => ?_⟩
    obtain ⟨z, ez, zl⟩ := words4 i0 i4
    have hl1 : H1 l = some (.lst [V.str "num", .str "at", .str "box", .str "go"]) := b1 _ _ upd_same (fun e => hb.there (by rw [← e]; exact hl))
    have b1' : But p H H1 := (But.of (same_new hl)).trans b1
    refine r_ixl hl1 ez ?_
    walk_at "rr"
    refine ⟨p, 2, _, rfl, B1, by decide, by decide, by omega, fun below H2 _ _ b2 B2 => ?_⟩
    walk_at "rr"
    refine ⟨p, _, rfl, B2, by omega, fun num H3 n0 _ b3 B3 => ?_⟩
    walk_at "rr"
    have b13 := (b1'.trans b2).trans b3
    have fin : ∀ (t : Addr) (m : Int), H3 t = none → Q (.ref t) (upd H3 t (.tup [.str z, .int m])) := fun t m ht =>
      k t z m _ (b13.free ht B3.there) upd_same zl (b13.trans (But.of (same_new ht))) ((B3.upd ht).mono (by omega))
    refine r_d (fun hc => ?_) (fun hc => ?_)
    · walk_at "rr"
      refine r_d (fun hc => ?_) (fun hc => ?_)
      · walk_at "rr"
        exact ⟨by show 2 ≤ sizeLine; decide, fun t ht => fin t _ ht⟩
      · walk_at "rr"
        exact ⟨by show 2 ≤ sizeLine; decide, fun t ht => fin t _ ht⟩
    · refine r_itF rfl ?_
      walk_at "rr"
      exact ⟨by show 2 ≤ sizeLine; decide, fun t ht => fin t _ ht⟩
/-! ### _law_sign -/
abbrev s__law_sign : Stmt := top 11
theorem sc__law_sign : FnScope ["bag", "some"] ["bag"] (defScope s__law_sign) := ⟨rfl, rfl, rfl, by decide +kernel, rfl, by decide +kernel, by decide +kernel⟩
def sp__law_sign (_ : PySem.W.Frag) : Sp := fun vs H Q _ => ∃ (p : Addr) (n : Nat), vs = [.ref p] ∧ BagAt H p n ∧ n < 1000000 ∧
  ∀ (c : Nat) (H' : Hp), But p H H' → BagAt H' p (n + 1) → Q (.str ⟨#[c]⟩) H'
theorem ok__law_sign {fa : Addr} {fd : FuncData} (F : Fun K "_law_sign" "_law_sign" s__law_sign fa fd) (TX : Tx mg)
    (C__law_draw : Cal P w K mg base CX0 1 "_law_draw" ["bag", "many"] (sp__law_draw K)) :
    FnOk P w K mg base CX0 2 fa fd ["bag"] (sp__law_sign K) := by
  refine F.ok sc__law_sign (fun vs H Q E h => ?_) (fun cdv A outer s H vs Q E hr h => ?_)
  · obtain ⟨p, n, rfl, hb, hn, k⟩ := h
    rfl
  · obtain ⟨p, n, rfl, hb, hn, k⟩ := h
    have hu := hu_of hr
    have hu64 := hr.units
    refine ⟨_, (pss_cons (ps_set (i := 1) sc__law_sign.nd rfl (Or.inl rfl) pe_str)
  (pss_cons (ps_set (i := 1) sc__law_sign.nd rfl (Or.inl rfl) (pe_op op_add_str (pv 1) pe_str))
  (pss_one (ps_ret (pe_ix ix_str (pv 1) (pe_cal C__law_draw (hr.mono (by decide)) (by rfl) pass0 (pa_cons (pv 0) (pa_cons pe_int pa_nil))) (fun _ _ => rfl)))))), ?_⟩
    refine r_begin (show L2.start _ _ = [some _, none] from rfl) ?_
    try dsimp only [cxOf]
    walk_at "rr"
    refine ⟨_, _, rfl, rfl, by decide +kernel, ?_⟩
    walk_at "rr"
    refine ⟨p, 94, n, rfl, hb, by decide, by decide, by omega, fun i H1 i0 i4 b1 B1 => ?_⟩
    exact r_ixS' (by decide +kernel) i0 (Int.lt_of_lt_of_le i4 (by decide +kernel)) fun c => k c H1 b1 B1
/-! ### _law_odd -/
abbrev s__law_odd : Stmt := top 12
theorem sc__law_odd : FnScope ["bag", "at"] ["bag"] (defScope s__law_odd) := ⟨rfl, rfl, rfl, by decide +kernel, rfl, by decide +kernel, by decide +kernel⟩
def sp__law_odd (K : PySem.W.Frag) : Sp := fun vs H Q _ => ∃ (p : Addr) (n : Nat), vs = [.ref p] ∧ BagAt H p n ∧ n < 1000000 ∧
  ∀ (v : V) (H' : Hp), Odd K H' v → But p H H' → BagAt H' p (n + 1) → Q v H'
theorem ok__law_odd {fa : Addr} {fd : FuncData} (F : Fun K "_law_odd" "_law_odd" s__law_odd fa fd) (TX : Tx mg)
    (C__law_draw : Cal P w K mg base CX0 1 "_law_draw" ["bag", "many"] (sp__law_draw K)) :
    FnOk P w K mg base CX0 2 fa fd ["bag"] (sp__law_odd K) := by
  refine F.ok sc__law_odd (fun vs H Q E h => ?_) (fun cdv A outer s H vs Q E hr h => ?_)
  · obtain ⟨p, n, rfl, hb, hn, k⟩ := h
    rfl
  · obtain ⟨p, n, rfl, hb, hn, k⟩ := h
    have hu := hu_of hr
    have hu64 := hr.units
    refine ⟨_, (pss_cons (ps_set (i := 1) sc__law_odd.nd rfl (Or.inl rfl) (pe_cal C__law_draw (hr.mono (by decide)) (by rfl) pass0 (pa_cons (pv 0) (pa_cons pe_int pa_nil))))
  (pss_one (ps_ret (pe_ix ix_list (pe_lst (pa_cons pe_non (pa_cons pe_bl (pa_cons pe_bl (pa_cons pe_str (pa_cons pe_str (pa_cons pe_str (pa_cons (pe_tup pa_nil) (pa_cons (pe_tup (pa_cons pe_str (pa_cons pe_int pa_nil))) (pa_cons (pe_lst (pa_cons pe_str (pa_cons pe_int pa_nil))) (pa_cons (pe_disp (pps_cons pe_str pe_int pps_nil) (by rfl) (by rfl) (fun z => by cases z) (by decide)) pa_nil))))))))))) (pv 1) (fun _ _ => rfl))))), ?_⟩
    refine r_begin (show L2.start _ _ = [some _, none] from rfl) ?_
    try dsimp only [cxOf]
    walk_at "rr"
    refine ⟨p, 10, n, rfl, hb, by decide, by decide, by omega, fun i H1 i0 i4 b1 B1 => ?_⟩
    walk_at "rr"
    refine ⟨Nat.zero_le _, fun t1 h1 => ?_⟩
    walk_at "rr"
    refine ⟨by show 2 ≤ sizeLine; decide, fun t2 h2 => ?_⟩
    walk_at "rr"
    refine ⟨by show 2 ≤ sizeLine; decide, fun t3 h3 => ?_⟩
    walk_at "rr"
    refine r_disp fun t4 h4 => ?_
    walk_at "rr"
    refine ⟨upd_same, [(.inr "at", .int 0)], rfl, by decide, ?_⟩
    walk_at "rr"
    refine ⟨by show 10 ≤ sizeLine; decide, fun l hl => ?_⟩
    walk_at "rr"
    have a4 : Same (upd (upd (upd H1 t1 (.tup [])) t2 (.tup [.str "num", .int 1])) t3 (.lst [.str "go", .int 0])) _ := (Same.upd' (same_new (o := .dK []) h4) (o := .dK (mergeK [] [(.inr "at", .int 0)])) h4).trans (same_new (o := .lst [.non, .bl true, .bl false, .str "0", .str "", .str "num", .ref t1, .ref t2, .ref t3, .ref t4]) hl)
    have b0 : But p H _ := b1.trans (But.of ((((same_new h1).trans (same_new h2)).trans (same_new h3)).trans a4))
    have B0 : BagAt _ p (n + 1) := B1.same ((((same_new h1).trans (same_new h2)).trans (same_new h3)).trans a4)
    have fin : ∀ v, Odd K _ v → Q v _ := fun v hv => k v _ hv b0 B0
    have c : i = 0 ∨ i = 1 ∨ i = 2 ∨ i = 3 ∨ i = 4 ∨ i = 5 ∨ i = 6 ∨ i = 7 ∨ i = 8 ∨ i = 9 := by omega
    rcases c with rfl | rfl | rfl | rfl | rfl | rfl | rfl | rfl | rfl | rfl
    · exact r_ixl upd_same rfl (fin _ (.other ty_non (by decide) rfl))
    · exact r_ixl upd_same rfl (fin _ (.other ty_bl (by decide) rfl))
    · exact r_ixl upd_same rfl (fin _ (.other ty_bl (by decide) rfl))
    · exact r_ixl upd_same rfl (fin _ (.other ty_str (by decide) rfl))
    · exact r_ixl upd_same rfl (fin _ (.other ty_str (by decide) rfl))
    · exact r_ixl upd_same rfl (fin _ (.other ty_str (by decide) rfl))
    · exact r_ixl upd_same rfl (fin _ (.tup0 (a4 _ _ (same_new h3 _ _ (same_new h2 _ _ upd_same)))))
    · exact r_ixl upd_same rfl (fin _ (.tup2 (a4 _ _ (same_new h3 _ _ upd_same))))
    · exact r_ixl upd_same rfl (fin _ (.other (ty_lst (a4 _ _ upd_same)) (by decide) rfl))
    · exact r_ixl upd_same rfl (fin _ (.other (ty_dK (same_new hl _ _ upd_same)) (by decide) rfl))
/-! ### _law_word -/
abbrev s__law_word : Stmt := top 13
theorem sc__law_word : FnScope ["word", "way", "at", "sign"] ["word", "way", "at", "sign"] (defScope s__law_word) := ⟨rfl, rfl, rfl, by decide +kernel, rfl, by decide +kernel, by decide +kernel⟩
def sp__law_word (_ : PySem.W.Frag) : Sp := fun vs H Q _ => ∃ (s g : Str) (way at_ : Int), vs = [.str s, .int way, .int at_, .str g] ∧ s.length ≤ 1000 ∧ g.length ≤ 1000 ∧ ∀ z : Str, Q (.str z) H
theorem len_app (a b : Str) : (a ++ b).length = a.length + b.length := by
  show (a.cps ++ b.cps).size = _
  rw [Array.size_append]
  rfl
theorem ok__law_word {fa : Addr} {fd : FuncData} (F : Fun K "_law_word" "_law_word" s__law_word fa fd) (TX : Tx mg) :
    FnOk P w K mg base CX0 1 fa fd ["word", "way", "at", "sign"] (sp__law_word K) := by
  refine F.ok sc__law_word (fun vs H Q E h => ?_) (fun cdv A outer s H vs Q E hr h => ?_)
  · obtain ⟨s, g, way, at_, rfl, hs, hg, k⟩ := h
    rfl
  · obtain ⟨s, g, way, at_, rfl, hs, hg, k⟩ := h
    have hu := hu_of hr
    have hu64 := hr.units
    have c1 := fun lo hi => cutS_length s lo hi
    have s0 : s.length ≤ sizeLine := sz (by omega)
    refine ⟨_, (pss_cons (ps_if (pt_cmpR op_eq (pv 1) pe_int (nomark _)) (pss_one (ps_ret (pe_op op_add_str (pe_op op_add_str (pe_slice sl_str (pv 0) po_none (po_some (pv 2))) (pv 3)) (pe_slice sl_str (pv 0) (po_some (pv 2)) po_none)))) pss_nil)
  (pss_cons (ps_if (pt_cmpR op_eq (pv 1) pe_int (nomark _)) (pss_one (ps_ret (pe_op op_add_str (pe_slice sl_str (pv 0) po_none (po_some (pv 2))) (pe_slice sl_str (pv 0) (po_some (pe_op op_add (pv 2) pe_int)) po_none)))) pss_nil)
  (pss_one (ps_ret (pe_op op_add_str (pe_op op_add_str (pe_slice sl_str (pv 0) po_none (po_some (pv 2))) (pv 3)) (pe_slice sl_str (pv 0) (po_some (pe_op op_add (pv 2) pe_int)) po_none)))))), ?_⟩
    refine r_begin (show L2.start _ _ = [some _, some _, some _, some _] from rfl) ?_
    try dsimp only [cxOf]
    walk_at "rr"
    refine r_d (fun hc => ?_) (fun hc => ?_)
    · walk_at "rr"
      refine r_slS s0 ?_
      walk_at "rr"
      have := c1 none (some at_)
      refine ⟨_, _, rfl, rfl, sz (by omega), ?_⟩
      walk_at "rr"
      refine r_slS s0 ?_
      have := c1 (some at_) none
      refine ⟨_, _, rfl, rfl, sz (by rw [len_app]; omega), ?_⟩
      exact k _
    · walk_at "rr"
      refine r_d (fun hc => ?_) (fun hc => ?_)
      · walk_at "rr"
        refine r_slS s0 ?_
        walk_at "rr"
        refine r_slS s0 ?_
        have := c1 none (some at_)
        have := c1 (some (at_ + 1)) none
        refine ⟨_, _, rfl, rfl, sz (by omega), ?_⟩
        exact k _
      · walk_at "rr"
        refine r_slS s0 ?_
        walk_at "rr"
        have := c1 none (some at_)
        refine ⟨_, _, rfl, rfl, sz (by omega), ?_⟩
        walk_at "rr"
        refine r_slS s0 ?_
        have := c1 (some (at_ + 1)) none
        refine ⟨_, _, rfl, rfl, sz (by rw [len_app]; omega), ?_⟩
        exact k _
/-! ### _law_thing -/
abbrev s__law_thing : Stmt := top 14
theorem sc__law_thing : FnScope ["bag", "way", "turn", "word", "number"] ["bag"] (defScope s__law_thing) := ⟨rfl, rfl, rfl, by decide +kernel, rfl, by decide +kernel, by decide +kernel⟩
def sp__law_thing (K : PySem.W.Frag) : Sp := fun vs H Q _ => ∃ (p : Addr) (n : Nat), vs = [.ref p] ∧ BagAt H p n ∧ n + 100 < 1000000 ∧
  ∀ (v : V) (b : Bool) (H' : Hp), But p H H' → Th K H' v b → Q v H'
theorem ok__law_thing {fa : Addr} {fd : FuncData} (F : Fun K "_law_thing" "_law_thing" s__law_thing fa fd) (TX : Tx mg)
    (C__law_draw : Cal P w K mg base CX0 1 "_law_draw" ["bag", "many"] (sp__law_draw K))
    (C__law_odd : Cal P w K mg base CX0 2 "_law_odd" ["bag"] (sp__law_odd K))
    (C__law_sign : Cal P w K mg base CX0 2 "_law_sign" ["bag"] (sp__law_sign K))
    (C__law_word : Cal P w K mg base CX0 1 "_law_word" ["word", "way", "at", "sign"] (sp__law_word K))
    (C__law_worth : Cal P w K mg base CX0 3 "_law_worth" ["bag"] (sp__law_worth K)) :
    FnOk P w K mg base CX0 4 fa fd ["bag"] (sp__law_thing K) := by
  refine F.ok sc__law_thing (fun vs H Q E h => ?_) (fun cdv A outer s H vs Q E hr h => ?_)
  · obtain ⟨p, n, rfl, hb, hn, k⟩ := h
    rfl
  · obtain ⟨p, n, rfl, hb, hn, k⟩ := h
    have hu := hu_of hr
    have hu64 := hr.units
    refine ⟨_, (pss_cons (ps_set (i := 1) sc__law_thing.nd rfl (Or.inl rfl) (pe_cal C__law_draw (hr.mono (by decide)) (by rfl) pass0 (pa_cons (pv 0) (pa_cons pe_int pa_nil))))
  (pss_cons (ps_set (i := 2) sc__law_thing.nd rfl (Or.inl rfl) (pe_cal C__law_draw (hr.mono (by decide)) (by rfl) pass0 (pa_cons (pv 0) (pa_cons pe_int pa_nil))))
  (pss_cons (ps_asg (pe_cal C__law_worth (hr.mono (by decide)) (by rfl) pass0 (pa_cons (pv 0) pa_nil)) (pg_tup rfl (pgs_cons (pg_name (i := 3) sc__law_thing.nd rfl (Or.inl rfl)) (pgs_cons (pg_name (i := 4) sc__law_thing.nd rfl (Or.inl rfl)) pgs_nil))))
  (pss_cons (ps_if (pt_cmpR op_eq (pv 1) pe_int (nomark _)) (pss_one (ps_ret (pe_tup (pa_cons (pe_cal C__law_word (hr.mono (by decide)) (by rfl) pass0 (pa_cons (pv 3) (pa_cons (pv 2) (pa_cons (pe_cal C__law_draw (hr.mono (by decide)) (by rfl) pass0 (pa_cons (pv 0) (pa_cons (pe_op op_add (pe_callB call_len (by rfl) TX.n_len (by decide +kernel) (pa_cons (pv 3) pa_nil)) pe_int) pa_nil))) (pa_cons (pe_cal C__law_sign (hr.mono (by decide)) (by rfl) pass0 (pa_cons (pv 0) pa_nil)) pa_nil))))) (pa_cons (pv 4) pa_nil))))) pss_nil)
  (pss_cons (ps_if (pt_cmpR op_eq (pv 1) pe_int (nomark _)) (pss_one (ps_ret (pe_tup (pa_cons (pe_cal C__law_odd (hr.mono (by decide)) (by rfl) pass0 (pa_cons (pv 0) pa_nil)) (pa_cons (pv 4) pa_nil))))) pss_nil)
  (pss_cons (ps_if (PW.pt (pw_or (pt_cmpR op_eq (pv 1) pe_int (nomark _)) (pw_or1 (pt_cmpR op_eq (pv 1) pe_int (nomark _))))) (pss_one (ps_ret (pe_tup (pa_cons (pv 3) (pa_cons (pe_cal C__law_odd (hr.mono (by decide)) (by rfl) pass0 (pa_cons (pv 0) pa_nil)) pa_nil))))) pss_nil)
  (pss_cons (ps_if (pt_cmpR op_eq (pv 1) pe_int (nomark _)) (pss_one (ps_ret (pe_tup (pa_cons (pv 3) (pa_cons (pe_un un_neg (pe_callB (call_max2 rfl) (by rfl) TX.n_max (by decide +kernel) (pa_cons pe_int (pa_cons (pv 4) pa_nil)))) pa_nil))))) pss_nil)
  (pss_cons (ps_if (pt_cmpR op_eq (pv 1) pe_int (nomark _)) (pss_one (ps_ret (pe_ix ix_list (pe_lst (pa_cons (pe_tup (pa_cons (pv 3) pa_nil)) (pa_cons (pe_tup (pa_cons (pv 3) (pa_cons (pv 4) (pa_cons (pv 2) pa_nil)))) (pa_cons (pe_tup (pa_cons (pv 4) (pa_cons (pv 3) pa_nil))) pa_nil)))) (pv 2) (fun _ _ => rfl)))) pss_nil)
  (pss_cons (ps_if (pt_cmpR op_eq (pv 1) pe_int (nomark _)) (pss_one (ps_ret (pe_ix ix_list (pe_lst (pa_cons (pe_lst (pa_cons (pv 3) (pa_cons (pv 4) pa_nil))) (pa_cons (pe_tup (pa_cons (pe_tup (pa_cons (pv 3) (pa_cons (pv 4) pa_nil))) pa_nil)) (pa_cons (pe_disp (pps_cons (pv 3) (pv 4) pps_nil) (by rfl) (by rfl) (fun z => by cases z) (by decide)) pa_nil)))) (pv 2) (fun _ _ => rfl)))) pss_nil)
  (pss_cons (ps_if (pt_cmpR op_eq (pv 1) pe_int (nomark _)) (pss_one (ps_ret (pe_ix ix_list (pe_lst (pa_cons (pe_cal C__law_odd (hr.mono (by decide)) (by rfl) pass0 (pa_cons (pv 0) pa_nil)) (pa_cons (pv 4) (pa_cons (pv 3) pa_nil)))) (pv 2) (fun _ _ => rfl)))) pss_nil)
  (pss_one (ps_ret (pe_tup (pa_cons (pv 3) (pa_cons (pv 4) pa_nil))))))))))))))), ?_⟩
    refine r_begin (show L2.start _ _ = [some _, none, none, none, none] from rfl) ?_
    try dsimp only [cxOf]
    walk_at "rr"
    refine ⟨p, 16, n, rfl, hb, by decide, by decide, by omega, fun way H1 _ _ b1 B1 => ?_⟩
    walk_at "rr"
    refine ⟨p, 3, _, rfl, B1, by decide, by decide, by omega, fun turn H2 t0 t3 b2 B2 => ?_⟩
    walk_at "rr"
    refine ⟨p, _, rfl, B2, by omega, fun t s m H3 ht hT hl b3 B3 => ?_⟩
    have b3' : But p H H3 := (b1.trans b2).trans b3
    have bs : ∀ {H' : Hp}, Same H3 H' → But p H H' := fun s => b3'.trans (But.of s)
    walk_at "rr"
    refine r_d (fun hc => ?_) (fun _ => ?_)
    · walk_at "rr"
      refine ⟨_, _, rfl, ⟨sz (by omega), rfl⟩, ?_⟩
      walk_at "rr"
      refine ⟨p, _, _, rfl, B3, by omega, by omega, by omega, fun i H4 i0 _ b4 B4 => ?_⟩
      walk_at "rr"
      refine ⟨p, _, rfl, B4, by omega, fun c H5 b5 B5 => ?_⟩
      walk_at "rr"
      refine ⟨s, _, turn, i, rfl, by omega, (by show 1 ≤ 1000; decide), fun z => ?_⟩
      walk_at "rr"
      refine ⟨by show 2 ≤ sizeLine; decide, fun a ha => ?_⟩
      exact k _ _ _ (((b3'.trans b4).trans b5).trans (But.of (same_new ha))) (.tupW upd_same)
    · walk_at "rr"
      refine r_d (fun hc => ?_) (fun _ => ?_)
      · walk_at "rr"
        refine ⟨p, _, rfl, B3, by omega, fun v H4 hv b4 B4 => ?_⟩
        walk_at "rr"
        refine ⟨by show 2 ≤ sizeLine; decide, fun a ha => ?_⟩
        obtain ⟨b, hb⟩ := Th.pair (K := K) (H := upd H4 a (.tup [v, .int m])) upd_same (hv.some7.same (same_new ha)) any_int
        exact k _ b _ ((b3'.trans b4).trans (But.of (same_new ha))) hb
      · walk_at "rr"
        refine r_d (fun hc => ?_) (fun _ => ?_)
        · refine r_itT rfl ?_
          walk_at "rr"
          refine ⟨p, _, rfl, B3, by omega, fun v H4 hv b4 B4 => ?_⟩
          walk_at "rr"
          refine ⟨by show 2 ≤ sizeLine; decide, fun a ha => ?_⟩
          obtain ⟨b, hb⟩ := Th.pair (K := K) (H := upd H4 a (.tup [.str s, v])) upd_same any_str (hv.some7.same (same_new ha))
          exact k _ b _ ((b3'.trans b4).trans (But.of (same_new ha))) hb
        · walk_at "rr"
          refine r_d (fun hc => ?_) (fun _ => ?_)
          · walk_at "rr"
            refine ⟨p, _, rfl, B3, by omega, fun v H4 hv b4 B4 => ?_⟩
            walk_at "rr"
            refine ⟨by show 2 ≤ sizeLine; decide, fun a ha => ?_⟩
            obtain ⟨b, hb⟩ := Th.pair (K := K) (H := upd H4 a (.tup [.str s, v])) upd_same any_str (hv.some7.same (same_new ha))
            exact k _ b _ ((b3'.trans b4).trans (But.of (same_new ha))) hb
          · walk_at "rr"
            refine r_d (fun hc => ?_) (fun _ => ?_)
            · walk_at "rr"
              refine ⟨_, _, rfl, ?_⟩
              walk_at "rr"
              refine ⟨by show 2 ≤ sizeLine; decide, fun a ha => ?_⟩
              exact k _ _ _ (bs (same_new ha)) (.tupW upd_same)
            · walk_at "rr"
              have c3 : turn = 0 ∨ turn = 1 ∨ turn = 2 := by omega
              refine r_d (fun hc => ?_) (fun _ => ?_)
              · walk_at "rr"
                refine ⟨by show 1 ≤ sizeLine; decide, fun a ha => ?_⟩
                walk_at "rr"
                refine ⟨by show 3 ≤ sizeLine; decide, fun b hb => ?_⟩
                walk_at "rr"
                refine ⟨by show 2 ≤ sizeLine; decide, fun c hc => ?_⟩
                walk_at "rr"
                refine ⟨by show 3 ≤ sizeLine; decide, fun l hl => ?_⟩
                walk_at "rr"
                rcases c3 with rfl | rfl | rfl
                · exact r_ixl upd_same rfl (k _ _ _ (bs ((((same_new ha).trans (same_new hb)).trans (same_new hc)).trans (same_new hl))) (.tupN (same_new hl _ _ (same_new hc _ _ (same_new hb _ _ upd_same))) (by simp)))
                · exact r_ixl upd_same rfl (k _ _ _ (bs ((((same_new ha).trans (same_new hb)).trans (same_new hc)).trans (same_new hl))) (.tupN (same_new hl _ _ (same_new hc _ _ upd_same)) (by simp)))
                · obtain ⟨bb, hbb⟩ := Th.pair (K := K) (same_new hl _ _ upd_same) any_int any_str
                  exact r_ixl upd_same rfl (k _ bb _ (bs ((((same_new ha).trans (same_new hb)).trans (same_new hc)).trans (same_new hl))) hbb)
              · walk_at "rr"
                refine r_d (fun hc => ?_) (fun _ => ?_)
                · walk_at "rr"
                  refine ⟨by show 2 ≤ sizeLine; decide, fun a ha => ?_⟩
                  walk_at "rr"
                  refine ⟨by show 2 ≤ sizeLine; decide, fun b hb => ?_⟩
                  walk_at "rr"
                  refine ⟨by show 1 ≤ sizeLine; decide, fun c hc => ?_⟩
                  walk_at "rr"
                  refine r_disp fun d hd => ?_
                  walk_at "rr"
                  refine ⟨upd_same, [(.inr s, .int m)], rfl, by show 1 ≤ 15; decide, ?_⟩
                  walk_at "rr"
                  refine ⟨by show 3 ≤ sizeLine; decide, fun l hl => ?_⟩
                  walk_at "rr"
                  rcases c3 with rfl | rfl | rfl
                  · exact r_ixl upd_same rfl (k _ _ _ (bs (((((same_new ha).trans (same_new hb)).trans (same_new hc)).trans (Same.upd' (same_new hd) hd)).trans (same_new hl))) (.other (ty_lst (same_new hl _ _ (Same.upd' (same_new hd) hd _ _ (same_new hc _ _ (same_new hb _ _ upd_same))))) (by decide) rfl))
                  · exact r_ixl upd_same rfl (k _ _ _ (bs (((((same_new ha).trans (same_new hb)).trans (same_new hc)).trans (Same.upd' (same_new hd) hd)).trans (same_new hl))) (.tupN (same_new hl _ _ (Same.upd' (same_new hd) hd _ _ upd_same)) (by simp)))
                  · exact r_ixl upd_same rfl (k _ _ _ (bs (((((same_new ha).trans (same_new hb)).trans (same_new hc)).trans (Same.upd' (same_new hd) hd)).trans (same_new hl))) (.other (ty_dK (same_new hl _ _ upd_same)) (by decide) rfl))
                · walk_at "rr"
                  refine r_d (fun hc => ?_) (fun _ => ?_)
                  · walk_at "rr"
                    refine ⟨p, _, rfl, B3, by omega, fun v H4 hv b4 B4 => ?_⟩
                    walk_at "rr"
                    refine ⟨by show 3 ≤ sizeLine; decide, fun l hl => ?_⟩
                    walk_at "rr"
                    rcases c3 with rfl | rfl | rfl
                    · obtain ⟨b, hb⟩ := hv.thing
                      exact r_ixl upd_same rfl (k _ b _ ((b3'.trans b4).trans (But.of (same_new hl))) (hb.same (same_new hl)))
                    · exact r_ixl upd_same rfl (k _ _ _ ((b3'.trans b4).trans (But.of (same_new hl))) (.other ty_int (by decide) rfl))
                    · exact r_ixl upd_same rfl (k _ _ _ ((b3'.trans b4).trans (But.of (same_new hl))) (.other ty_str (by decide) rfl))
                  · walk_at "rr"
                    refine ⟨by show 2 ≤ sizeLine; decide, fun a ha => ?_⟩
                    exact k _ _ _ (bs (same_new ha)) (.tupW upd_same)
/-! ### _law_is -/
abbrev s__law_is : Stmt := top 15
theorem sc__law_is : FnScope ["thing"] ["thing"] (defScope s__law_is) := ⟨rfl, rfl, rfl, by decide +kernel, rfl, by decide +kernel, by decide +kernel⟩
def sp__law_is (K : PySem.W.Frag) : Sp := fun vs H Q _ => ∃ (v : V) (b : Bool), vs = [v] ∧ Th K H v b ∧ Q (.bl b) H
theorem ok__law_is {fa : Addr} {fd : FuncData} (F : Fun K "_law_is" "_law_is" s__law_is fa fd) (TX : Tx mg)
    (C__law_whole : Cal P w K mg base CX0 1 "_law_whole" ["found"] (sp__law_whole K)) :
    FnOk P w K mg base CX0 2 fa fd ["thing"] (sp__law_is K) := by
  refine F.ok sc__law_is (fun vs H Q E h => ?_) (fun cdv A outer s H vs Q E hr h => ?_)
  · obtain ⟨v, b, rfl, hT, q⟩ := h
    rfl
  · obtain ⟨v, b, rfl, hT, q⟩ := h
    have hu := hu_of hr
    have hu64 := hr.units
    refine ⟨_, (pss_cons (ps_if (PW.pt (pw_or (pt_not (pt_val (pe_callB call_isi (by rfl) TX.n_isinstance (by decide +kernel) (pa_cons (pv 0) (pa_cons (pe_bltn (v := .ty "tuple") (by rfl) TX.n_tuple (by decide +kernel) rfl) pa_nil))))) (pw_or1 (pt_cmpR op_ne (pe_callB call_len (by rfl) TX.n_len (by decide +kernel) (pa_cons (pv 0) pa_nil)) pe_int (nomark _))))) (pss_one (ps_ret pe_bl)) pss_nil)
  (pss_cons (ps_if (PW.pt (pw_or (pt_not (pt_val (pe_callB call_isi (by rfl) TX.n_isinstance (by decide +kernel) (pa_cons (pe_ix ix_tup (pv 0) pe_int (fun _ _ => rfl)) (pa_cons (pe_bltn (v := .ty "str") (by rfl) TX.n_str (by decide +kernel) rfl) pa_nil))))) (pw_or1 (pt_not (pt_val (pe_cal C__law_whole (hr.mono (by decide)) (by rfl) pass0 (pa_cons (pe_ix ix_tup (pv 0) pe_int (fun _ _ => rfl)) pa_nil))))))) (pss_one (ps_ret pe_bl)) pss_nil)
  (pss_cons (ps_if (pt_cmpR op_eq (pe_ix ix_tup (pv 0) pe_int (fun _ _ => rfl)) pe_str (nomark _)) (pss_one (ps_ret pe_bl)) pss_nil)
  (pss_one (ps_ret (pe_and (pe_cmpR op_ge (pe_ix ix_tup (pv 0) pe_int (fun _ _ => rfl)) pe_int (nomark _)) (pe_one (pe_or (pe_cmpR op_eq (pe_ix ix_tup (pv 0) pe_int (fun _ _ => rfl)) pe_str (nomark _)) (pe_or (pe_cmpR op_eq (pe_ix ix_tup (pv 0) pe_int (fun _ _ => rfl)) pe_str (nomark _)) (pe_one (pe_cmpR op_eq (pe_ix ix_tup (pv 0) pe_int (fun _ _ => rfl)) pe_str (nomark _)))))))))))), ?_⟩
    refine r_begin (show L2.start _ _ = [some _] from rfl) ?_
    try dsimp only [cxOf]
    walk_at "rr"
    cases hT with
    | @other v T h m n =>
      refine r_isi h (kit_tuple T m) ?_
      rw [n]
      walk_at "rr"
      refine r_itT rfl ?_
      refine r_itT rfl ?_
      walk_at "rr"
      exact q
    | @tupN a xs h n =>
      refine r_isi (ty_tup h) (kit_tuple _ (by decide)) ?_
      walk_at "rr"
      refine r_itF rfl ?_
      walk_at "rr"
      refine ⟨_, _, rfl, .inr ⟨xs, .inl (.inl h), rfl⟩, ?_⟩
      walk_at "rr"
      refine r_nd (fun hc => ?_) (fun hc => ?_)
      · walk_at "rr"
        exact q
      · injection hc with hc
        omega
    | @tupX a x y T h hx m n =>
      refine r_isi (ty_tup h) (kit_tuple _ (by decide)) ?_
      walk_at "rr"
      refine r_itF rfl ?_
      walk_at "rr"
      refine ⟨_, _, rfl, .inr ⟨[x, y], .inl (.inl h), rfl⟩, ?_⟩
      walk_at "rr"
      refine r_itF rfl ?_
      walk_at "rr"
      refine r_isi hx (kit_str _ m) ?_
      rw [n]
      walk_at "rr"
      refine r_itT rfl ?_
      refine r_itT rfl ?_
      walk_at "rr"
      exact q
    | @tupY a s y T h hy m n =>
      refine r_isi (ty_tup h) (kit_tuple _ (by decide)) ?_
      walk_at "rr"
      refine r_itF rfl ?_
      walk_at "rr"
      refine ⟨_, _, rfl, .inr ⟨[.str s, y], .inl (.inl h), rfl⟩, ?_⟩
      walk_at "rr"
      refine r_itF rfl ?_
      walk_at "rr"
      refine r_isi ty_str (kit_str _ (by decide)) ?_
      walk_at "rr"
      refine r_itF rfl ?_
      walk_at "rr"
      refine ⟨y, T, rfl, hy, m, ?_⟩
      rw [n]
      walk_at "rr"
      refine r_itT rfl ?_
      walk_at "rr"
      exact q
    | @tupW a s n h =>
      refine r_isi (ty_tup h) (kit_tuple _ (by decide)) ?_
      walk_at "rr"
      refine r_itF rfl ?_
      walk_at "rr"
      refine ⟨_, _, rfl, .inr ⟨[.str s, .int n], .inl (.inl h), rfl⟩, ?_⟩
      walk_at "rr"
      refine r_itF rfl ?_
      walk_at "rr"
      refine r_isi ty_str (kit_str _ (by decide)) ?_
      walk_at "rr"
      refine r_itF rfl ?_
      walk_at "rr"
      refine ⟨.int n, "int", rfl, ty_int, by decide, ?_⟩
      walk_at "rr"
      refine r_itF rfl ?_
      walk_at "rr"
      unfold isW at q
      refine r_d (fun hc => ?_) (fun hc => ?_)
      · injection hc with hc
        subst hc
        walk_at "rr"
        exact q
      · have e1 : (s == "num") = false := beq_eq_false_iff_ne.mpr fun e => hc (by rw [e])
        rw [e1, Bool.false_or] at q
        walk_at "rr"
        refine r_d (fun h0 => ?_) (fun h0 => ?_)
        · rw [decide_eq_true h0, Bool.and_true] at q
          walk_at "rr"
          refine r_d (fun hc => ?_) (fun h1 => ?_)
          · injection hc with hc
            subst hc
            exact q
          · have e1 : (s == "at") = false := beq_eq_false_iff_ne.mpr fun e => h1 (by rw [e])
            rw [e1, Bool.false_or] at q
            walk_at "rr"
            refine r_d (fun hc => ?_) (fun h1 => ?_)
            · injection hc with hc
              subst hc
              exact q
            · have e1 : (s == "box") = false := beq_eq_false_iff_ne.mpr fun e => h1 (by rw [e])
              rw [e1, Bool.false_or] at q
              walk_at "rr"
              rw [dec_str]
              exact q
        · rw [decide_eq_false h0, Bool.and_false] at q
          exact q
/-! ### law -/
abbrev s_law : Stmt := top 16
theorem sc_law : FnScope ["script", "k", "thing", "found"] ["script"] (defScope s_law) := ⟨rfl, rfl, rfl, by decide +kernel, rfl, by decide +kernel, by decide +kernel⟩
def sp_law (K : PySem.W.Frag) : Sp := fun vs H Q _ => ∃ (a : Addr) (ns : List Int), vs = [.ref a] ∧ SqL K H a (ns.map V.int) ∧ ns.length ≤ 63 ∧ (∀ z ∈ ns, PySem.Builtin.Int.intBits z ≤ 1048576) ∧ ∀ H', Q (.bl true) H'
theorem ok_law {fa : Addr} {fd : FuncData} (F : Fun K "law" "law" s_law fa fd) (TX : Tx mg)
    (C__law_bag : Cal P w K mg base CX0 1 "_law_bag" ["cell", "place"] (sp__law_bag K))
    (C__law_cell_at : Cal P w K mg base CX0 1 "_law_cell_at" ["script", "k"] (sp__law_cell_at K))
    (C__law_is : Cal P w K mg base CX0 2 "_law_is" ["thing"] (sp__law_is K))
    (C__law_thing : Cal P w K mg base CX0 4 "_law_thing" ["bag"] (sp__law_thing K))
    (C_is_worth : Cal P w K mg base CX0 2 "is_worth" ["thing"] (sp_is_worth K)) :
    FnOk P w K mg base CX0 5 fa fd ["script"] (sp_law K) := by
  refine F.ok sc_law (fun vs H Q E h => ?_) (fun cdv A outer s H vs Q E hr h => ?_)
  · obtain ⟨a, ns, rfl, hS, hn, hbits, q⟩ := h
    rfl
  · obtain ⟨a, ns, rfl, hS, hn, hbits, q⟩ := h
    have hu := hu_of hr
    have hu64 := hr.units
    refine ⟨_, (pss_cons (ps_for PassesOwn.never rfl (pi_range1 (by rfl) TX.range (pa_cons (pe_callB (call_max2 rfl) (by rfl) TX.n_max (by decide +kernel) (pa_cons pe_int (pa_cons (pe_callB (call_min2 rfl) (by rfl) TX.n_min (by decide +kernel) (pa_cons pe_int (pa_cons (pe_callB call_len (by rfl) TX.n_len (by decide +kernel) (pa_cons (pv 0) pa_nil)) pa_nil))) pa_nil))) pa_nil)) (pg_name (i := 1) sc_law.nd rfl (Or.inl rfl))
  (pss_cons (ps_set (i := 2) sc_law.nd rfl (Or.inl rfl) (pe_cal C__law_thing (hr.mono (by decide)) (by rfl) pass0 (pa_cons (pe_cal C__law_bag (hr.mono (by decide)) (by rfl) pass0 (pa_cons (pe_cal C__law_cell_at (hr.mono (by decide)) (by rfl) pass0 (pa_cons (pv 0) (pa_cons (pv 1) pa_nil))) (pa_cons (pv 1) pa_nil))) pa_nil)))
  (pss_cons (ps_set (i := 3) sc_law.nd rfl (Or.inl rfl) (pe_cal C_is_worth (hr.mono (by decide)) (by rfl) pass0 (pa_cons (pv 2) pa_nil)))
  (pss_one (ps_if (PW.pt (pw_or (pt_not (pt_val (pe_callB call_isi (by rfl) TX.n_isinstance (by decide +kernel) (pa_cons (pv 3) (pa_cons (pe_bltn (v := .ty "bool") (by rfl) TX.n_bool (by decide +kernel) rfl) pa_nil))))) (pw_or1 (pt_cmpR op_ne (pv 3) (pe_cal C__law_is (hr.mono (by decide)) (by rfl) pass0 (pa_cons (pv 2) pa_nil)) (nomark _))))) (pss_one (ps_ret pe_bl)) pss_nil)))))
  (pss_one (ps_ret pe_bl))), ?_⟩
    refine r_begin (show L2.start _ _ = [some _, none, none, none] from rfl) ?_
    try dsimp only [cxOf]
    walk_at "rr"
    refine ⟨_, _, rfl, .inl ⟨_, hS, rfl⟩, ?_⟩
    walk_at "rr"
    refine ⟨_, _, rfl, ?_⟩
    walk_at "rr"
    refine ⟨_, _, rfl, ?_⟩
    rw [List.length_map]
    refine r_rngv (by split <;> split <;> omega) (by split <;> split <;> omega) ?_
    generalize hm : Int.toNat _ = m
    have hm' : m ≤ 63 := by
      subst hm
      split <;> split <;> omega
    refine L_range (fun j σ H' => ∃ x y z : Option V, σ = [some (.ref a), x, y, z] ∧ Same H H') ⟨none, none, none, rfl, Same.refl _⟩ ?_ ?_
    · rintro j σ H1 hj ⟨x, y, z, rfl, s1⟩
      walk_at "rr"
      refine ⟨a, ns, _, rfl, s1.seq hS, by omega, hn, fun c => ?_⟩
      walk_at "rr"
      refine ⟨c, _, rfl, by omega, by omega, fun p H2 hp s2 B2 => ?_⟩
      walk_at "rr"
      refine ⟨p, 0, rfl, B2, by omega, fun v b H3 b3 hT => ?_⟩
      have s3 : Same H1 H3 := But.back s2 hp b3
      walk_at "rr"
      refine ⟨v, b, rfl, hT, ?_⟩
      walk_at "rr"
      refine r_isi ty_bl (kit_bool _ (by decide)) ?_
      walk_at "rr"
      refine r_itF rfl ?_
      walk_at "rr"
      refine ⟨v, b, rfl, hT, ?_⟩
      walk_at "rr"
      refine r_nd (fun hc => absurd rfl hc) (fun _ => ?_)
      walk_at "rr"
      exact ⟨_, _, _, rfl, s1.trans s3⟩
    · rintro σ H1 ⟨x, y, z, rfl, s1⟩
      walk_at "rr"
      exact q _
end
theorem all_mk {l : PySem.W.OpenLaw} {w : World} {K : PySem.W.Frag} {h : Heap} {mg : Str → Option Value} {fa : Addr} {f1 f2 f3 f4 f5 f6 f7 f8 f9 f10 f11 f12 f13 f14 : Addr} (X : K.In h) (G : h.Ns mainGlobals mg) (hfa : mg "law" = some (.ref fa))
    {od1 an1 od2 an2 od3 an3 od4 an4 od5 an5 od6 an6 od7 an7 od8 an8 od9 an9 od10 an10 od11 an11 od12 an12 od13 an13 od14 an14 : Option Addr} {sl1 sl2 sl3 sl4 sl5 sl6 sl7 sl8 sl9 sl10 sl11 sl12 sl13 sl14 : Array (Option Value)} {oc1 kV1 dc1 pm1 cd1 ct1 oc2 kV2 dc2 pm2 cd2 ct2 oc3 kV3 dc3 pm3 cd3 ct3 oc4 kV4 dc4 pm4 cd4 ct4 oc5 kV5 dc5 pm5 cd5 ct5 oc6 kV6 dc6 pm6 cd6 ct6 oc7 kV7 dc7 pm7 cd7 ct7 oc8 kV8 dc8 pm8 cd8 ct8 oc9 kV9 dc9 pm9 cd9 ct9 oc10 kV10 dc10 pm10 cd10 ct10 oc11 kV11 dc11 pm11 cd11 ct11 oc12 kV12 dc12 pm12 cd12 ct12 oc13 kV13 dc13 pm13 cd13 ct13 oc14 kV14 dc14 pm14 cd14 ct14 : Value}
    (a1 : PySem.W.nsIn K mainGlobals "is_whole" = some (some (.ref f1))) (l1 : K.lookup f1 = some ⟨oc1, od1, .func (PySem.W.fnOf "is_whole" "is_whole" (defArgs s_is_whole) (defBody s_is_whole) (defScope s_is_whole) .none kV1 dc1 pm1 an1 cd1 ct1), sl1⟩) (c1 : PySem.W.codeIn K cd1 "is_whole" = true) (k1 : PySem.W.keepIn K (.ref f1) = true)
    (a2 : PySem.W.nsIn K mainGlobals "is_worth" = some (some (.ref f2))) (l2 : K.lookup f2 = some ⟨oc2, od2, .func (PySem.W.fnOf "is_worth" "is_worth" (defArgs s_is_worth) (defBody s_is_worth) (defScope s_is_worth) .none kV2 dc2 pm2 an2 cd2 ct2), sl2⟩) (c2 : PySem.W.codeIn K cd2 "is_worth" = true) (k2 : PySem.W.keepIn K (.ref f2) = true)
    (a3 : PySem.W.nsIn K mainGlobals "_law_cell_at" = some (some (.ref f3))) (l3 : K.lookup f3 = some ⟨oc3, od3, .func (PySem.W.fnOf "_law_cell_at" "_law_cell_at" (defArgs s__law_cell_at) (defBody s__law_cell_at) (defScope s__law_cell_at) .none kV3 dc3 pm3 an3 cd3 ct3), sl3⟩) (c3 : PySem.W.codeIn K cd3 "_law_cell_at" = true) (k3 : PySem.W.keepIn K (.ref f3) = true)
    (a4 : PySem.W.nsIn K mainGlobals "_law_bag" = some (some (.ref f4))) (l4 : K.lookup f4 = some ⟨oc4, od4, .func (PySem.W.fnOf "_law_bag" "_law_bag" (defArgs s__law_bag) (defBody s__law_bag) (defScope s__law_bag) .none kV4 dc4 pm4 an4 cd4 ct4), sl4⟩) (c4 : PySem.W.codeIn K cd4 "_law_bag" = true) (k4 : PySem.W.keepIn K (.ref f4) = true)
    (a5 : PySem.W.nsIn K mainGlobals "_law_draw" = some (some (.ref f5))) (l5 : K.lookup f5 = some ⟨oc5, od5, .func (PySem.W.fnOf "_law_draw" "_law_draw" (defArgs s__law_draw) (defBody s__law_draw) (defScope s__law_draw) .none kV5 dc5 pm5 an5 cd5 ct5), sl5⟩) (c5 : PySem.W.codeIn K cd5 "_law_draw" = true) (k5 : PySem.W.keepIn K (.ref f5) = true)
    (a6 : PySem.W.nsIn K mainGlobals "_law_number" = some (some (.ref f6))) (l6 : K.lookup f6 = some ⟨oc6, od6, .func (PySem.W.fnOf "_law_number" "_law_number" (defArgs s__law_number) (defBody s__law_number) (defScope s__law_number) .none kV6 dc6 pm6 an6 cd6 ct6), sl6⟩) (c6 : PySem.W.codeIn K cd6 "_law_number" = true) (k6 : PySem.W.keepIn K (.ref f6) = true)
    (a7 : PySem.W.nsIn K mainGlobals "_law_whole" = some (some (.ref f7))) (l7 : K.lookup f7 = some ⟨oc7, od7, .func (PySem.W.fnOf "_law_whole" "_law_whole" (defArgs s__law_whole) (defBody s__law_whole) (defScope s__law_whole) .none kV7 dc7 pm7 an7 cd7 ct7), sl7⟩) (c7 : PySem.W.codeIn K cd7 "_law_whole" = true) (k7 : PySem.W.keepIn K (.ref f7) = true)
    (a8 : PySem.W.nsIn K mainGlobals "_law_worth" = some (some (.ref f8))) (l8 : K.lookup f8 = some ⟨oc8, od8, .func (PySem.W.fnOf "_law_worth" "_law_worth" (defArgs s__law_worth) (defBody s__law_worth) (defScope s__law_worth) .none kV8 dc8 pm8 an8 cd8 ct8), sl8⟩) (c8 : PySem.W.codeIn K cd8 "_law_worth" = true) (k8 : PySem.W.keepIn K (.ref f8) = true)
    (a9 : PySem.W.nsIn K mainGlobals "_law_sign" = some (some (.ref f9))) (l9 : K.lookup f9 = some ⟨oc9, od9, .func (PySem.W.fnOf "_law_sign" "_law_sign" (defArgs s__law_sign) (defBody s__law_sign) (defScope s__law_sign) .none kV9 dc9 pm9 an9 cd9 ct9), sl9⟩) (c9 : PySem.W.codeIn K cd9 "_law_sign" = true) (k9 : PySem.W.keepIn K (.ref f9) = true)
    (a10 : PySem.W.nsIn K mainGlobals "_law_odd" = some (some (.ref f10))) (l10 : K.lookup f10 = some ⟨oc10, od10, .func (PySem.W.fnOf "_law_odd" "_law_odd" (defArgs s__law_odd) (defBody s__law_odd) (defScope s__law_odd) .none kV10 dc10 pm10 an10 cd10 ct10), sl10⟩) (c10 : PySem.W.codeIn K cd10 "_law_odd" = true) (k10 : PySem.W.keepIn K (.ref f10) = true)
    (a11 : PySem.W.nsIn K mainGlobals "_law_word" = some (some (.ref f11))) (l11 : K.lookup f11 = some ⟨oc11, od11, .func (PySem.W.fnOf "_law_word" "_law_word" (defArgs s__law_word) (defBody s__law_word) (defScope s__law_word) .none kV11 dc11 pm11 an11 cd11 ct11), sl11⟩) (c11 : PySem.W.codeIn K cd11 "_law_word" = true) (k11 : PySem.W.keepIn K (.ref f11) = true)
    (a12 : PySem.W.nsIn K mainGlobals "_law_thing" = some (some (.ref f12))) (l12 : K.lookup f12 = some ⟨oc12, od12, .func (PySem.W.fnOf "_law_thing" "_law_thing" (defArgs s__law_thing) (defBody s__law_thing) (defScope s__law_thing) .none kV12 dc12 pm12 an12 cd12 ct12), sl12⟩) (c12 : PySem.W.codeIn K cd12 "_law_thing" = true) (k12 : PySem.W.keepIn K (.ref f12) = true)
    (a13 : PySem.W.nsIn K mainGlobals "_law_is" = some (some (.ref f13))) (l13 : K.lookup f13 = some ⟨oc13, od13, .func (PySem.W.fnOf "_law_is" "_law_is" (defArgs s__law_is) (defBody s__law_is) (defScope s__law_is) .none kV13 dc13 pm13 an13 cd13 ct13), sl13⟩) (c13 : PySem.W.codeIn K cd13 "_law_is" = true) (k13 : PySem.W.keepIn K (.ref f13) = true)
    (a14 : PySem.W.nsIn K mainGlobals "law" = some (some (.ref f14))) (l14 : K.lookup f14 = some ⟨oc14, od14, .func (PySem.W.fnOf "law" "law" (defArgs s_law) (defBody s_law) (defScope s_law) .none kV14 dc14 pm14 an14 cd14 ct14), sl14⟩) (c14 : PySem.W.codeIn K cd14 "law" = true) (k14 : PySem.W.keepIn K (.ref f14) = true)
    (z0 : PySem.W.nsIn K mainGlobals "len" = some none) (z1 : PySem.W.nsIn K mainGlobals "isinstance" = some none) (z2 : PySem.W.nsIn K mainGlobals "range" = some none) (z3 : PySem.W.nsIn K mainGlobals "max" = some none) (z4 : PySem.W.nsIn K mainGlobals "min" = some none) (z5 : PySem.W.nsIn K mainGlobals "int" = some none) (z6 : PySem.W.nsIn K mainGlobals "bool" = some none) (z7 : PySem.W.nsIn K mainGlobals "str" = some none) (z8 : PySem.W.nsIn K mainGlobals "list" = some none) (z9 : PySem.W.nsIn K mainGlobals "tuple" = some none) (z10 : PySem.W.nsIn K mainGlobals "dict" = some none) (z11 : PySem.W.nsIn K mainGlobals "sorted" = some none) (z12 : PySem.W.nsIn K mainGlobals "sum" = some none) (z13 : PySem.W.nsIn K mainGlobals "all" = some none) (z14 : PySem.W.nsIn K mainGlobals "any" = some none) (z15 : PySem.W.nsIn K mainGlobals "enumerate" = some none) (z16 : PySem.W.nsIn K mainGlobals "zip" = some none) (z17 : PySem.W.nsIn K mainGlobals "reversed" = some none)
    {dM : Addr} {esM : Array DictEntry} {nM : Nat}
    (aM : PySem.W.nsIn K mainGlobals "MARKS" = some (some (.ref dM))) (lM : K.lookup dM = some ⟨.type "dict", none, .dict esM nM, #[]⟩) (kM : PySem.W.KeysLit w.params esM.toList) (sM : (dM == sysModules) = false) (pM : pairsS esM.toList = marks.map (fun p => (some p.1, some p.2)))
    : ∃ fd : FuncData, (∀ (s : Shared) (v : Value), BindsTo s fd ⟨[v], []⟩ [("script", v)]) ∧ ∀ base : Heap, K.In base → base.Ns mainGlobals mg → FnOk l.prog w K mg base CX0 5 fa fd ["script"] (sp_law K) := by
  have e := hfa.symm.trans (PySem.W.mg_of X G a14)
  cases e
  have F1 := fun_mk (st := s_is_whole) l1 c1 k1
  have b1 := F1.binds (ps := ["thing"]) fun _ _ _ _ _ _ us hl => match us, hl with | [_], _ => rfl
  have F2 := fun_mk (st := s_is_worth) l2 c2 k2
  have b2 := F2.binds (ps := ["thing"]) fun _ _ _ _ _ _ us hl => match us, hl with | [_], _ => rfl
  have F3 := fun_mk (st := s__law_cell_at) l3 c3 k3
  have b3 := F3.binds (ps := ["script", "k"]) fun _ _ _ _ _ _ us hl => match us, hl with | [_, _], _ => rfl
  have F4 := fun_mk (st := s__law_bag) l4 c4 k4
  have b4 := F4.binds (ps := ["cell", "place"]) fun _ _ _ _ _ _ us hl => match us, hl with | [_, _], _ => rfl
  have F5 := fun_mk (st := s__law_draw) l5 c5 k5
  have b5 := F5.binds (ps := ["bag", "many"]) fun _ _ _ _ _ _ us hl => match us, hl with | [_, _], _ => rfl
  have F6 := fun_mk (st := s__law_number) l6 c6 k6
  have b6 := F6.binds (ps := ["bag"]) fun _ _ _ _ _ _ us hl => match us, hl with | [_], _ => rfl
  have F7 := fun_mk (st := s__law_whole) l7 c7 k7
  have b7 := F7.binds (ps := ["found"]) fun _ _ _ _ _ _ us hl => match us, hl with | [_], _ => rfl
  have F8 := fun_mk (st := s__law_worth) l8 c8 k8
  have b8 := F8.binds (ps := ["bag"]) fun _ _ _ _ _ _ us hl => match us, hl with | [_], _ => rfl
  have F9 := fun_mk (st := s__law_sign) l9 c9 k9
  have b9 := F9.binds (ps := ["bag"]) fun _ _ _ _ _ _ us hl => match us, hl with | [_], _ => rfl
  have F10 := fun_mk (st := s__law_odd) l10 c10 k10
  have b10 := F10.binds (ps := ["bag"]) fun _ _ _ _ _ _ us hl => match us, hl with | [_], _ => rfl
  have F11 := fun_mk (st := s__law_word) l11 c11 k11
  have b11 := F11.binds (ps := ["word", "way", "at", "sign"]) fun _ _ _ _ _ _ us hl => match us, hl with | [_, _, _, _], _ => rfl
  have F12 := fun_mk (st := s__law_thing) l12 c12 k12
  have b12 := F12.binds (ps := ["bag"]) fun _ _ _ _ _ _ us hl => match us, hl with | [_], _ => rfl
  have F13 := fun_mk (st := s__law_is) l13 c13 k13
  have b13 := F13.binds (ps := ["thing"]) fun _ _ _ _ _ _ us hl => match us, hl with | [_], _ => rfl
  have F14 := fun_mk (st := s_law) l14 c14 k14
  have TX : Tx mg := ⟨PySem.W.mg_none_of X G z0, PySem.W.mg_none_of X G z1, PySem.W.mg_none_of X G z2, PySem.W.mg_none_of X G z3, PySem.W.mg_none_of X G z4, PySem.W.mg_none_of X G z5, PySem.W.mg_none_of X G z6, PySem.W.mg_none_of X G z7, PySem.W.mg_none_of X G z8, PySem.W.mg_none_of X G z9, PySem.W.mg_none_of X G z10, PySem.W.mg_none_of X G z11, PySem.W.mg_none_of X G z12, PySem.W.mg_none_of X G z13, PySem.W.mg_none_of X G z14, PySem.W.mg_none_of X G z15, PySem.W.mg_none_of X G z16, PySem.W.mg_none_of X G z17⟩
  have d_MARKS : KDict K w dM esM nM := ⟨lM, kM, sM⟩
  have g_MARKS : mg "MARKS" = some (.ref dM) := PySem.W.mg_of X G aM
  have m_MARKS := nsIn_pairs lM pM
  refine ⟨PySem.W.fnOf "law" "law" (defArgs s_law) (defBody s_law) (defScope s_law) .none kV14 dc14 pm14 an14 cd14 ct14, fun s v => .of_eq rfl, fun base _ _ => ?_⟩
  have C_is_whole := Cal.of (ok_is_whole (P := l.prog) (w := w) (K := K) (mg := mg) (base := base) F1 TX) b1 k1 (PySem.W.mg_of X G a1)
  have C_is_worth := Cal.of (ok_is_worth (P := l.prog) (w := w) (K := K) (mg := mg) (base := base) F2 TX C_is_whole d_MARKS g_MARKS m_MARKS) b2 k2 (PySem.W.mg_of X G a2)
  have C__law_cell_at := Cal.of (ok__law_cell_at (P := l.prog) (w := w) (K := K) (mg := mg) (base := base) F3 TX) b3 k3 (PySem.W.mg_of X G a3)
  have C__law_bag := Cal.of (ok__law_bag (P := l.prog) (w := w) (K := K) (mg := mg) (base := base) F4 TX) b4 k4 (PySem.W.mg_of X G a4)
  have C__law_draw := Cal.of (ok__law_draw (P := l.prog) (w := w) (K := K) (mg := mg) (base := base) F5 TX) b5 k5 (PySem.W.mg_of X G a5)
  have C__law_number := Cal.of (ok__law_number (P := l.prog) (w := w) (K := K) (mg := mg) (base := base) F6 TX C__law_draw) b6 k6 (PySem.W.mg_of X G a6)
  have C__law_whole := Cal.of (ok__law_whole (P := l.prog) (w := w) (K := K) (mg := mg) (base := base) F7 TX) b7 k7 (PySem.W.mg_of X G a7)
  have C__law_worth := Cal.of (ok__law_worth (P := l.prog) (w := w) (K := K) (mg := mg) (base := base) F8 TX C__law_draw C__law_number) b8 k8 (PySem.W.mg_of X G a8)
  have C__law_sign := Cal.of (ok__law_sign (P := l.prog) (w := w) (K := K) (mg := mg) (base := base) F9 TX C__law_draw) b9 k9 (PySem.W.mg_of X G a9)
  have C__law_odd := Cal.of (ok__law_odd (P := l.prog) (w := w) (K := K) (mg := mg) (base := base) F10 TX C__law_draw) b10 k10 (PySem.W.mg_of X G a10)
  have C__law_word := Cal.of (ok__law_word (P := l.prog) (w := w) (K := K) (mg := mg) (base := base) F11 TX) b11 k11 (PySem.W.mg_of X G a11)
  have C__law_thing := Cal.of (ok__law_thing (P := l.prog) (w := w) (K := K) (mg := mg) (base := base) F12 TX C__law_draw C__law_odd C__law_sign C__law_word C__law_worth) b12 k12 (PySem.W.mg_of X G a12)
  have C__law_is := Cal.of (ok__law_is (P := l.prog) (w := w) (K := K) (mg := mg) (base := base) F13 TX C__law_whole) b13 k13 (PySem.W.mg_of X G a13)
  exact ok_law F14 TX C__law_bag C__law_cell_at C__law_is C__law_thing C_is_worth
end Q
open PySem PySem.W PyProof.Rows
set_option maxHeartbeats 0 in
theorem PySem.Challenge.cw_manygoings_k01_what_is_a_worth_holds : PySem.Challenge.rw_manygoings_k01_what_is_a_worth.Holds := by
  w_on; o_law; k_head; (case hw => w_witness2)
  k_fill
  refine L2.walk_ofB (l := PySem.Challenge.rw_manygoings_k01_what_is_a_worth) (n := 63) (k := 5) (x := "script") (CX := fun _ => L2.CX0) (sp := fun w => Q.sp_law _) rfl (by decide) rfl ⟨rfl, by decide, by decide⟩ (fun w h Y => PySem.W.kIn_of Y) ?F (fun _ _ a ns hl hb _ hS => ⟨a, ns, rfl, hS, hl, hb, fun _ => rfl⟩) (fun _ _ _ _ _ h => h)
  case F =>
    intro w mg fa h KX G hmg
    refine' Q.all_mk KX G hmg ?a1 ?l1 ?c1 ?k1 ?a2 ?l2 ?c2 ?k2 ?a3 ?l3 ?c3 ?k3 ?a4 ?l4 ?c4 ?k4 ?a5 ?l5 ?c5 ?k5 ?a6 ?l6 ?c6 ?k6 ?a7 ?l7 ?c7 ?k7 ?a8 ?l8 ?c8 ?k8 ?a9 ?l9 ?c9 ?k9 ?a10 ?l10 ?c10 ?k10 ?a11 ?l11 ?c11 ?k11 ?a12 ?l12 ?c12 ?k12 ?a13 ?l13 ?c13 ?k13 ?a14 ?l14 ?c14 ?k14 ?z0 ?z1 ?z2 ?z3 ?z4 ?z5 ?z6 ?z7 ?z8 ?z9 ?z10 ?z11 ?z12 ?z13 ?z14 ?z15 ?z16 ?z17 ?aM ?lM ?kM ?sM ?pM
    (case a1 => k_is)
    (case l1 => k_is)
    (case c1 => k_is)
    (case k1 => k_is)
    (case a2 => k_is)
    (case l2 => k_is)
    (case c2 => k_is)
    (case k2 => k_is)
    (case a3 => k_is)
    (case l3 => k_is)
    (case c3 => k_is)
    (case k3 => k_is)
    (case a4 => k_is)
    (case l4 => k_is)
    (case c4 => k_is)
    (case k4 => k_is)
    (case a5 => k_is)
    (case l5 => k_is)
    (case c5 => k_is)
    (case k5 => k_is)
    (case a6 => k_is)
    (case l6 => k_is)
    (case c6 => k_is)
    (case k6 => k_is)
    (case a7 => k_is)
    (case l7 => k_is)
    (case c7 => k_is)
    (case k7 => k_is)
    (case a8 => k_is)
    (case l8 => k_is)
    (case c8 => k_is)
    (case k8 => k_is)
    (case a9 => k_is)
    (case l9 => k_is)
    (case c9 => k_is)
    (case k9 => k_is)
    (case a10 => k_is)
    (case l10 => k_is)
    (case c10 => k_is)
    (case k10 => k_is)
    (case a11 => k_is)
    (case l11 => k_is)
    (case c11 => k_is)
    (case k11 => k_is)
    (case a12 => k_is)
    (case l12 => k_is)
    (case c12 => k_is)
    (case k12 => k_is)
    (case a13 => k_is)
    (case l13 => k_is)
    (case c13 => k_is)
    (case k13 => k_is)
    (case a14 => k_is)
    (case l14 => k_is)
    (case c14 => k_is)
    (case k14 => k_is)
    (case z0 => k_is)
    (case z1 => k_is)
    (case z2 => k_is)
    (case z3 => k_is)
    (case z4 => k_is)
    (case z5 => k_is)
    (case z6 => k_is)
    (case z7 => k_is)
    (case z8 => k_is)
    (case z9 => k_is)
    (case z10 => k_is)
    (case z11 => k_is)
    (case z12 => k_is)
    (case z13 => k_is)
    (case z14 => k_is)
    (case z15 => k_is)
    (case z16 => k_is)
    (case z17 => k_is)
    (case aM => k_is)
    (case lM => k_is)
    (case kM => k_keys)
    (case sM => decide +kernel)
    (case pM => rfl)
