import PyProof.Rows.All
import Wide.All
import OpenK.AllK
import Wide.FinOn
import HandS.ForMost
import HandS.IsInst
import HandS.Deep
import HandS.TupLe
import HandS.TupSets
import HandS.Zip
import HandS.Walk
import HandS.Style
import HandS.Wide
import HandS.Strs
import HandS.SetFor
import HandS.Conv
import HandS.More
import HandS.CallRecv
import HandS.SortInts
import PySem.Challenge.RW_touchall_k33_whole_chains_as_long_as_str
import KE.KStateDown
import Lean
import HandS.Exc
import HandS.WordsExc
import HandS.Defaults
import HandS.Head0
import HandS.Head1
import HandS.Head2
import HandS.HeadEnd
import HandS.HeadHook1
import HandS.HeadHook2
set_option Elab.async false
set_option linter.all false
set_option maxRecDepth 100000
set_option maxHeartbeats 4000000

/-! K0: readings step by step, frames of the abstract heap, tables of tuples. -/
namespace K33
open PySem L2

/-! ### frames -/
theorem sm_new {H : Hp} {p : Addr} {o : HO} (h : H p = none) : Same H (upd H p o) := fun a u e => by
  rw [upd_ne (ne_of_none e h)]
  exact e
theorem sm_mut {H H' : Hp} {p : Addr} {o : HO} (e : Same H H') (h : H p = none) : Same H (upd H' p o) := fun a u ha => by
  rw [upd_ne (ne_of_none ha h)]
  exact e a u ha
theorem sm_none {H H' : Hp} {p : Addr} (e : Same H H') (h : H' p = none) : H p = none := e.free h
theorem sm_rd {H H' : Hp} {a : Addr} {u : HO} (e : Same H H') (h : Rd H a u) : Rd H' a u := by
  rcases h with h | ⟨o, h⟩
  · exact Or.inl (e a _ h)
  · exact Or.inr ⟨o, e a _ h⟩
theorem sm_t {K : PySem.W.Frag} {H H' : Hp} {a : Addr} {xs : List V} (e : Same H H') (h : SqT K H a xs) : SqT K H' a xs := by
  rcases h with h | h
  · exact Or.inl (sm_rd e h)
  · exact Or.inr h
theorem _root_.L2.Same.at' {H H' : Hp} {a : Addr} {o : HO} (s : Same H H') (h : H a = some o) : H' a = some o := s a o h
theorem sz_of {n : Nat} (h : n ≤ 100000) : n ≤ sizeLine := Nat.le_trans h (by decide)
theorem sz_lt {n : Nat} (h : n < 100000) : n < sizeLine := Nat.lt_of_lt_of_le h (by decide)

theorem kII : kitB "int" "int" = some true := by decide +kernel
theorem kIB : kitB "int" "bool" = some false := by decide +kernel
theorem kSS : kitB "str" "str" = some true := by decide +kernel
theorem kBB : kitB "bool" "bool" = some true := by decide +kernel
theorem kTT : kitB "tuple" "tuple" = some true := by decide +kernel
theorem kLL : kitB "list" "list" = some true := by decide +kernel
/-! ### readings, one lemma a construct -/
section
variable {K : PySem.W.Frag} {σ : L2.St} {H : Hp} {ta tb tc te tx : TE} {t u : TT} {x y z v : V} {r r' : R2} {Q : VK} {D : Ends} {ts us : TS} {al : TA} {i : Nat}
theorem r_var (h : σ[i]? = some (some v)) (q : Q v H) : tVar i σ H Q := ⟨v, h, q⟩
theorem r_c (q : Q v H) : tC v σ H Q := q
theorem r_op (h : ta σ H fun x H1 => tb σ H1 fun y H2 => r x y H2 Q) : tOp r ta tb σ H Q := h
theorem r_un {r : V → Hp → VK → Prop} (h : ta σ H fun x H1 => r x H1 Q) : tUn r ta σ H Q := h
theorem r_I0 {g : Int → Int → V} {i j : Int} (q : Q (g i j) H) : rI0 g (.int i) (.int j) H Q := ⟨i, j, rfl, rfl, q⟩
theorem r_I {C : Int → Int → Prop} {g : Int → Int → V} {i j : Int} (c : C i j) (q : Q (g i j) H) : rI C g (.int i) (.int j) H Q := ⟨i, j, rfl, rfl, c, q⟩
theorem r_eqI {i j : Int} (q : Q (.bl (decide (i = j))) H) : rEq (.int i) (.int j) H Q := ⟨rfl, by
  have e : decide (V.int i = V.int j) = decide (i = j) := by simp
  rw [e]; exact q⟩
theorem r_neI {i j : Int} (q : Q (.bl (!decide (i = j))) H) : rNe (.int i) (.int j) H Q := ⟨rfl, by
  have e : decide (V.int i = V.int j) = decide (i = j) := by simp
  rw [e]; exact q⟩
theorem r_eqS {i j : Str} (q : Q (.bl (decide (i = j))) H) : rEq (.str i) (.str j) H Q := ⟨rfl, by
  have e : decide (V.str i = V.str j) = decide (i = j) := by simp
  rw [e]; exact q⟩
theorem r_neS {i j : Str} (q : Q (.bl (!decide (i = j))) H) : rNe (.str i) (.str j) H Q := ⟨rfl, by
  have e : decide (V.str i = V.str j) = decide (i = j) := by simp
  rw [e]; exact q⟩
theorem r_neB {i j : Bool} (q : Q (.bl (!decide (i = j))) H) : rNe (.bl i) (.bl j) H Q := ⟨rfl, by
  have e : decide (V.bl i = V.bl j) = decide (i = j) := by simp
  rw [e]; exact q⟩
theorem r_isB {i j : Bool} (q : Q (.bl (decide (i = j))) H) : rIsB (.bl i) (.bl j) H Q := ⟨i, j, rfl, rfl, q⟩
theorem r_notB {i j : Bool} (q : Q (.bl (!decide (i = j))) H) : rNotB (.bl i) (.bl j) H Q := ⟨i, j, rfl, rfl, q⟩
theorem r_B {q : Bool → Hp → Prop} (h : te σ H fun x H1 => ∃ c, x = .bl c ∧ q c H1) : tB te σ H q := h
theorem r_test {q : Bool → Hp → Prop} (h : te σ H fun x H1 => ∃ c, x = .bl c ∧ q c H1) : tTest te σ H q := h
theorem r_exb {q : Bool → Hp → Prop} {b : Bool} (h : q b H) : ∃ c, V.bl b = V.bl c ∧ q c H := ⟨b, rfl, h⟩
theorem r_chain (h : ta σ H fun x H1 => tb σ H1 fun y H2 => r x y H2 fun z H3 => ∃ k, z = .bl k ∧ (if k = true then tc σ H3 fun w' H4 => r' y w' H4 Q else Q (.bl false) H3)) : tChain r r' ta tb tc σ H Q := h
theorem r_and {q : Bool → Hp → Prop} (h : t σ H fun c H1 => if c = true then u σ H1 q else q false H1) : tAnd t u σ H q := h
theorem r_or {q : Bool → Hp → Prop} (h : t σ H fun c H1 => if c = true then q true H1 else u σ H1 q) : tOr t u σ H q := h
theorem r_not {q : Bool → Hp → Prop} (h : t σ H fun c H1 => q (!c) H1) : tNot t σ H q := h
theorem r_andV (h : ta σ H fun x H1 => ∃ c, x = .bl c ∧ if c = true then tb σ H1 Q else Q (.bl false) H1) : tAndV ta tb σ H Q := h
theorem r_orV (h : ta σ H fun x H1 => ∃ c, x = .bl c ∧ if c = true then Q (.bl true) H1 else tb σ H1 Q) : tOrV ta tb σ H Q := h
theorem r_notV (h : ta σ H fun x H1 => ∃ c, x = .bl c ∧ Q (.bl (!c)) H1) : tNotV ta σ H Q := h
theorem r_exb2 {q : Bool → Prop} {b : Bool} (h : q b) : ∃ c, V.bl b = V.bl c ∧ q c := ⟨b, rfl, h⟩
theorem r_isN (h : ta σ H fun x H1 => Q (.bl (decide (x = .non))) H1) : tIsN ta σ H Q := h
theorem r_notN (h : ta σ H fun x H1 => Q (.bl (!decide (x = .non))) H1) : tNotN ta σ H Q := h
theorem r_nil {q : List V → Hp → Prop} (h : q [] H) : tNil σ H q := h
theorem r_cons {q : List V → Hp → Prop} (h : ta σ H fun x H1 => al σ H1 fun xs H2 => q (x :: xs) H2) : tCons ta al σ H q := h
theorem r_call {sp : Sp} {dvs : List V} {E : XK} (h : al σ H fun vs H1 => sp (vs ++ dvs) H1 Q E) : tCall sp dvs E al σ H Q := h
theorem r_CB {r : List V → Hp → VK → Prop} (h : al σ H fun vs H1 => r vs H1 Q) : tCB r al σ H Q := h
theorem r_fld {f : Str} (h : ta σ H fun x H1 => ∃ a C dx fs v, x = .ref a ∧ H1 a = some (.ins C dx fs) ∧ Cls K C ∧ NoAttr K C f ∧ fs.lookup f = some v ∧ Q v H1) : tFld K ta f σ H Q := h
theorem r_exf {B : V → Prop} {a C dx : Addr} {fs : List (Str × V)} {f : Str} (ho : H a = some (.ins C dx fs)) (c : Cls K C) (n : NoAttr K C f) (l : fs.lookup f = some v) (q : B v) :
    ∃ a' C dx fs v, V.ref a = .ref a' ∧ H a' = some (.ins C dx fs) ∧ Cls K C ∧ NoAttr K C f ∧ fs.lookup f = some v ∧ B v := ⟨a, C, dx, fs, v, rfl, ho, c, n, l, q⟩
/-- a new object o: what follows -/
def New (H : Hp) (o : HO) (Q : VK) : Prop := ∀ p, H p = none → Q (.ref p) (upd H p o)
theorem r_tup (h : al σ H fun xs H1 => xs.length ≤ sizeLine ∧ New H1 (.tup xs) Q) : tTup al σ H Q := h
theorem r_lst (h : al σ H fun xs H1 => xs.length ≤ sizeLine ∧ New H1 (.lst xs) Q) : tLst al σ H Q := h
theorem r_ixL {p : Addr} {xs : List V} {k : Int} (h : SqL K H p xs) (e : atI xs k = some v) (q : Q v H) : rIxL K (.ref p) (.int k) H Q := ⟨p, xs, k, v, rfl, rfl, h, e, q⟩
theorem r_ixT {p : Addr} {xs : List V} {k : Int} (h : SqT K H p xs) (e : atI xs k = some v) (q : Q v H) : rIxT K (.ref p) (.int k) H Q := ⟨p, xs, k, v, rfl, rfl, h, e, q⟩
/-! statements -/
theorem r_seq (h : ts { D with nx := us D } σ H) : tSeq ts us D σ H := h
theorem r_if (h : t σ H fun b H1 => if b = true then ts D σ H1 else us D σ H1) : tIfS t ts us D σ H := h
theorem r_asg {g : TG} (h : te σ H fun x H1 => g x σ H1 D.nx) : tAsg te g D σ H := h
theorem r_name {q : L2.St → Hp → Prop} (h : q (σ.set i (some v)) H) : gName i v σ H q := h
theorem r_drop (h : te σ H fun _ H1 => D.nx σ H1) : tDrop te D σ H := h
theorem r_ret (h : te σ H D.rt) : tRet te D σ H := h
theorem r_retN (h : D.rt .non H) : tRetN D σ H := h
theorem r_next (h : D.nx σ H) : tNext D σ H := h
theorem r_cont (h : D.ct σ H) : tCont D σ H := h
theorem r_bm {T : String} {r : V → List V → Hp → VK → Prop} (h : ta σ H fun x H1 => tyV K T x H1 ∧ al σ H1 fun xs H2 => r x xs H2 Q) : tBM K T r ta al σ H Q := h
theorem r_gtup {n : Nat} {g : TGs} {q : L2.St → Hp → Prop} {a : Addr} {xs : List V} (h : SqT K H a xs) (l : xs.length = n) (k : g xs σ H q) : gTup K n g (.ref a) σ H q := ⟨a, xs, rfl, h, l, k⟩
theorem r_gcons {g : TG} {gs : TGs} {q : L2.St → Hp → Prop} {vs : List V} (h : g v σ H fun σ' H' => gs vs σ' H' q) : gCons g gs (v :: vs) σ H q := ⟨v, vs, rfl, h⟩
theorem r_gnil {q : L2.St → Hp → Prop} (h : q σ H) : gNil [] σ H q := ⟨rfl, h⟩
theorem r_iteT {A B : Prop} (h : A) : if true = true then A else B := iteT h
theorem r_iteF {A B : Prop} (h : B) : if false = true then A else B := iteF h
theorem r_iteP {A B : Prop} {c : Bool} (hc : c = true) (h : A) : if c = true then A else B := by rw [if_pos hc]; exact h
theorem r_iteN {A B : Prop} {c : Bool} (hc : c = false) (h : B) : if c = true then A else B := by rw [hc]; exact iteF h
theorem r_ite {A B : Prop} {c : Bool} (h1 : c = true → A) (h2 : c = false → B) : if c = true then A else B := by
  cases c with
  | true => exact iteT (h1 rfl)
  | false => exact iteF (h2 rfl)
theorem r_len1 {p : Addr} {ys : List V} {r : Hp → VK → Prop} (h : SqL K H p ys ∨ SqT K H p ys) (q : Q (.int ys.length) H) :
    ∃ p' ys', ([.ref p] : List V) = [.ref p'] ∧ (SqL K H p' ys' ∨ SqT K H p' ys') ∧ Q (.int (List.length ys')) H := ⟨p, ys, rfl, h, q⟩
theorem r_min2 {i j : Int} (q : Q (.int (if j < i then j else i)) H) : ∃ i' j', ([.int i, .int j] : List V) = [.int i', .int j'] ∧ Q (.int (if j' < i' then j' else i')) H := ⟨i, j, rfl, q⟩
theorem r_max2 {i j : Int} (q : Q (.int (if j > i then j else i)) H) : ∃ i' j', ([.int i, .int j] : List V) = [.int i', .int j'] ∧ Q (.int (if j' > i' then j' else i')) H := ⟨i, j, rfl, q⟩
theorem r_neg {i : Int} (q : Q (.int (-i)) H) : rU (fun i => V.int (-i)) (.int i) H Q := ⟨i, rfl, q⟩
theorem r_new {o : HO} (h : ∀ p H1, H p = none → Same H H1 → H1 p = some o → Q (.ref p) H1) : New H o Q := fun p hp => h p _ hp (sm_new hp) upd_same
theorem r_tlen {n : Nat} {B : Prop} (h : n ≤ 100000) (q : B) : n ≤ sizeLine ∧ B := ⟨sz_of h, q⟩
theorem r_exb3 {q : Bool → Prop} {b b' : Bool} (e : b = b') (h : q b') : ∃ c, V.bl b = V.bl c ∧ q c := ⟨b', by rw [e], h⟩
theorem r_isi {a b : String} {k : Bool} (hx : TyX K H x (.type a)) (hk : kitB a b = some k) (q : Q (.bl k) H) : rIsi K [x, .ty b] H Q := ⟨x, .ty b, .type a, .type b, k, rfl, .ty b, hx, kit_ty hk, q⟩
theorem r_fin {b : Bool} (e : b = true) (k : Q (.bl true) H) : Q (.bl b) H := by rw [e]; exact k
theorem r_finF {b : Bool} (e : b = false) (k : Q (.bl false) H) : Q (.bl b) H := by rw [e]; exact k
end
/-! loops -/
section
variable {K : PySem.W.Frag} {σ : L2.St} {H : Hp} {te : TE} {al : TA} {g : TG} {tb : TS} {D : Ends} {R : It → Hp → Prop} {l : Addr} {xs ys : List V}
def LoopP (J : It) (g : TG) (tb : TS) (D : Ends) (σ : L2.St) (H1 : Hp) : Prop := ∃ W : Nat → Nat → L2.St → Hp → Prop, (∃ m, W 0 m σ H1) ∧ ∀ i m σ H, W i m σ H →
      (J.stop i H ∧ D.nx σ H) ∨ (J.go i H ∧ ∃ N : L2.St → Hp → Prop, (∀ σ' H', N σ' H' → ∃ m', m' < m ∧ W (i + 1) m' σ' H') ∧ ∀ x H', J.yld i H x H' → g x σ H' fun σ2 H2 => tb { D with nx := N, ct := N, bk := D.nx } σ2 H2)
theorem r_for {wi : TI} (h : wi σ H fun J H1 => LoopP J g tb D σ H1) : tFor wi g tb D σ H := h
theorem r_iEnum (h : al σ H fun vs H1 => ∃ a xs, vs = [.ref a] ∧ SqL K H1 a xs ∧ R (Ite K a) H1) : iEnum K al σ H R := h
theorem r_iList (h : te σ H fun x H1 => ∃ a, x = .ref a ∧ (∃ xs, SqL K H1 a xs) ∧ R (Itl K a) H1) : iList K te σ H R := h
theorem r_iTup (h : te σ H fun x H1 => ∃ a, x = .ref a ∧ (∃ xs, SqT K H1 a xs) ∧ R (Itt K a) H1) : iTup K te σ H R := h
theorem r_iZip (h : al σ H fun vs H1 => ∃ a b xs ys, vs = [.ref a, .ref b] ∧ SqL K H1 a xs ∧ SqL K H1 b ys ∧ R (Itz K a b) H1) : iZip K al σ H R := h
theorem r_iRng1 (h : al σ H fun vs H1 => ∃ j : Int, vs = [.int j] ∧ -(2 ^ 62) ≤ j ∧ j < 2 ^ 62 ∧ R (Itr 0 j.toNat) H1) : iRng1 al σ H R := h
theorem r_iRng2 (h : al σ H fun vs H1 => ∃ i j : Int, vs = [.int i, .int j] ∧ (-(2 ^ 62) ≤ i ∧ i < 2 ^ 62 ∧ -(2 ^ 62) ≤ j ∧ j < 2 ^ 62) ∧ R (Itr i (j - i).toNat) H1) : iRng2 al σ H R := h
/-- for i, x in enumerate(list) -/
theorem l_enum (Pv : Nat → L2.St → Hp → Prop) (hl : H l = some (.lst xs)) (h0 : Pv 0 σ H) (hq : ∀ i σ H, i ≤ xs.length → Pv i σ H → H l = some (.lst xs))
    (hs : ∀ (i : Nat) x T σ H1 H2, xs[i]? = some x → Pv i σ H1 → H1 T = none → Same H1 H2 → H2 T = some (.tup [.int (i : Nat), x]) → g (.ref T) σ H2 fun σ2 H3 => tb { D with nx := Pv (i + 1), ct := Pv (i + 1), bk := D.nx } σ2 H3)
    (hd : ∀ σ H, Pv xs.length σ H → D.nx σ H) : ∃ a ys, ([V.ref l] : List V) = [.ref a] ∧ SqL K H a ys ∧ LoopP (Ite K a) g tb D σ H :=
  ⟨l, xs, rfl, SqL.of hl, for_it (walk_enum (K := K) (a := l) (xs := xs)) Pv h0 (fun i σ H hi p => SqL.of (hq i σ H hi p)) (fun i x σ H H' hi p y => by
    obtain ⟨T, a, b, rfl, hT, rfl, e1, e2⟩ := y
    have e1 : some (V.int (i : Nat)) = some a := e1
    cases e1
    exact hs i b T σ H _ e2 p hT (sm_new hT) upd_same) hd⟩
/-- for x in list -/
theorem l_list (Pv : Nat → L2.St → Hp → Prop) (hl : H l = some (.lst xs)) (h0 : Pv 0 σ H) (hq : ∀ i σ H, i ≤ xs.length → Pv i σ H → H l = some (.lst xs))
    (hs : ∀ (i : Nat) x σ H, xs[i]? = some x → Pv i σ H → g x σ H fun σ2 H3 => tb { D with nx := Pv (i + 1), ct := Pv (i + 1), bk := D.nx } σ2 H3)
    (hd : ∀ σ H, Pv xs.length σ H → D.nx σ H) : ∃ a, V.ref l = .ref a ∧ (∃ ys, SqL K H a ys) ∧ LoopP (Itl K a) g tb D σ H :=
  ⟨l, rfl, ⟨xs, SqL.of hl⟩, for_list (K := K) (a := l) (xs := xs) Pv h0 (fun i σ H hi p => SqL.of (hq i σ H hi p)) hs hd⟩
theorem l_tup (Pv : Nat → L2.St → Hp → Prop) (hl : H l = some (.tup xs)) (h0 : Pv 0 σ H) (hq : ∀ i σ H, i ≤ xs.length → Pv i σ H → H l = some (.tup xs))
    (hs : ∀ (i : Nat) x σ H, xs[i]? = some x → Pv i σ H → g x σ H fun σ2 H3 => tb { D with nx := Pv (i + 1), ct := Pv (i + 1), bk := D.nx } σ2 H3)
    (hd : ∀ σ H, Pv xs.length σ H → D.nx σ H) : ∃ a, V.ref l = .ref a ∧ (∃ ys, SqT K H a ys) ∧ LoopP (Itt K a) g tb D σ H :=
  ⟨l, rfl, ⟨xs, SqT.of hl⟩, for_tup (K := K) (a := l) (xs := xs) Pv h0 (fun i σ H hi p => SqT.of (hq i σ H hi p)) hs hd⟩
theorem l_zip {m : Addr} (Pv : Nat → L2.St → Hp → Prop) (hl : H l = some (.lst xs)) (hm : H m = some (.lst ys)) (hz : xs.length = ys.length) (h0 : Pv 0 σ H) (hq : ∀ i σ H, i ≤ xs.length → Pv i σ H → H l = some (.lst xs) ∧ H m = some (.lst ys))
    (hs : ∀ (i : Nat) x y T σ H1 H2, xs[i]? = some x → ys[i]? = some y → Pv i σ H1 → H1 T = none → Same H1 H2 → H2 T = some (.tup [x, y]) → g (.ref T) σ H2 fun σ2 H3 => tb { D with nx := Pv (i + 1), ct := Pv (i + 1), bk := D.nx } σ2 H3)
    (hd : ∀ σ H, Pv xs.length σ H → D.nx σ H) : ∃ a b us ws, ([V.ref l, V.ref m] : List V) = [.ref a, .ref b] ∧ SqL K H a us ∧ SqL K H b ws ∧ LoopP (Itz K a b) g tb D σ H :=
  ⟨l, m, xs, ys, rfl, SqL.of hl, SqL.of hm, for_it (walk_zip (K := K) (a := l) (b := m) (xs := xs) (ys := ys) (n := xs.length) (by omega)) Pv h0 (fun i σ H hi p => ⟨SqL.of (hq i σ H hi p).1, SqL.of (hq i σ H hi p).2⟩) (fun i x σ H H' hi p y => by
    obtain ⟨T, a, b, rfl, hT, rfl, e1, e2⟩ := y
    exact hs i a b T σ H _ e1 e2 p hT (sm_new hT) upd_same) hd⟩
theorem l_rng1 {n : Int} (Pv : Nat → L2.St → Hp → Prop) (hn : n ≤ 1000000) (h0 : Pv 0 σ H) (hn0 : 0 ≤ n)
    (hs : ∀ (i : Nat) σ H, (i : Int) < n → Pv i σ H → g (.int (i : Nat)) σ H fun σ2 H3 => tb { D with nx := Pv (i + 1), ct := Pv (i + 1), bk := D.nx } σ2 H3)
    (hd : ∀ σ H, Pv n.toNat σ H → D.nx σ H) : ∃ j : Int, ([V.int n] : List V) = [.int j] ∧ -(2 ^ 62) ≤ j ∧ j < 2 ^ 62 ∧ LoopP (Itr 0 j.toNat) g tb D σ H :=
  ⟨n, rfl, by omega, by omega, for_range (lo := 0) (n := n.toNat) Pv h0 (fun i σ H hi p => by
    rw [Int.zero_add]
    exact hs i σ H (by omega) p) hd⟩
theorem l_rng2 {lo n : Int} (Pv : Nat → L2.St → Hp → Prop) (hl : 0 ≤ lo ∧ lo ≤ 1000) (hn : -1000 ≤ n ∧ n ≤ 1000000) (h0 : Pv 0 σ H)
    (hs : ∀ (i : Nat) σ H, lo + (i : Int) < n → Pv i σ H → g (.int (lo + (i : Nat))) σ H fun σ2 H3 => tb { D with nx := Pv (i + 1), ct := Pv (i + 1), bk := D.nx } σ2 H3)
    (hd : ∀ σ H, Pv (n - lo).toNat σ H → D.nx σ H) : ∃ i j : Int, ([V.int lo, V.int n] : List V) = [.int i, .int j] ∧ (-(2 ^ 62) ≤ i ∧ i < 2 ^ 62 ∧ -(2 ^ 62) ≤ j ∧ j < 2 ^ 62) ∧ LoopP (Itr i (j - i).toNat) g tb D σ H :=
  ⟨lo, n, rfl, ⟨by omega, by omega, by omega, by omega⟩, for_range (lo := lo) (n := (n - lo).toNat) Pv h0 (fun i σ H hi p => hs i σ H (by omega) p) hd⟩
/-! comprehensions -/
def CompP (J : It) (g : TG) (tt : TT) (te : TE) (vs : List Nat) (σ : L2.St) (H1 : Hp) (Q : VK) : Prop := ∀ D, H1 D = none → ∃ W : Nat → Nat → Hp → Prop, (∃ m, W 0 m (upd H1 D (.lst []))) ∧ ∀ i m H, W i m H →
      (J.stop i H ∧ Q (.ref D) H) ∨ (J.go i H ∧ ∃ Nx : Hp → Prop, (∀ H', Nx H' → ∃ m', m' < m ∧ W (i + 1) m' H') ∧ ∀ x H', J.yld i H x H' → g x (wipe σ vs) H' fun σ2 H2 => wipe σ2 vs = wipe σ vs ∧ tt σ2 H2 fun b H3 =>
        if b = true then te σ2 H3 fun y H4 => ∃ acc, H4 D = some (.lst acc) ∧ acc.length < sizeLine ∧ Nx (upd H4 D (.lst (acc ++ [y]))) else Nx H3)
theorem r_lc {wi : TI} {tt : TT} {vs : List Nat} {Q : VK} (h : wi σ H fun J H1 => CompP J g tt te vs σ H1 Q) : tLc wi g tt te vs σ H Q := h
theorem r_yes {q : Bool → Hp → Prop} (h : q true H) : tYes σ H q := h
/-- between two turns: what stood stands, the new list at D holds acc -/
def PC (A : Nat → List V → Hp → Prop) (H1 : Hp) (D : Addr) (i : Nat) (H : Hp) : Prop := H1 D = none ∧ Same H1 H ∧ ∃ acc, H D = some (.lst acc) ∧ A i acc H
/-- what A says does not hang on the new list -/
def Off (A : Nat → List V → Hp → Prop) : Prop := ∀ i acc (G : Hp) D ys zs, G D = some (.lst ys) → A i acc G → A i acc (upd G D (.lst zs))
theorem c_end {A : Nat → List V → Hp → Prop} {H1 H4 : Hp} {D : Addr} {i : Nat} {acc : List V} {y : V} (mono : Off A) (nD : H1 D = none) (s : Same H1 H4) (e : H4 D = some (.lst acc)) (l : acc.length < 100000) (a : A (i + 1) (acc ++ [y]) H4) :
    ∃ acc, H4 D = some (.lst acc) ∧ acc.length < sizeLine ∧ PC A H1 D (i + 1) (upd H4 D (.lst (acc ++ [y]))) :=
  ⟨acc, e, sz_lt l, nD, sm_mut s nD, acc ++ [y], upd_same, mono _ _ _ _ _ _ e a⟩
theorem c_skip {A : Nat → List V → Hp → Prop} {H1 H4 : Hp} {D : Addr} {i : Nat} {acc : List V} (nD : H1 D = none) (s : Same H1 H4) (e : H4 D = some (.lst acc)) (a : A (i + 1) acc H4) : PC A H1 D (i + 1) H4 := ⟨nD, s, acc, e, a⟩
theorem k_list {tt : TT} {vs : List Nat} {Q : VK} (A : Nat → List V → Hp → Prop) (hl : H l = some (.lst xs)) (h0 : ∀ G, A 0 [] G)
    (hs : ∀ D (i : Nat) x acc H', H D = none → xs[i]? = some x → Same H H' → H' D = some (.lst acc) → A i acc H' → g x (wipe σ vs) H' fun σ2 H2 => wipe σ2 vs = wipe σ vs ∧ tt σ2 H2 fun b H3 =>
      if b = true then te σ2 H3 fun y H4 => ∃ acc, H4 D = some (.lst acc) ∧ acc.length < sizeLine ∧ PC A H D (i + 1) (upd H4 D (.lst (acc ++ [y]))) else PC A H D (i + 1) H3)
    (hd : ∀ D acc H', H D = none → Same H H' → H' D = some (.lst acc) → A xs.length acc H' → Q (.ref D) H') : ∃ a, V.ref l = .ref a ∧ (∃ ys, SqL K H a ys) ∧ CompP (Itl K a) g tt te vs σ H Q :=
  ⟨l, rfl, ⟨xs, SqL.of hl⟩, fun D nD => lc_list (K := K) (xs := xs) (PC A H D) ⟨nD, sm_new nD, [], upd_same, h0 _⟩ (fun i H' hi p => SqL.of (p.2.1 _ _ hl)) (fun i x H' hx ⟨nD, s, acc, e, a⟩ => hs D i x acc H' nD hx s e a) (fun H' ⟨nD, s, acc, e, a⟩ => hd D acc H' nD s e a)⟩
theorem k_rng1 {tt : TT} {vs : List Nat} {Q : VK} {n : Int} (A : Nat → List V → Hp → Prop) (hn : 0 ≤ n ∧ n ≤ 1000000) (h0 : ∀ G, A 0 [] G)
    (hs : ∀ D (i : Nat) acc H', H D = none → (i : Int) < n → Same H H' → H' D = some (.lst acc) → A i acc H' → g (.int (i : Nat)) (wipe σ vs) H' fun σ2 H2 => wipe σ2 vs = wipe σ vs ∧ tt σ2 H2 fun b H3 =>
      if b = true then te σ2 H3 fun y H4 => ∃ acc, H4 D = some (.lst acc) ∧ acc.length < sizeLine ∧ PC A H D (i + 1) (upd H4 D (.lst (acc ++ [y]))) else PC A H D (i + 1) H3)
    (hd : ∀ D acc H', H D = none → Same H H' → H' D = some (.lst acc) → A n.toNat acc H' → Q (.ref D) H') : ∃ j : Int, ([V.int n] : List V) = [.int j] ∧ -(2 ^ 62) ≤ j ∧ j < 2 ^ 62 ∧ CompP (Itr 0 j.toNat) g tt te vs σ H Q :=
  ⟨n, rfl, by omega, by omega, fun D nD => lc_range (lo := 0) (n := n.toNat) (PC A H D) ⟨nD, sm_new nD, [], upd_same, h0 _⟩ (fun i H' hi ⟨nD, s, acc, e, a⟩ => by
    rw [Int.zero_add]
    exact hs D i acc H' nD (by omega) s e a) (fun H' ⟨nD, s, acc, e, a⟩ => hd D acc H' nD s e a)⟩
/-- .. where what is said hangs on the new list's address -/
theorem k_rng1D {tt : TT} {vs : List Nat} {Q : VK} {n : Int} (A : Addr → Nat → List V → Hp → Prop) (hn : 0 ≤ n ∧ n ≤ 1000000) (h0 : ∀ D G, A D 0 [] G)
    (hs : ∀ D (i : Nat) acc H', H D = none → (i : Int) < n → Same H H' → H' D = some (.lst acc) → A D i acc H' → g (.int (i : Nat)) (wipe σ vs) H' fun σ2 H2 => wipe σ2 vs = wipe σ vs ∧ tt σ2 H2 fun b H3 =>
      if b = true then te σ2 H3 fun y H4 => ∃ acc, H4 D = some (.lst acc) ∧ acc.length < sizeLine ∧ PC (A D) H D (i + 1) (upd H4 D (.lst (acc ++ [y]))) else PC (A D) H D (i + 1) H3)
    (hd : ∀ D acc H', H D = none → Same H H' → H' D = some (.lst acc) → A D n.toNat acc H' → Q (.ref D) H') : ∃ j : Int, ([V.int n] : List V) = [.int j] ∧ -(2 ^ 62) ≤ j ∧ j < 2 ^ 62 ∧ CompP (Itr 0 j.toNat) g tt te vs σ H Q :=
  ⟨n, rfl, by omega, by omega, fun D nD => lc_range (lo := 0) (n := n.toNat) (PC (A D) H D) ⟨nD, sm_new nD, [], upd_same, h0 _ _⟩ (fun i H' hi ⟨nD, s, acc, e, a⟩ => by
    rw [Int.zero_add]
    exact hs D i acc H' nD (by omega) s e a) (fun H' ⟨nD, s, acc, e, a⟩ => hd D acc H' nD s e a)⟩
theorem c_endD {A : Nat → List V → Hp → Prop} {H1 H4 : Hp} {D : Addr} {i : Nat} {acc : List V} {y : V} (nD : H1 D = none) (s : Same H1 H4) (e : H4 D = some (.lst acc)) (l : acc.length < 100000) (a : A (i + 1) (acc ++ [y]) (upd H4 D (.lst (acc ++ [y])))) :
    ∃ acc, H4 D = some (.lst acc) ∧ acc.length < sizeLine ∧ PC A H1 D (i + 1) (upd H4 D (.lst (acc ++ [y]))) :=
  ⟨acc, e, sz_lt l, nD, sm_mut s nD, acc ++ [y], upd_same, a⟩
/-! walking a dict that the walk leaves alone -/
theorem upd_self {H : Hp} {d : Addr} {u : HO} (h : H d = some u) : upd H d u = H := by
  funext b
  unfold upd
  split
  · rename_i e; rw [e, h]
  · rfl
theorem rd_frz {H : Hp} {d : Addr} {o : Obj} {u : HO} (h : H d = some (.frz o u)) : Rd H d u := .inr ⟨o, h⟩
/-- the ends within a lock -/
abbrev LockE (D : Ends) (d : Addr) (od : Obj) (u : HO) : Ends := ⟨fun σ' H' => H' d = some (.frz od u) ∧ D.nx σ' (upd H' d u), fun v H' => H' d = some (.frz od u) ∧ D.rt v (upd H' d u), fun σ' H' => H' d = some (.frz od u) ∧ D.bk σ' (upd H' d u), fun σ' H' => H' d = some (.frz od u) ∧ D.ct σ' (upd H' d u)⟩
theorem l_keys {d : Addr} {kvs : List (Key × V)} {td : TE} (hd : H d = some (.dK kvs)) (Pv : Nat → L2.St → Prop) (h0 : Pv 0 σ) (ht : ∀ G (q : VK), q (.ref d) G → td σ G q)
    (hs : ∀ od (i : Nat) k v σ G, kvs[i]? = some (k, v) → Pv i σ → G = upd H d (.frz od (.dK kvs)) → g (kV k) σ G fun σ2 H2 => tb { LockE D d od (.dK kvs) with nx := fun σ' H' => H' = G ∧ Pv (i + 1) σ', ct := fun σ' H' => H' = G ∧ Pv (i + 1) σ', bk := (LockE D d od (.dK kvs)).nx } σ2 H2)
    (he : ∀ σ, Pv kvs.length σ → D.nx σ H) : tLock (tFor (iKeys td) g tb) D σ H := by
  refine ⟨d, .dK kvs, hd, trivial, fun od => ?_⟩
  refine ht _ _ ⟨d, od, rfl, .inl ⟨kvs, upd_same, ?_⟩⟩
  refine for_it (walk_keys (d := d) (o := od) (kvs := kvs)) (fun i σ' H' => H' = upd H d (.frz od (.dK kvs)) ∧ Pv i σ') ⟨rfl, h0⟩ (fun i σ' H' hi p => by rw [p.1]; exact upd_same) ?_ ?_
  · rintro i x σ' H' H2 hi ⟨rfl, p⟩ ⟨rfl, k, v, hk, rfl⟩
    exact hs od i k v σ' _ hk p rfl
  · rintro σ' H' ⟨rfl, p⟩
    exact ⟨upd_same, by rw [upd_upd, upd_self hd]; exact he σ' p⟩
end
end K33
set_option Elab.async false
set_option linter.all false
set_option maxRecDepth 100000
set_option maxHeartbeats 4000000
/-! K1: the text by places, the scopes (printed by gen1.py). -/
namespace K33
open PySem L2
def topS (i : Nat) : Stmt := PySem.Challenge.pw_touchall_k33_whole_chains_as_long_as_str.main.body.getD i (.Pass ⟨0, 0, 0, 0⟩)
abbrev spartner : Stmt := topS 2
theorem scpartner : FnScope ["arc"] ["arc"] (defScope spartner) := ⟨rfl, rfl, rfl, by decide +kernel, rfl, by decide +kernel, by decide +kernel⟩
abbrev sFlow_init : Stmt := inClass (topS 3) 0
theorem scFlow_init : FnScope ["self", "many", "node"] ["self", "many"] (defScope sFlow_init) := ⟨rfl, rfl, rfl, by decide +kernel, rfl, by decide +kernel, by decide +kernel⟩
abbrev sFlow_put : Stmt := inClass (topS 3) 1
theorem scFlow_put : FnScope ["self", "tail", "head", "room", "arc"] ["self", "tail", "head", "room"] (defScope sFlow_put) := ⟨rfl, rfl, rfl, by decide +kernel, rfl, by decide +kernel, by decide +kernel⟩
abbrev sFlow_along : Stmt := inClass (topS 3) 2
theorem scFlow_along : FnScope ["self", "arc"] ["self", "arc"] (defScope sFlow_along) := ⟨rfl, rfl, rfl, by decide +kernel, rfl, by decide +kernel, by decide +kernel⟩
abbrev sFlow_met_from : Stmt := inClass (topS 3) 3
theorem scFlow_met_from : FnScope ["self", "start", "found", "waiting", "at", "arc"] ["self", "start"] (defScope sFlow_met_from) := ⟨rfl, rfl, rfl, by decide +kernel, rfl, by decide +kernel, by decide +kernel⟩
abbrev sFlow_way_to : Stmt := inClass (topS 3) 5
theorem scFlow_way_to : FnScope ["self", "found", "end", "arcs", "arc"] ["self", "found", "end"] (defScope sFlow_way_to) := ⟨rfl, rfl, rfl, by decide +kernel, rfl, by decide +kernel, by decide +kernel⟩
abbrev sFlow_fill : Stmt := inClass (topS 3) 6
theorem scFlow_fill : FnScope ["self", "start", "end", "found", "arcs", "arc", "amount"] ["self", "start", "end"] (defScope sFlow_fill) := ⟨rfl, rfl, rfl, by decide +kernel, rfl, by decide +kernel, by decide +kernel⟩
abbrev sis_whole : Stmt := topS 12
theorem scis_whole : FnScope ["thing"] ["thing"] (defScope sis_whole) := ⟨rfl, rfl, rfl, by decide +kernel, rfl, by decide +kernel, by decide +kernel⟩
abbrev sis_pair : Stmt := topS 13
theorem scis_pair : FnScope ["thing"] ["thing"] (defScope sis_pair) := ⟨rfl, rfl, rfl, by decide +kernel, rfl, by decide +kernel, by decide +kernel⟩
abbrev splace_stands : Stmt := topS 14
theorem scplace_stands : FnScope ["thing", "last", "paid"] ["thing", "last", "paid"] (defScope splace_stands) := ⟨rfl, rfl, rfl, by decide +kernel, rfl, by decide +kernel, by decide +kernel⟩
abbrev stie_stands : Stmt := topS 15
theorem sctie_stands : FnScope ["thing", "before", "known"] ["thing", "before", "known"] (defScope stie_stands) := ⟨rfl, rfl, rfl, by decide +kernel, rfl, by decide +kernel, by decide +kernel⟩
abbrev sbad_place : Stmt := topS 16
theorem scbad_place : FnScope ["things", "last", "paid", "k", "thing"] ["things"] (defScope sbad_place) := ⟨rfl, rfl, rfl, by decide +kernel, rfl, by decide +kernel, by decide +kernel⟩
abbrev sbad_tie : Stmt := topS 17
theorem scbad_tie : FnScope ["things", "known", "before", "k", "thing"] ["things", "known"] (defScope sbad_tie) := ⟨rfl, rfl, rfl, by decide +kernel, rfl, by decide +kernel, by decide +kernel⟩
abbrev slook_at_web : Stmt := topS 18
theorem sclook_at_web : FnScope ["thing", "places", "ties", "bad", "known", "place", "price"] ["thing"] (defScope slook_at_web) := ⟨rfl, rfl, rfl, by decide +kernel, rfl, by decide +kernel, by decide +kernel⟩
abbrev snumbers_in : Stmt := topS 19
theorem scnumbers_in : FnScope ["web", "place", "price"] ["web"] (defScope snumbers_in) := ⟨rfl, rfl, rfl, by decide +kernel, rfl, by decide +kernel, by decide +kernel⟩
abbrev sprice_book : Stmt := topS 20
theorem scprice_book : FnScope ["web", "told", "place", "price"] ["web"] (defScope sprice_book) := ⟨rfl, rfl, rfl, by decide +kernel, rfl, by decide +kernel, by decide +kernel⟩
abbrev snear_book : Stmt := topS 21
theorem scnear_book : FnScope ["web", "told", "place", "price", "one", "other"] ["web"] (defScope snear_book) := ⟨rfl, rfl, rfl, by decide +kernel, rfl, by decide +kernel, by decide +kernel⟩
abbrev sis_number_tuple : Stmt := topS 23
theorem scis_number_tuple : FnScope ["thing", "size", "part"] ["thing", "size"] (defScope sis_number_tuple) := ⟨rfl, rfl, rfl, by decide +kernel, rfl, by decide +kernel, by decide +kernel⟩
abbrev sare_halves : Stmt := topS 24
theorem scare_halves : FnScope ["web", "thing", "places", "book", "place", "one", "other"] ["web", "thing"] (defScope sare_halves) := ⟨rfl, rfl, rfl, by decide +kernel, rfl, by decide +kernel, by decide +kernel⟩
abbrev spaid_at : Stmt := topS 25
theorem scpaid_at : FnScope ["dues", "paid", "one", "other", "amount"] ["dues"] (defScope spaid_at) := ⟨rfl, rfl, rfl, by decide +kernel, rfl, by decide +kernel, by decide +kernel⟩
abbrev sare_dues : Stmt := topS 26
theorem scare_dues : FnScope ["web", "thing", "last", "one", "prices", "paid", "place"] ["web", "thing"] (defScope sare_dues) := ⟨rfl, rfl, rfl, by decide +kernel, rfl, by decide +kernel, by decide +kernel⟩
abbrev scost_of_halves : Stmt := topS 27
theorem sccost_of_halves : FnScope ["web", "halves", "prices", "place", "h"] ["web", "halves"] (defScope scost_of_halves) := ⟨rfl, rfl, rfl, by decide +kernel, rfl, by decide +kernel, by decide +kernel⟩
abbrev sis_paper : Stmt := topS 28
theorem scis_paper : FnScope ["web", "thing", "due"] ["web", "thing"] (defScope sis_paper) := ⟨rfl, rfl, rfl, by decide +kernel, rfl, by decide +kernel, by decide +kernel⟩
abbrev sDoubled_init : Stmt := inClass (topS 29) 0
theorem scDoubled_init : FnScope ["self", "web", "number", "k", "place", "room", "one", "other", "there"] ["self", "web"] (defScope sDoubled_init) := ⟨rfl, rfl, rfl, by decide +kernel, rfl, by decide +kernel, by decide +kernel⟩
abbrev sDoubled_halves : Stmt := inClass (topS 29) 1
theorem scDoubled_halves : FnScope ["self", "met", "told", "k", "place", "h"] ["self"] (defScope sDoubled_halves) := ⟨rfl, rfl, rfl, by decide +kernel, rfl, by decide +kernel, by decide +kernel⟩
abbrev sDoubled_dues : Stmt := inClass (topS 29) 2
theorem scDoubled_dues : FnScope ["self", "told", "tie", "arcs", "amount"] ["self"] (defScope sDoubled_dues) := ⟨rfl, rfl, rfl, by decide +kernel, rfl, by decide +kernel, by decide +kernel⟩
abbrev spaper_in : Stmt := topS 30
theorem scpaper_in : FnScope ["web", "doubled"] ["web"] (defScope spaper_in) := ⟨rfl, rfl, rfl, by decide +kernel, rfl, by decide +kernel, by decide +kernel⟩
abbrev sChain_init : Stmt := inClass (topS 33) 0
theorem scChain_init : FnScope ["self", "web", "dues", "one", "other", "amount"] ["self", "web", "dues"] (defScope sChain_init) := ⟨rfl, rfl, rfl, by decide +kernel, rfl, by decide +kernel, by decide +kernel⟩
abbrev sChain_is_loose : Stmt := inClass (topS 33) 1
theorem scChain_is_loose : FnScope ["self", "place"] ["self", "place"] (defScope sChain_is_loose) := ⟨rfl, rfl, rfl, by decide +kernel, rfl, by decide +kernel, by decide +kernel⟩
abbrev sChain_has_due : Stmt := inClass (topS 33) 2
theorem scChain_has_due : FnScope ["self", "one", "other"] ["self", "one", "other"] (defScope sChain_has_due) := ⟨rfl, rfl, rfl, by decide +kernel, rfl, by decide +kernel, by decide +kernel⟩
abbrev sChain_is_so : Stmt := inClass (topS 33) 3
theorem scChain_is_so : FnScope ["self", "thing", "place"] ["self", "thing"] (defScope sChain_is_so) := ⟨rfl, rfl, rfl, by decide +kernel, rfl, by decide +kernel, by decide +kernel⟩
abbrev sChain_take : Stmt := inClass (topS 33) 4
theorem scChain_take : FnScope ["self", "thing"] ["self", "thing"] (defScope sChain_take) := ⟨rfl, rfl, rfl, by decide +kernel, rfl, by decide +kernel, by decide +kernel⟩
abbrev sChain_lets : Stmt := inClass (topS 33) 5
theorem scChain_lets : FnScope ["self", "thing", "one"] ["self", "thing"] (defScope sChain_lets) := ⟨rfl, rfl, rfl, by decide +kernel, rfl, by decide +kernel, by decide +kernel⟩
abbrev sChain_whole : Stmt := inClass (topS 33) 6
theorem scChain_whole : FnScope ["self", "place", "told", "one", "at", "other"] ["self"] (defScope sChain_whole) := ⟨rfl, rfl, rfl, by decide +kernel, rfl, by decide +kernel, by decide +kernel⟩
abbrev slets_fixed : Stmt := topS 34
theorem sclets_fixed : FnScope ["web", "thing"] ["web", "thing"] (defScope slets_fixed) := ⟨rfl, rfl, rfl, by decide +kernel, rfl, by decide +kernel, by decide +kernel⟩
abbrev sfixed_by : Stmt := topS 35
theorem scfixed_by : FnScope ["chain", "ins", "outs", "one"] ["chain"] (defScope sfixed_by) := ⟨rfl, rfl, rfl, by decide +kernel, rfl, by decide +kernel, by decide +kernel⟩
abbrev sfixed_paper : Stmt := topS 36
theorem scfixed_paper : FnScope ["web", "halves", "dues"] ["web"] (defScope sfixed_paper) := ⟨rfl, rfl, rfl, by decide +kernel, rfl, by decide +kernel, by decide +kernel⟩
abbrev sfixed_of : Stmt := topS 37
theorem scfixed_of : FnScope ["web"] ["web"] (defScope sfixed_of) := ⟨rfl, rfl, rfl, by decide +kernel, rfl, by decide +kernel, by decide +kernel⟩
abbrev s_law_own : Stmt := topS 39
theorem sc_law_own : FnScope ["_law_web"] ["_law_web"] (defScope s_law_own) := ⟨rfl, rfl, rfl, by decide +kernel, rfl, by decide +kernel, by decide +kernel⟩
abbrev s_law_begun : Stmt := topS 40
theorem sc_law_begun : FnScope ["_law_script", "_law_k", "_law_cell", "_law_mixed"] ["_law_script", "_law_k"] (defScope s_law_begun) := ⟨rfl, rfl, rfl, by decide +kernel, rfl, by decide +kernel, by decide +kernel⟩
abbrev s_law_take : Stmt := topS 41
theorem sc_law_take : FnScope ["_law_state", "_law_many", "_law_digit", "_law_number"] ["_law_state", "_law_many"] (defScope s_law_take) := ⟨rfl, rfl, rfl, by decide +kernel, rfl, by decide +kernel, by decide +kernel⟩
abbrev s_law_order : Stmt := topS 42
theorem sc_law_order : FnScope ["_law_state", "_law_count", "_law_number", "_law_order_here", "_law_turned", "_law_k", "_law_at"] ["_law_state", "_law_count"] (defScope s_law_order) := ⟨rfl, rfl, rfl, by decide +kernel, rfl, by decide +kernel, by decide +kernel⟩
abbrev s_law_string : Stmt := topS 43
theorem sc_law_string : FnScope ["_law_state", "_law_order_here", "_law_great", "_law_k", "_law_amounts", "_law_both", "_law_prices", "_law_places", "_law_dues", "_law_web", "_law_halves", "_law_chain", "_law_place", "_law_due"] ["_law_state"] (defScope s_law_string) := ⟨rfl, rfl, rfl, by decide +kernel, rfl, by decide +kernel, by decide +kernel⟩
abbrev s_law_bent_right : Stmt := topS 44
theorem sc_law_bent_right : FnScope ["_law_state", "_law_web", "_law_halves", "_law_dues", "_law_chain", "_law_order_here", "_law_other", "_law_at", "_law_less", "_law_papers", "_law_tie", "_law_more", "_law_one", "_law_paper"] ["_law_state", "_law_web", "_law_halves", "_law_dues", "_law_chain"] (defScope s_law_bent_right) := ⟨rfl, rfl, rfl, by decide +kernel, rfl, by decide +kernel, by decide +kernel⟩
abbrev slaw : Stmt := topS 45
theorem sclaw : FnScope ["_law_script", "_law_k", "_law_state", "_law_web", "_law_halves", "_law_dues", "_law_chain", "_law_at", "_law_without_one", "_law_ins", "_law_due", "_law_found", "_law_place", "_law_h"] ["_law_script"] (defScope slaw) := ⟨rfl, rfl, rfl, by decide +kernel, rfl, by decide +kernel, by decide +kernel⟩
end K33
set_option Elab.async false
set_option linter.all false
set_option maxRecDepth 100000
set_option maxHeartbeats 0
/-! KH: the head: facts by names, the run (printed by genH.py). -/
namespace K33
open PySem PySem.Spec PyProof.Rows L2
def dpartner : He.DefD := ⟨("partner", none), "partner", "partner", defArgs spartner, defBody spartner, defScope spartner, [], []⟩
def dFlow_init : He.DefD := ⟨("Flow", some "__init__"), "__init__", "Flow.__init__", defArgs sFlow_init, defBody sFlow_init, defScope sFlow_init, [], []⟩
def dFlow_put : He.DefD := ⟨("Flow", some "put"), "put", "Flow.put", defArgs sFlow_put, defBody sFlow_put, defScope sFlow_put, [], []⟩
def dFlow_along : He.DefD := ⟨("Flow", some "along"), "along", "Flow.along", defArgs sFlow_along, defBody sFlow_along, defScope sFlow_along, [], []⟩
def dFlow_met_from : He.DefD := ⟨("Flow", some "met_from"), "met_from", "Flow.met_from", defArgs sFlow_met_from, defBody sFlow_met_from, defScope sFlow_met_from, [], []⟩
def dFlow_way_to : He.DefD := ⟨("Flow", some "way_to"), "way_to", "Flow.way_to", defArgs sFlow_way_to, defBody sFlow_way_to, defScope sFlow_way_to, [], []⟩
def dFlow_fill : He.DefD := ⟨("Flow", some "fill"), "fill", "Flow.fill", defArgs sFlow_fill, defBody sFlow_fill, defScope sFlow_fill, [], []⟩
def dis_whole : He.DefD := ⟨("is_whole", none), "is_whole", "is_whole", defArgs sis_whole, defBody sis_whole, defScope sis_whole, [], []⟩
def dis_pair : He.DefD := ⟨("is_pair", none), "is_pair", "is_pair", defArgs sis_pair, defBody sis_pair, defScope sis_pair, [], []⟩
def dplace_stands : He.DefD := ⟨("place_stands", none), "place_stands", "place_stands", defArgs splace_stands, defBody splace_stands, defScope splace_stands, [], []⟩
def dtie_stands : He.DefD := ⟨("tie_stands", none), "tie_stands", "tie_stands", defArgs stie_stands, defBody stie_stands, defScope stie_stands, [], []⟩
def dbad_place : He.DefD := ⟨("bad_place", none), "bad_place", "bad_place", defArgs sbad_place, defBody sbad_place, defScope sbad_place, [], []⟩
def dbad_tie : He.DefD := ⟨("bad_tie", none), "bad_tie", "bad_tie", defArgs sbad_tie, defBody sbad_tie, defScope sbad_tie, [], []⟩
def dlook_at_web : He.DefD := ⟨("look_at_web", none), "look_at_web", "look_at_web", defArgs slook_at_web, defBody slook_at_web, defScope slook_at_web, [], []⟩
def dnumbers_in : He.DefD := ⟨("numbers_in", none), "numbers_in", "numbers_in", defArgs snumbers_in, defBody snumbers_in, defScope snumbers_in, [], []⟩
def dprice_book : He.DefD := ⟨("price_book", none), "price_book", "price_book", defArgs sprice_book, defBody sprice_book, defScope sprice_book, [], []⟩
def dnear_book : He.DefD := ⟨("near_book", none), "near_book", "near_book", defArgs snear_book, defBody snear_book, defScope snear_book, [], []⟩
def dis_number_tuple : He.DefD := ⟨("is_number_tuple", none), "is_number_tuple", "is_number_tuple", defArgs sis_number_tuple, defBody sis_number_tuple, defScope sis_number_tuple, [], []⟩
def dare_halves : He.DefD := ⟨("are_halves", none), "are_halves", "are_halves", defArgs sare_halves, defBody sare_halves, defScope sare_halves, [], []⟩
def dpaid_at : He.DefD := ⟨("paid_at", none), "paid_at", "paid_at", defArgs spaid_at, defBody spaid_at, defScope spaid_at, [], []⟩
def dare_dues : He.DefD := ⟨("are_dues", none), "are_dues", "are_dues", defArgs sare_dues, defBody sare_dues, defScope sare_dues, [], []⟩
def dcost_of_halves : He.DefD := ⟨("cost_of_halves", none), "cost_of_halves", "cost_of_halves", defArgs scost_of_halves, defBody scost_of_halves, defScope scost_of_halves, [], []⟩
def dis_paper : He.DefD := ⟨("is_paper", none), "is_paper", "is_paper", defArgs sis_paper, defBody sis_paper, defScope sis_paper, [], []⟩
def dDoubled_init : He.DefD := ⟨("Doubled", some "__init__"), "__init__", "Doubled.__init__", defArgs sDoubled_init, defBody sDoubled_init, defScope sDoubled_init, [], []⟩
def dDoubled_halves : He.DefD := ⟨("Doubled", some "halves"), "halves", "Doubled.halves", defArgs sDoubled_halves, defBody sDoubled_halves, defScope sDoubled_halves, [], []⟩
def dDoubled_dues : He.DefD := ⟨("Doubled", some "dues"), "dues", "Doubled.dues", defArgs sDoubled_dues, defBody sDoubled_dues, defScope sDoubled_dues, [], []⟩
def dpaper_in : He.DefD := ⟨("paper_in", none), "paper_in", "paper_in", defArgs spaper_in, defBody spaper_in, defScope spaper_in, [], []⟩
def dChain_init : He.DefD := ⟨("Chain", some "__init__"), "__init__", "Chain.__init__", defArgs sChain_init, defBody sChain_init, defScope sChain_init, [], []⟩
def dChain_is_loose : He.DefD := ⟨("Chain", some "is_loose"), "is_loose", "Chain.is_loose", defArgs sChain_is_loose, defBody sChain_is_loose, defScope sChain_is_loose, [], []⟩
def dChain_has_due : He.DefD := ⟨("Chain", some "has_due"), "has_due", "Chain.has_due", defArgs sChain_has_due, defBody sChain_has_due, defScope sChain_has_due, [], []⟩
def dChain_is_so : He.DefD := ⟨("Chain", some "is_so"), "is_so", "Chain.is_so", defArgs sChain_is_so, defBody sChain_is_so, defScope sChain_is_so, [], []⟩
def dChain_take : He.DefD := ⟨("Chain", some "take"), "take", "Chain.take", defArgs sChain_take, defBody sChain_take, defScope sChain_take, [], []⟩
def dChain_lets : He.DefD := ⟨("Chain", some "lets"), "lets", "Chain.lets", defArgs sChain_lets, defBody sChain_lets, defScope sChain_lets, [], []⟩
def dChain_whole : He.DefD := ⟨("Chain", some "whole"), "whole", "Chain.whole", defArgs sChain_whole, defBody sChain_whole, defScope sChain_whole, [], []⟩
def dlets_fixed : He.DefD := ⟨("lets_fixed", none), "lets_fixed", "lets_fixed", defArgs slets_fixed, defBody slets_fixed, defScope slets_fixed, [], []⟩
def dfixed_by : He.DefD := ⟨("fixed_by", none), "fixed_by", "fixed_by", defArgs sfixed_by, defBody sfixed_by, defScope sfixed_by, [], []⟩
def dfixed_paper : He.DefD := ⟨("fixed_paper", none), "fixed_paper", "fixed_paper", defArgs sfixed_paper, defBody sfixed_paper, defScope sfixed_paper, [], []⟩
def dfixed_of : He.DefD := ⟨("fixed_of", none), "fixed_of", "fixed_of", defArgs sfixed_of, defBody sfixed_of, defScope sfixed_of, [], []⟩
def d_law_own : He.DefD := ⟨("_law_own", none), "_law_own", "_law_own", defArgs s_law_own, defBody s_law_own, defScope s_law_own, [], []⟩
def d_law_begun : He.DefD := ⟨("_law_begun", none), "_law_begun", "_law_begun", defArgs s_law_begun, defBody s_law_begun, defScope s_law_begun, [], []⟩
def d_law_take : He.DefD := ⟨("_law_take", none), "_law_take", "_law_take", defArgs s_law_take, defBody s_law_take, defScope s_law_take, [], []⟩
def d_law_order : He.DefD := ⟨("_law_order", none), "_law_order", "_law_order", defArgs s_law_order, defBody s_law_order, defScope s_law_order, [], []⟩
def d_law_string : He.DefD := ⟨("_law_string", none), "_law_string", "_law_string", defArgs s_law_string, defBody s_law_string, defScope s_law_string, [], []⟩
def d_law_bent_right : He.DefD := ⟨("_law_bent_right", none), "_law_bent_right", "_law_bent_right", defArgs s_law_bent_right, defBody s_law_bent_right, defScope s_law_bent_right, [], []⟩
def dlaw : He.DefD := ⟨("law", none), "law", "law", defArgs slaw, defBody slaw, defScope slaw, [], []⟩
def fnL : List He.DefD := [dpartner, dFlow_init, dFlow_put, dFlow_along, dFlow_met_from, dFlow_way_to, dFlow_fill, dis_whole, dis_pair, dplace_stands, dtie_stands, dbad_place, dbad_tie, dlook_at_web, dnumbers_in, dprice_book, dnear_book, dis_number_tuple, dare_halves, dpaid_at, dare_dues, dcost_of_halves, dis_paper, dDoubled_init, dDoubled_halves, dDoubled_dues, dpaper_in, dChain_init, dChain_is_loose, dChain_has_due, dChain_is_so, dChain_take, dChain_lets, dChain_whole, dlets_fixed, dfixed_by, dfixed_paper, dfixed_of, d_law_own, d_law_begun, d_law_take, d_law_order, d_law_string, d_law_bent_right, dlaw]
def faL : List He.Fa := [.glo "partner", .glo "is_whole", .glo "is_pair", .glo "place_stands", .glo "tie_stands", .glo "bad_place", .glo "bad_tie", .glo "look_at_web", .glo "numbers_in", .glo "price_book", .glo "near_book", .glo "is_number_tuple", .glo "are_halves", .glo "paid_at", .glo "are_dues", .glo "cost_of_halves", .glo "is_paper", .glo "paper_in", .glo "lets_fixed", .glo "fixed_by", .glo "fixed_paper", .glo "fixed_of", .glo "_law_own", .glo "_law_begun", .glo "_law_take", .glo "_law_order", .glo "_law_string", .glo "_law_bent_right", .glo "law", .glo "Flow", .cls "Flow", .mkr "Flow", .glo "Doubled", .cls "Doubled", .mkr "Doubled", .glo "Chain", .cls "Chain", .mkr "Chain", .noat "Flow" "leaving", .noat "Flow" "heads", .noat "Flow" "rooms", .noat "Doubled" "whole_web", .noat "Doubled" "many", .noat "Doubled" "flow", .noat "Doubled" "start", .noat "Doubled" "end", .noat "Doubled" "arcs", .noat "Chain" "prices", .noat "Chain" "near", .noat "Chain" "paid", .noat "Chain" "due_ties", .noat "Chain" "ins", .noat "Chain" "outs", .meth "Flow" "put", .meth "Flow" "along", .meth "Flow" "met_from", .meth "Flow" "way_to", .meth "Flow" "fill", .meth "Doubled" "halves", .meth "Doubled" "dues", .meth "Chain" "is_loose", .meth "Chain" "has_due", .meth "Chain" "is_so", .meth "Chain" "take", .meth "Chain" "lets", .meth "Chain" "whole", .int "MOST_PLACES" 40, .int "MOST_TIES" 120, .int "LAST_PLACE" 999, .int "MOST_PRICES" 1000000000000, .int "MOST_CHAIN" 200, .free "isinstance", .free "int", .free "bool", .free "tuple", .free "list", .free "str", .free "len", .free "range", .free "enumerate", .free "zip", .free "sorted", .free "set", .free "sum", .free "min", .free "max"]
def namesL : List PySem.Str := [("_wall" : PySem.Str), ("partner" : PySem.Str), ("Flow" : PySem.Str), ("TouchError" : PySem.Str), ("NoWeb" : PySem.Str), ("MOST_PLACES" : PySem.Str), ("MOST_TIES" : PySem.Str), ("LAST_PLACE" : PySem.Str), ("MOST_PRICES" : PySem.Str), ("is_whole" : PySem.Str), ("is_pair" : PySem.Str), ("place_stands" : PySem.Str), ("tie_stands" : PySem.Str), ("bad_place" : PySem.Str), ("bad_tie" : PySem.Str), ("look_at_web" : PySem.Str), ("numbers_in" : PySem.Str), ("price_book" : PySem.Str), ("near_book" : PySem.Str), ("is_number_tuple" : PySem.Str), ("are_halves" : PySem.Str), ("paid_at" : PySem.Str), ("are_dues" : PySem.Str), ("cost_of_halves" : PySem.Str), ("is_paper" : PySem.Str), ("Doubled" : PySem.Str), ("paper_in" : PySem.Str), ("MOST_CHAIN" : PySem.Str), ("Chain" : PySem.Str), ("lets_fixed" : PySem.Str), ("fixed_by" : PySem.Str), ("fixed_paper" : PySem.Str), ("fixed_of" : PySem.Str), ("_law_own" : PySem.Str), ("_law_begun" : PySem.Str), ("_law_take" : PySem.Str), ("_law_order" : PySem.Str), ("_law_string" : PySem.Str), ("_law_bent_right" : PySem.Str)]
abbrev RL : PySem.W.OpenRow := PySem.W.OpenLaw.row PySem.Challenge.rw_touchall_k33_whole_chains_as_long_as_str
abbrev hkL : PySem.W.Hook := He.hookD 5 faL fnL
def obL (s : PySem.W.SharedT) : He.AlD := He.obsDG 5 faL fnL (HandSHeadRun.getT s)
theorem obL_eq (s : PySem.W.SharedT) : obL s = hkL.obs s.abs := He.obsDG_eq (HandSHeadRun.getT_eq s)
theorem runL (w : World) : HandSHeadRun.RunEq RL (PySem.W.view RL.prog [45]) hkL obL 4000 namesL w := by
  intro os
  kernel_rfl
end K33
set_option Elab.async false
set_option linter.all false
set_option maxRecDepth 100000
set_option maxHeartbeats 4000000
/-! KG: the law's statement from a promise of its def (early, as its run is big). -/
namespace K33
open PySem PySem.W PySem.Calls PyProof.Rows
theorem head_all (F : ∀ (w : World) (mg : PySem.Str → Option Value) (fa : Addr) (h : Heap) (K : PySem.W.Frag), K.In h → h.Ns mainGlobals mg → mg ("law" : PySem.Str) = some (.ref fa) → He.SaysD faL fnL K →
    ∃ (fd : FuncData) (sp : L2.Sp), (∀ (s : Shared) (v : Value), BindsTo s fd ⟨[v], []⟩ [("_law_script", v)])
      ∧ (∀ (H : L2.Hp) (a : Addr) (ns : List Int), ns.length ≤ 63 → L2.Only H → L2.SqL K H a (ns.map L2.V.int) → sp [.ref a] H (fun v _ => v = .bl true) (fun _ _ _ => False))
      ∧ ∀ base : Heap, K.In base → base.Ns mainGlobals mg → L2.FnOk (PySem.Challenge.rw_touchall_k33_whole_chains_as_long_as_str).prog w K mg base L2.CX0 9 fa fd ["_law_script"] sp) :
    PySem.Challenge.rw_touchall_k33_whole_chains_as_long_as_str.Holds := by
  w_on; o_law
  refine HandSHeadRun.head_any (r := OpenLaw.row PySem.Challenge.rw_touchall_k33_whole_chains_as_long_as_str) (q := view (OpenLaw.row PySem.Challenge.rw_touchall_k33_whole_chains_as_long_as_str).prog [45]) (H := K33.hkL) (ob := K33.obL) (M := 4000) (loose := K33.namesL) (d := HandSHeadRun.topDef (OpenLaw.row PySem.Challenge.rw_touchall_k33_whole_chains_as_long_as_str).prog 45) (kwd := []) K33.obL_eq
    (by kernel_rfl) (fun s => by kernel_rfl) K33.runL (by kernel_rfl) (by kernel_rfl) (by kernel_rfl) (by rfl) (by first | assumption | decide +kernel) (by decide +kernel) ⟨rfl, rfl, rfl, rfl, rfl, by decide +kernel⟩ ?hw ?hc
  case hw => w_witness2
  case hc =>
    refine L2.walk_ofE (l := PySem.Challenge.rw_touchall_k33_whole_chains_as_long_as_str) (n := 63) (k := 9) (x := "_law_script") (CX := L2.CX0) rfl (by decide) (by kernel_rfl) ⟨rfl, by decide, by decide⟩ ?F (fun _ _ _ _ z => z)
    intro w mg fa h Y G hmg0
    obtain ⟨K, KX, c⟩ := Y
    have hmg : mg ("law" : PySem.Str) = some (.ref fa) := by
      have e : (HandSHeadRun.topDef (OpenLaw.row PySem.Challenge.rw_touchall_k33_whole_chains_as_long_as_str).prog 45).name = ("law" : PySem.Str) := by kernel_rfl
      rw [← e]
      exact hmg0
    obtain ⟨fd, sp, hb, hs, hF⟩ := F w mg fa h K KX G hmg c
    exact ⟨K, fd, sp, KX, hb, hs, hF⟩
end K33
set_option linter.all false
set_option maxRecDepth 100000
set_option maxHeartbeats 4000000
/-! KS: set(list of ints). -/
namespace K33
open PySem L2 PySem.Spec PyProof.Rows
section
variable {P : Program} {w : World} {A : Around} {E : Value → Shared → Prop} {s : Shared}
/-- a new set, still empty -/
abbrev freshSet (w : World) : Obj := { cls := .type "set", dict := none, data := .set #[] 0 (.fresh 0 0 (!w.params.followText "set-order")) }
theorem fresh_setR {h : Heap} {a : Addr} {ns : List Int} (ho : h.get? a = some (freshSet w)) : SetR w h a (fun j => decide (j ∈ ns.take 0)) 0 := setR_new_at ho
set_option maxHeartbeats 3200000 in
theorem set_of_list {l : Addr} {its : Array Value} (ns : List Int) {Q : Value → Shared → Prop} (free : A.handled = none) (isl : s.heap.IsList l its) (are : IntsAre its.toList ns) (few : ns.length + 1 < scanBound)
    (fin : ∀ (g : Heap) (tk c : Nat), SetR w g s.heap.objs.size (fun j => decide (j ∈ ns)) c → c ≤ ns.length → (∀ b o, s.heap.get? b = some o → g.get? b = some o) → Q (.ref s.heap.objs.size) { s with heap := g, toks := tk }) :
    wpAny (model P w) A (call (.type "set") [.ref l]) Q E s := by
  have sz : its.size = ns.length := by have q := IntsAre.length are; rwa [Array.length_toList] at q
  obtain ⟨c0, tl0, mro0⟩ := F.called_set.mro
  have made0 := F.called_set.made
  have sub0 := F.called_set.sub
  have nt0 := F.called_set.notType
  have cc0 := F.called_set.canCreate
  have tc0 := F.typeCall_set_1 (.ref l)
  refine wpAny_call (codeAny_of_tree (show wpAny _ _ (callAny (.type "set") _) _ _ _ from wpAny_pure ⟨Code.quiet_builtin _ (by decide +kernel), codeAny_builtin F.entry_type_call ?_⟩))
  rw [Around.under_plain (weight_type_call_type "set" [.ref l] []) rfl]
  repeat (any_goals (first | assumption | wp_step))
  refine codeAny_mono (code_set_led1 (.ref l) (E := E) (Q₁ := fun v t => v = .ref s.heap.objs.size ∧ t = { s with heap := s.heap.push (freshSet w) }) ⟨rfl, rfl⟩) fun r t hr => ?_
  match r, hr with
  | .error e, hr => exact hr
  | .ok (.ret obj), hr =>
    obtain ⟨rfl, rfl⟩ := hr
    have got : (s.heap.push (freshSet w)).get? s.heap.objs.size = some (freshSet w) := Heap.get?_push_size _ rfl
    have ty0 : Shared.TypeIs { s with heap := s.heap.push (freshSet w) } (.ref s.heap.objs.size) "set" := ⟨_, got, rfl⟩
    have look0 := F.called_set.init.lookup
    have bind0 := F.called_set.init.bind (.ref s.heap.objs.size)
    repeat (any_goals (first | assumption | wp_step))
    refine codeAny_mono (codeAny_call_builtin (R := wants (fun v t => v = .none ∧ ∃ g tk c, t = { s with heap := g, toks := tk } ∧ SetR w g s.heap.objs.size (fun j => decide (j ∈ ns)) c ∧ c ≤ ns.length ∧ (∀ b o, s.heap.get? b = some o → g.get? b = some o)) E)
      F.called_set.init.plain F.entry_set_init (check_set_init_1 ty0 ?_)) fun r2 t2 hr2 => ?_
    · obtain ⟨ol, hol, hcl, nl, hdl⟩ := isl
      obtain ⟨oc, od, oda, osl⟩ := ol
      simp only at hcl hdl
      subst hcl hdl
      have hol' : (s.heap.push (freshSet w)).get? l = some { cls := .type "list", dict := od, data := .seq its nl, slots := osl } := Heap.get?_push_of_some _ hol
      have subL := F.sub_list_set
      have subF := F.sub_list_frozenset
      have ned : (Value.type "list" == Value.type "dict") = false := by decide
      have isl1 : (s.heap.push (freshSet w)).IsList l its := ⟨_, hol', rfl, nl, rfl⟩
      unfold Builtin.«set.__init__» noKeywords Builtin.Frozenset.updateFrom
      generalize gI : pyIter = PI
      wp_walk
      subst gI
      refine wpAny_pyIter_list isl1 (wpAny_bind (wpAny_runValue ?_))
      have hlS : l < s.heap.objs.size := Heap.lt_size hol
      have free3 : A.in1.in1.in1.handled = none := by simp [free]
      have lneI : l ≠ (s.heap.push (freshSet w)).objs.size := by rw [Heap.size_push]; exact Nat.ne_of_lt (Nat.lt_succ_of_lt hlS)
      have Snot : s.heap.objs.size ∉ [(s.heap.push (freshSet w)).objs.size, l] := by
        rw [Heap.size_push]
        intro m
        rcases List.mem_cons.mp m with e | e
        · exact absurd e (Nat.ne_of_lt (Nat.lt_succ_self _))
        · exact absurd (List.mem_singleton.mp e) (Nat.ne_of_gt hlS)
      have each : ∀ (i : Nat) (v : Value), its[i]? = some v → ∃ k t, ns[i]? = some k ∧ v = .int k t := fun i v hv => by
        have hi : i < ns.length := by rw [← sz]; exact (Array.getElem?_eq_some_iff.mp hv).1
        obtain ⟨t, e⟩ := PyProof.Rows.IntsAre.int_at are i v (by rw [Array.getElem?_toList]; exact hv)
        have ei := List.getElem?_eq_getElem hi
        exact ⟨ns[i], t, ei, by rw [e, List.getD_eq_getElem?_getD, ei] <;> rfl⟩
      refine set_update_ints ((Walks.list free3 _ l lneI its).toS) s.heap.objs.size Snot ns sz few each (its.size - 0) 0 _ (by omega) (Nat.zero_le _) ⟨⟨_, Heap.get?_push_size _ rfl, rfl, rfl⟩, (isl1.push _)⟩ ⟨0, Nat.le_refl 0, fresh_setR (Heap.get?_push_of_some _ got)⟩ fun t' c' mv hc' hS' => ?_
      obtain ⟨g, g2, d', tk', os'⟩ := t'
      obtain rfl : g2 = s.gens := mv.gens
      obtain rfl : d' = s.drawn := mv.drawn
      obtain rfl : os' = s.os := mv.os
      show wpAny _ _ _ _ _ _
      refine wpAny_pure (show wpAny _ _ (ret Value.none) _ _ _ from ?_)
      rw [sz] at hc'
      refine wpAny_pure ⟨rfl, g, tk', c', rfl, hS', hc', fun b o e => mv.heap b o (fun m => ?_) (Heap.get?_push_of_some _ (Heap.get?_push_of_some _ e))⟩
      have hb0 : b < s.heap.objs.size := Heap.lt_size e
      rcases List.mem_cons.mp m with q | q
      · exact absurd q (Nat.ne_of_lt hb0)
      · have q := List.mem_singleton.mp q
        rw [Heap.size_push] at q
        exact absurd q (Nat.ne_of_lt (Nat.lt_succ_of_lt hb0))
    · match r2, hr2 with
      | .error e, hr2 => exact hr2
      | .ok (.ret v), hr2 =>
        obtain ⟨rfl, g, tk, c, rfl, hS, hc, hk⟩ := hr2
        repeat (any_goals (first | assumption | wp_step))
        exact fin _ _ _ hS hc hk
      | .ok .next, hr2 => exact hr2.elim
  | .ok .next, hr => exact hr.elim
end
def rSetOfL (K : PySem.W.Frag) (w : World) : List V → Hp → VK → Prop := fun xs H Q => ∃ (l : Addr) (ns : List Int), xs = [V.ref l] ∧ SqL K H l (ns.map V.int) ∧ ns.length ≤ 1000 ∧
  ∀ p c, c ≤ ns.length → H p = none → Q (.ref p) (upd H p (SetO w p (fun j => decide (j ∈ ns)) c))
theorem setLK {X : Cx} {K : PySem.W.Frag} (hc : X.calm = true) (h : X.K = K := by rfl) : CallR X (.type "set") (rSetOfL K X.w) := by
  subst h
  intro pins s σ H xs us Q I r q
  obtain ⟨l, ns, rfl, hq, h1000, q⟩ := q
  rw [Vals.ref1 r]
  obtain ⟨its, rv, pl, hz⟩ := I.list hq
  refine set_of_list ns (I.ok.hd hc) pl.isList (by simpa using ints_of_vals rv) (by unfold scanBound; omega) fun g tk c R hcn hk => ?_
  exact ⟨.ref _, upd H s.heap.objs.size (SetO X.w s.heap.objs.size (fun j => decide (j ∈ ns)) c), I.laid (t' := tk) hk (Nat.le_refl _) (setO_new R), rfl, q _ c hcn (I.hok.fresh (Nat.le_refl _))⟩
end K33
set_option Elab.async false
set_option linter.all false
set_option maxRecDepth 100000
set_option maxHeartbeats 4000000
/-! K2: what a caller knows of a def; the names of the text; data in the heap. -/
namespace K33
open PySem L2

/-! ### callees -/
/-- the global x is a def that keeps sp -/
structure Can (P : Program) (w : World) (K : PySem.W.Frag) (mg : Str → Option Value) (base : Heap) (k : Nat) (x : Str) (ps : List Str) (sp : Sp) : Prop where
  ex : ∃ (f : Addr) (fd : FuncData), FnOk P w K mg base CX0 k f fd ps sp ∧ mg x = some (.ref f) ∧ PySem.W.keepIn K (.ref f) = true ∧ Binds K fd ps []
/-- the class at C has the method m, which keeps sp -/
structure CanM (P : Program) (w : World) (K : PySem.W.Frag) (mg : Str → Option Value) (base : Heap) (C : Addr) (k : Nat) (m : Str) (ps : List Str) (sp : Sp) : Prop where
  ex : ∃ (f : Addr) (fd : FuncData), FnOk P w K mg base CX0 k f fd ps sp ∧ Meth K C m f ∧ Binds K fd ps []
/-- the global x is the class at C, made by an __init__ that keeps sp -/
structure CanI (P : Program) (w : World) (K : PySem.W.Frag) (mg : Str → Option Value) (base : Heap) (C : Addr) (k : Nat) (x : Str) (ps : List Str) (sp : Sp) : Prop where
  ex : ∃ (f : Addr) (fd : FuncData), FnOk P w K mg base CX0 k f fd ps sp ∧ Mk K C f ∧ mg x = some (.ref C) ∧ Binds K fd ps []
section
variable {X : Cx} {k : Nat} {C : Addr} {ps : List Str} {sp : Sp} {x m : Str} {p pos apos : Pos} {e o : Expr} {es : List Expr} {ta : TE} {t : TA}
theorem pc_can (G : Can X.prog X.w X.K X.mg X.base k x ps sp) (hr : Room k X.A) (hg : Gl X x)
    (ha : PA X (e :: es) t) (hdb : (x == ("__debug__" : Str)) = false := by decide) (he : starEach (e :: es) X.env = (false, eval e X.env) :: starEach es X.env := by rfl) (hpl : (backTo pos (starEach es X.env)).any (·.1) = false := by rfl) :
    PE X (.Call (.Name x p) (e :: es) [] pos) (tCall sp [] (fun _ _ _ => False) t) := by
  obtain ⟨f, fd, F, hm, hk, hb⟩ := G.ex
  exact pe_call F hr hg hm hk hb .nil pass0 ha hdb he hpl
theorem pc_mk (G : CanI X.prog X.w X.K X.mg X.base C k x ps sp) (hr : Room (k + 1) X.A) (hg : Gl X x)
    (ha : PA X (e :: es) t) (hdb : (x == ("__debug__" : Str)) = false := by decide) (he : starEach (e :: es) X.env = (false, eval e X.env) :: starEach es X.env := by rfl) (hpl : (backTo pos (starEach es X.env)).any (·.1) = false := by rfl) :
    PE X (.Call (.Name x p) (e :: es) [] pos) (tMake C sp [] (fun _ _ _ => False) t) := by
  obtain ⟨f, fd, F, M, hm, hb⟩ := G.ex
  exact pe_make M F hr hg hm hb .nil pass0 ha hdb he hpl
theorem pc_meth {pl : Sem Bool} (he : PE X o ta) (c : Cls X.K C) (G : CanM X.prog X.w X.K X.mg X.base C k m ps sp) (hr : Room k X.A) (ha : PA X (e :: es) t)
    (hst : starEach (e :: es) X.env = (false, eval e X.env) :: starEach es X.env := by rfl) (hpl : (backTo pos (starEach es X.env)).any (·.1) = false := by rfl)
    (ht : eval (.Call (.Attribute o m apos) (e :: es) [] pos) X.env = (do
      let ov ← eval o X.env
      standAt apos.atName
      let (f, first) ← holding [ov] (getMethod ov m pl)
      callWith pos f first (backTo pos (starEach (e :: es) X.env)) (backToKw pos (keywordEach [] X.env))) := by rfl) :
    PE X (.Call (.Attribute o m apos) (e :: es) [] pos) (tMeth C m sp [] (fun _ _ _ => False) ta t) := by
  obtain ⟨f, fd, F, hm, hb⟩ := G.ex
  exact pe_meth he c hm F hr hb .nil pass0 ha hst hpl ht
theorem pc_meth0 {pl : Sem Bool} (he : PE X o ta) (c : Cls X.K C) (G : CanM X.prog X.w X.K X.mg X.base C k m ps sp) (hr : Room k X.A)
    (ht : eval (.Call (.Attribute o m apos) [] [] pos) X.env = (do
      let ov ← eval o X.env
      standAt apos.atName
      let (f, first) ← holding [ov] (getMethod ov m pl)
      callWith pos f first (backTo pos (starEach [] X.env)) (backToKw pos (keywordEach [] X.env))) := by rfl) :
    PE X (.Call (.Attribute o m apos) [] [] pos) (tMeth C m sp [] (fun _ _ _ => False) ta tNil) := by
  obtain ⟨f, fd, F, hm, hb⟩ := G.ex
  exact pe_meth0 he c hm F hr hb .nil pass0 ht
end

/-! ### the names that the top leaves -/
structure Txt (K : PySem.W.Frag) (mg : Str → Option Value) : Prop where
  fIsinstance : mg "isinstance" = none
  fInt : mg "int" = none
  fBool : mg "bool" = none
  fTuple : mg "tuple" = none
  fList : mg "list" = none
  fStr : mg "str" = none
  fLen : mg "len" = none
  fRange : mg "range" = none
  fEnumerate : mg "enumerate" = none
  fZip : mg "zip" = none
  fSorted : mg "sorted" = none
  fSet : mg "set" = none
  fSum : mg "sum" = none
  fMin : mg "min" = none
  fMax : mg "max" = none
  cPlaces : ∃ t, mg "MOST_PLACES" = some (.int 40 t)
  cTies : ∃ t, mg "MOST_TIES" = some (.int 120 t)
  cLast : ∃ t, mg "LAST_PLACE" = some (.int 999 t)
  cPrices : ∃ t, mg "MOST_PRICES" = some (.int 1000000000000 t)
  cChain : ∃ t, mg "MOST_CHAIN" = some (.int 200 t)
theorem pg_int {X : Cx} {x : Str} {i : Int} {pos : Pos} (h : ∃ t, X.mg x = some (.int i t)) (hg : Gl X x := by rfl) (hn : x ≠ "__name__" := by decide) (hd : (x == ("__debug__" : Str)) = false := by decide) : PE X (.Name x pos) (tC (.int i)) := by
  obtain ⟨t, e⟩ := h
  exact pe_glob (v := .int i) hg e ⟨t, rfl⟩ hd
/-- a built-in class's name -/
theorem pg_ty {X : Cx} {x : Str} {T : String} {pos : Pos} (hm : X.mg x = none) (hv : bootBuiltins x = some (.type T)) (hg : Gl X x := by rfl) (hn : x ≠ "__name__" := by decide) (hd : (x == ("__debug__" : Str)) = false := by decide) : PE X (.Name x pos) (tC (.ty T)) :=
  pe_bltn hg hm hv rfl hn hd
theorem hu65 {k : Nat} {A : Around} (r : Room k A) : A.units + 65 < cLine := by have := r.un; omega

/-! ### the rules that name the written part, with K given -/
section
variable {X : Cx} {K : PySem.W.Frag}
theorem ixLK (h : X.K = K := by rfl) : IxR X (rIxL K) := by subst h; exact ix_list
theorem ixTK (h : X.K = K := by rfl) : IxR X (rIxT K) := by subst h; exact ix_tup
theorem slLK (h : X.K = K := by rfl) : SlR X (rSlL K) := by subst h; exact sl_list
theorem slTK (h : X.K = K := by rfl) : SlR X (rSlT K) := by subst h; exact sl_tup
theorem isiK (h : X.K = K := by rfl) : CallR X (.builtin "isinstance") (rIsi K) := by subst h; exact call_isi
def rLenS (K : PySem.W.Frag) : List V → Hp → VK → Prop := fun xs H Q => ∃ p ys, xs = [.ref p] ∧ (SqL K H p ys ∨ SqT K H p ys) ∧ Q (.int (List.length ys)) H
theorem lenK (h : X.K = K := by rfl) : CallR X (.builtin "len") (rLenS K) := by subst h; exact call_len_seq
theorem sumK (hc : X.calm = true) (h : X.K = K := by rfl) : CallR X (.builtin "sum") (rSum K) := by subst h; exact cr_sum hc
theorem minK (hc : X.calm = true) (h : X.K = K := by rfl) : CallR X (.builtin "min") (rMin K) := by subst h; exact cr_min hc
theorem sortIK (h : X.K = K := by rfl) : CallR X (.builtin "sorted") (rSortedI K) := by subst h; exact cr_sortedI
theorem sortTK {d : Nat} {B : Int} (hd : 1 ≤ d) (h : X.K = K := by rfl) : CallR X (.builtin "sorted") (rSortU K d B) := by subst h; exact cr_sortT hd
def rListS (K : PySem.W.Frag) : List V → Hp → VK → Prop := fun xs H Q => ∃ p ys, xs = [.ref p] ∧ (SqL K H p ys ∨ SqT K H p ys) ∧ ∀ l, H l = none → Q (.ref l) (upd H l (.lst ys))
theorem listK (h : X.K = K := by rfl) : CallR X (.type "list") (rListS K) := by subst h; exact call_list_of
def rMin2 : List V → Hp → VK → Prop := fun xs H Q => ∃ i j, xs = [.int i, .int j] ∧ Q (.int (if j < i then j else i)) H
def rMax2 : List V → Hp → VK → Prop := fun xs H Q => ∃ i j, xs = [.int i, .int j] ∧ Q (.int (if j > i then j else i)) H
theorem min2 (hc : X.calm = true) : CallR X (.builtin "min") rMin2 := call_min2 hc
theorem max2 (hc : X.calm = true) : CallR X (.builtin "max") rMax2 := call_max2 hc
theorem inDK (hu : X.A.units + 65 < cLine) (h : X.K = K := by rfl) : OpR X (compareOp .In) (rInD K) := by subst h; exact op_inD hu
theorem notInDK (hu : X.A.units + 65 < cLine) (h : X.K = K := by rfl) : OpR X (compareOp .NotIn) (rNotInD K) := by subst h; exact op_notInD hu
theorem inSK (h : X.K = K := by rfl) : OpR X (compareOp .In) (rIn K false) := by subst h; exact op_in_seq
theorem ltTK (hu : X.A.units < cLine) (h : X.K = K := by rfl) : OpR X (compareOp .Lt) (rLtT K) := by subst h; exact op_ltT hu
theorem leTK (hu : X.A.units < cLine) (h : X.K = K := by rfl) : OpR X (compareOp .LtE) (rLeT K) := by subst h; exact op_leT hu
theorem eqDK (hu : X.A.units + 64 < cLine) (h : X.K = K := by rfl) : OpR X (compareOp .Eq) (rEqD K) := by subst h; exact op_eqD hu
theorem neDK (hu : X.A.units + 64 < cLine) (h : X.K = K := by rfl) : OpR X (compareOp .NotEq) (rNeD K) := by subst h; exact op_neD hu
theorem catTK (h : X.K = K := by rfl) : OpR X (binaryOp .Add) (rCatT K) := by subst h; exact op_catT
theorem mtIndexK (h : X.K = K := by rfl) : MtR X "list.index" (rIndex K) := by subst h; exact mt_index
def rInsert : V → List V → Hp → VK → Prop := fun x vs H Q => ∃ (l : Addr) (xs : List V) (i : Int) (y : V), x = .ref l ∧ vs = [.int i, y] ∧ H l = some (.lst xs) ∧ xs.length < sizeLine ∧ 0 ≤ i ∧ i < 2 ^ 63 ∧ Q .non (upd H l (.lst (xs.take i.toNat ++ [y] ++ xs.drop i.toNat)))
theorem mtInsert : MtR X "list.insert" rInsert := mt_insert
variable {tg l e e2 o value : Expr} {ta tl tv : TE} {al : TA} {es : List Expr} {x f name : Str} {id T : String} {r : V → List V → Hp → VK → Prop} {p pos apos cpos tpos : Pos} {k n kk : Nat} {gs : TGs} {elts : List Expr}
theorem piLK (hl : PE X l tl) (h : X.K = K := by rfl) : PI X tg l (iList K tl) := by subst h; exact pi_list hl
theorem piTK (hl : PE X l tl) (h : X.K = K := by rfl) : PI X tg l (iTup K tl) := by subst h; exact pi_tup hl
theorem peFK (he : PE X e ta) (hb : attributeBase e f X.env (eval e X.env) = eval e X.env) (h : X.K = K := by rfl) : PE X (.Attribute e f pos) (tFld K ta f) := by subst h; exact pe_fld he hb
theorem psFK (he : PE X o ta) (hv : PE X value tv) (hs : swapsWith value (some (.Attribute o f apos)) pos.line X.env = pure false) (h : X.K = K := by rfl) : PS X (.Assign [.Attribute o f apos] value pos) (sFld K ta tv f) := by subst h; exact ps_fld he hv hs
theorem pgTK (hc : X.calm = true) (hg : PGs X es gs) (hn : (assignEach es X.env).length = n := by rfl) (hst : (assignEach es X.env).findIdx? (·.1) = none := by rfl) (h : X.K = K := by rfl) : PG X (.Tuple es k pos) (gTup K n gs) := by subst h; exact pg_tup hc hg hn hst
theorem piEK (hg : Gl X "enumerate") (hm : X.mg "enumerate" = none) (ha : PA X [e] al) (hs : starEach [e] X.env = [(false, eval e X.env)] := by rfl) (h : X.K = K := by rfl) :
    PI X (.Tuple elts kk tpos) (.Call (.Name "enumerate" p) [e] [] pos) (iEnum K al) := by subst h; exact pi_enum hg hm ha hs
theorem peMK (pa : PlainAttrs T) (slot : Slot T name id) (hty : typeOf (.builtin id) = pure (.type "method_descriptor")) (hm : MtR X id r) (ho : PE X o ta) (ha : PA X (e :: es) al)
    (hbase : attributeBase o name X.env (eval o X.env) = eval o X.env := by rfl)
    (hfew : ((backTo cpos (starEach (e :: es) X.env)).all (fun x => !x.1) && (backToKw cpos (keywordEach [] X.env)).all (fun x => x.1.isSome)
      && decide ((e :: es).length + ([] : List Keyword).length + (if ([] : List Keyword).isEmpty then 0 else 1) < 30)) = true := by rfl)
    (hline : (apos.endLine == cpos.line) = true := by rfl) (hs : starEach (e :: es) X.env = (false, eval e X.env) :: starEach es X.env := by rfl) (hplain : (backTo cpos (starEach es X.env)).any (·.1) = false := by rfl) (h : X.K = K := by rfl) :
    PE X (.Call (.Attribute o name apos) (e :: es) [] cpos) (tBM K T r ta al) := by subst h; exact pe_bm pa slot hty hm ho ha hbase hfew hline hs hplain
theorem piZK (hg : Gl X "zip") (hm : X.mg "zip" = none) (ha : PA X [e, e2] al)
    (hs : starEach [e, e2] X.env = (false, eval e X.env) :: starEach [e2] X.env := by rfl) (hpl : (backTo pos (starEach [e2] X.env)).any (·.1) = false := by rfl) (h : X.K = K := by rfl) :
    PI X (.Tuple elts kk tpos) (.Call (.Name "zip" p) [e, e2] [] pos) (iZip K al) := by subst h; exact pi_zip hg hm ha hs hpl
end
/-! built-in names -/
theorem bt_len : bootBuiltins "len" = some (.builtin "len") := by decide +kernel
theorem bt_isinstance : bootBuiltins "isinstance" = some (.builtin "isinstance") := by decide +kernel
theorem bt_sum : bootBuiltins "sum" = some (.builtin "sum") := by decide +kernel
theorem bt_min : bootBuiltins "min" = some (.builtin "min") := by decide +kernel
theorem bt_max : bootBuiltins "max" = some (.builtin "max") := by decide +kernel
theorem bt_sorted : bootBuiltins "sorted" = some (.builtin "sorted") := by decide +kernel
theorem bt_list : bootBuiltins "list" = some (.type "list") := by decide +kernel
theorem bt_int : bootBuiltins "int" = some (.type "int") := by decide +kernel
theorem bt_bool : bootBuiltins "bool" = some (.type "bool") := by decide +kernel
theorem bt_str : bootBuiltins "str" = some (.type "str") := by decide +kernel
theorem bt_tuple : bootBuiltins "tuple" = some (.type "tuple") := by decide +kernel
theorem bt_set : bootBuiltins "set" = some (.type "set") := by decide +kernel
section
variable {K : PySem.W.Frag} {σ : L2.St} {H : Hp} {ta : TE} {x v : V} {Q : VK} {al : TA}
theorem r_lenS {p : Addr} {ys : List V} (h : SqL K H p ys ∨ SqT K H p ys) (q : Q (.int ys.length) H) : rLenS K [.ref p] H Q := ⟨p, ys, rfl, h, q⟩
theorem r_min2' {i j : Int} (q : Q (.int (if j < i then j else i)) H) : rMin2 [.int i, .int j] H Q := ⟨i, j, rfl, q⟩
theorem r_max2' {i j : Int} (q : Q (.int (if j > i then j else i)) H) : rMax2 [.int i, .int j] H Q := ⟨i, j, rfl, q⟩
theorem r_listS {p : Addr} {ys : List V} (h : SqL K H p ys ∨ SqT K H p ys) (q : New H (.lst ys) Q) : rListS K [.ref p] H Q := ⟨p, ys, rfl, h, q⟩
/-! dicts with int keys -/
variable {D : Ends} {td ty tv tx : TE} {d : Addr} {kvs : List (Key × V)} {k : Int}
theorem r_din (h : ty σ H fun y H1 => td σ H1 fun x H2 => ∃ a o, x = .ref a ∧ DGet H2 a y o ∧ Q (.bl o.isSome) H2) : tDIn ty td σ H Q := h
theorem r_dnotin (h : ty σ H fun y H1 => td σ H1 fun x H2 => ∃ a o, x = .ref a ∧ DGet H2 a y o ∧ Q (.bl (!o.isSome)) H2) : tDNotIn ty td σ H Q := h
theorem dg_of (h : Rd H d (.dK kvs)) : DGet H d (.int k) (valV kvs (.inl k)) := .inl ⟨kvs, .inl k, h, rfl, rfl⟩
theorem r_dinL {B : Option V → Prop} (h : Rd H d (.dK kvs)) (q : B (valV kvs (.inl k))) : ∃ a o, V.ref d = .ref a ∧ DGet H a (.int k) o ∧ B o := ⟨d, _, rfl, dg_of h, q⟩
theorem r_dget (h : td σ H fun x H1 => ty σ H1 fun y H2 => ∃ a v, x = .ref a ∧ DGet H2 a y (some v) ∧ Q v H2) : tDGet td ty σ H Q := h
theorem r_dgetL {B : V → Prop} (h : Rd H d (.dK kvs)) (e : valV kvs (.inl k) = some v) (q : B v) : ∃ a v, V.ref d = .ref a ∧ DGet H a (.int k) (some v) ∧ B v := ⟨d, v, rfl, by rw [← e]; exact dg_of h, q⟩
theorem r_dget2 (h : td σ H fun x H1 => ∃ a, x = .ref a ∧ IsD H1 a ∧ ty σ H1 fun y H2 => tx σ H2 fun z H3 => ∃ o, DGet H3 a y o ∧ Q (o.getD z) H3) : tDGet2 td ty tx σ H Q := h
theorem r_isD {B : Addr → Prop} (h : Rd H d (.dK kvs)) (q : B d) : ∃ a, V.ref d = .ref a ∧ IsD H a ∧ B a := ⟨d, rfl, .inl ⟨kvs, h⟩, q⟩
theorem r_dget2L {B : Option V → Prop} (h : Rd H d (.dK kvs)) (q : B (valV kvs (.inl k))) : ∃ o, DGet H d (.int k) o ∧ B o := ⟨_, dg_of h, q⟩
theorem r_dput (h : tv σ H fun v H1 => td σ H1 fun x H2 => ty σ H2 fun y H3 => ∃ a H4, x = .ref a ∧ DPut H3 a y v H4 ∧ D.nx σ H4) : sDPut td ty tv D σ H := h
theorem r_dputL {B : Hp → Prop} (h : H d = some (.dK kvs)) (l : kvs.length < sizeLine) (q : B (upd H d (.dK (putK kvs (.inl k) v)))) : ∃ a H4, V.ref d = .ref a ∧ DPut H a (.int k) v H4 ∧ B H4 := ⟨d, _, rfl, DPut.k (k := .inl k) h l, q⟩
theorem r_dnewK (h : New H (.dK []) Q) : tDNewK σ H Q := h
/-! slices, sums -/
theorem r_sl {r : V → Option Int → Option Int → Hp → VK → Prop} {tl th : TO} (h : ta σ H fun x H1 => tl σ H1 fun l H2 => th σ H2 fun u H3 => r x l u H3 Q) : tSl r ta tl th σ H Q := h
theorem r_noPart {q : Option Int → Hp → Prop} (h : q none H) : tNoPart σ H q := h
theorem r_part {q : Option Int → Hp → Prop} (h : ta σ H fun x H1 => ∃ i, x = .int i ∧ q (some i) H1) : tPart ta σ H q := h
theorem r_exi {q : Int → Prop} {i : Int} (h : q i) : ∃ i', V.int i = .int i' ∧ q i' := ⟨i, rfl, h⟩
theorem r_slT {a : Addr} {xs : List V} {lo hi : Option Int} (h : H a = some (.tup xs)) (nw : ¬ (HT.sIx xs.length 0 lo = 0 ∧ HT.sIx xs.length xs.length hi = xs.length)) (q : New H (.tup (cutV xs lo hi)) Q) : rSlT K (.ref a) lo hi H Q := ⟨a, xs, rfl, SqT.of h, nw, q⟩
theorem r_slL {a : Addr} {xs : List V} {lo hi : Option Int} (h : H a = some (.lst xs)) (q : New H (.lst (cutV xs lo hi)) Q) : rSlL K (.ref a) lo hi H Q := ⟨a, xs, rfl, SqL.of h, q⟩
theorem r_sum {a : Addr} {ns : List Int} (h : H a = some (.lst (ns.map V.int))) (q : Q (.int ns.sum) H) : rSum K [.ref a] H Q := ⟨a, ns, rfl, SqL.of h, q⟩
theorem r_ixI {p : Addr} {xs : List V} {i : Nat} {v : V} {k : Int} (h : H p = some (.lst xs)) (ek : k = (i : Int)) (e : xs[i]? = some v) (q : Q v H) : rIxL K (.ref p) (.int k) H Q := ⟨p, xs, k, v, rfl, rfl, SqL.of h, at_of ek e, q⟩
/-! methods of lists, sorted -/
theorem r_tyL {B : Prop} {l : Addr} {xs : List V} (h : H l = some (.lst xs)) (q : B) : tyV K "list" (.ref l) H ∧ B := ⟨.inl ⟨rfl, _, SqL.of h⟩, q⟩
theorem r_append {l : Addr} {xs : List V} {y : V} (h : H l = some (.lst xs)) (hl : xs.length < 100000) (q : Q .non (upd H l (.lst (xs ++ [y])))) : rAppend (.ref l) [y] H Q := ⟨l, xs, y, rfl, rfl, h, sz_lt hl, q⟩
theorem r_extend {l b : Addr} {xs zs : List V} (h : H l = some (.lst xs)) (hb : H b = some (.lst zs)) (hl : xs.length + zs.length < 100000) (q : Q .non (upd H l (.lst (xs ++ zs)))) : rExtend (.ref l) [.ref b] H Q := ⟨l, b, xs, zs, rfl, rfl, h, hb, sz_of (by omega), q⟩
theorem r_appendN {l : Addr} {xs : List V} {y : V} (h : H l = some (.lst xs)) (hl : xs.length < 100000) (q : ∀ H2, (∀ b, b ≠ l → H2 b = H b) → H2 l = some (.lst (xs ++ [y])) → Q .non H2) : rAppend (.ref l) [y] H Q := r_append h hl (q _ (fun b n => upd_ne n) upd_same)
theorem r_extendN {l b : Addr} {xs zs : List V} (h : H l = some (.lst xs)) (hb : H b = some (.lst zs)) (hl : xs.length + zs.length < 100000) (q : ∀ H2, (∀ b, b ≠ l → H2 b = H b) → H2 l = some (.lst (xs ++ zs)) → Q .non H2) : rExtend (.ref l) [.ref b] H Q := r_extend h hb hl (q _ (fun b n => upd_ne n) upd_same)
theorem r_listD {d : Addr} {kvs : List (Key × V)} (h : H d = some (.dK kvs)) (q : New H (.lst (kvs.map fun kv => kV kv.1)) Q) : rListD [.ref d] H Q := ⟨d, kvs, rfl, h, q⟩
theorem r_sortI {a : Addr} {ns : List Int} (h : H a = some (.lst (ns.map V.int))) (q : ∀ ns' : List Int, ns'.Perm ns → ns'.Pairwise (· ≤ ·) → New H (.lst (ns'.map V.int)) Q) : rSortedI K [.ref a] H Q :=
  ⟨a, ns, rfl, SqL.of h, fun ns' p h1 h2 hp => q ns' h1 h2 p hp⟩
/-! xs[i] = v, {k: v} -/
theorem r_gsub {to ti : TE} {t : TSet} {q : L2.St → Hp → Prop} (h : to σ H fun o H1 => ti σ H1 fun i H2 => t o i v H2 fun H3 => q σ H3) : gSub to ti t v σ H q := h
theorem ixN_nat {n j : Nat} (h : j < n) : ixN n (j : Int) = some j := by
  unfold ixN
  rw [if_pos (by omega), if_pos (by omega), Int.toNat_natCast]
theorem r_setL {p : Addr} {xs : List V} {j : Nat} {k : Int} {q : Hp → Prop} (h : H p = some (.lst xs)) (ek : k = (j : Int)) (hj : j < xs.length) (hq : ∀ H2, (∀ b, b ≠ p → H2 b = H b) → H2 p = some (.lst (xs.set j v)) → q H2) : rSetL (.ref p) (.int k) v H q :=
  ⟨p, xs, k, j, rfl, rfl, h, by rw [ek]; exact ixN_nat hj, hq _ (fun b n => upd_ne n) upd_same⟩
theorem r_disp1 {j : Nat} {i : Int} (hk : σ[j]? = some (some (.int i))) (q : New H (.dK [(Sum.inl i, v)]) Q) : tDisp [(tVar j, tC v)] σ H Q := fun p hp => ⟨_, hk, upd_same, [(Sum.inl i, v)], rfl, by show 1 ≤ 15; decide, by rw [upd_upd]; exact q p hp⟩
/-! pairs of ints -/
theorem r_lt2 {a b : Addr} {i j u v : Int} (h1 : H a = some (.tup [.int i, .int j])) (h2 : H b = some (.tup [.int u, .int v])) (q : Q (.bl (HT.lexLt [i, j] [u, v])) H) : rLtT K (.ref a) (.ref b) H Q := ⟨a, b, [i, j], [u, v], rfl, rfl, SqT.of h1, SqT.of h2, q⟩
end
/-! ### plain data -/
theorem sum_take1 {α : Type} (f : α → Int) {l : List α} {i : Nat} {x : α} (h : l[i]? = some x) : ((l.take (i + 1)).map f).sum = ((l.take i).map f).sum + f x := by
  rw [List.take_add_one, h, List.map_append, List.sum_append]
  simp
theorem sum_nonneg {α : Type} (f : α → Int) : ∀ {l : List α}, (∀ x ∈ l, 0 ≤ f x) → 0 ≤ (l.map f).sum
  | [], _ => by simp
  | a :: l, h => by
    have h1 := h a (by simp)
    have h2 := sum_nonneg f (l := l) (fun x hx => h x (by simp [hx]))
    rw [List.map_cons, List.sum_cons]
    omega
theorem sum_take_le {α : Type} (f : α → Int) {l : List α} {i : Nat} (h : ∀ x ∈ l, 0 ≤ f x) : ((l.take i).map f).sum ≤ (l.map f).sum := by
  have e : (l.map f).sum = ((l.take i).map f).sum + ((l.drop i).map f).sum := by
    rw [← List.sum_append, ← List.map_append, List.take_append_drop]
  have h2 := sum_nonneg f (l := l.drop i) (fun x hx => h x (List.mem_of_mem_drop hx))
  omega
/-- places, ties of a web -/
structure PlacesOk (ps : List (Int × Int)) : Prop where
  len : ps.length ≤ 40
  rise : ps.Pairwise (fun a b => a.1 < b.1)
  each : ∀ p ∈ ps, 0 ≤ p.1 ∧ p.1 ≤ 999 ∧ 1 ≤ p.2
  sum : (ps.map (·.2)).sum ≤ 1000000000000
/-- one pair ahead of another -/
def lt2 (a b : Int × Int) : Prop := a.1 < b.1 ∨ (a.1 = b.1 ∧ a.2 < b.2)
theorem lexLt2 {i j u v : Int} : HT.lexLt [i, j] [u, v] = true ↔ lt2 (i, j) (u, v) := by
  unfold HT.lexLt lt2
  by_cases e : i = u
  · subst e
    by_cases e2 : j = v
    · subst e2
      simp [HT.lexLt]
    · simp [HT.lexLt, e2]
  · simp [e]
structure TiesOk (ps es : List (Int × Int)) : Prop where
  len : es.length ≤ 120
  rise : es.Pairwise lt2
  each : ∀ e ∈ es, e.1 < e.2 ∧ e.1 ∈ ps.map (·.1) ∧ e.2 ∈ ps.map (·.1)
structure WebOk (ps es : List (Int × Int)) : Prop where
  p : PlacesOk ps
  t : TiesOk ps es
theorem PlacesOk.nd {ps : List (Int × Int)} (h : PlacesOk ps) : (ps.map (·.1)).Nodup := by
  have := h.rise
  rw [List.Nodup, List.pairwise_map]
  exact this.imp fun h => Int.ne_of_lt h
theorem getElem?_mem' {α : Type} {l : List α} {i : Nat} {x : α} (h : l[i]? = some x) : x ∈ l := List.mem_of_getElem? h
theorem rise_at {α : Type} {R : α → α → Prop} {l : List α} (h : l.Pairwise R) {i : Nat} {x y : α} (hx : l[i]? = some x) (hy : l[i + 1]? = some y) : R x y := by
  obtain ⟨h1, e1⟩ := List.getElem?_eq_some_iff.mp hx
  obtain ⟨h2, e2⟩ := List.getElem?_eq_some_iff.mp hy
  rw [← e1, ← e2]
  exact List.pairwise_iff_getElem.mp h i (i + 1) h1 h2 (by omega)

/-! ### dicts -/
/-- the dict of these int keys -/
def kvI (l : List (Int × V)) : List (Key × V) := l.map fun p => (Sum.inl p.1, p.2)
theorem kvI_snoc (l : List (Int × V)) (k : Int) (v : V) : kvI (l ++ [(k, v)]) = kvI l ++ [(Sum.inl k, v)] := by unfold kvI; rw [List.map_append]; rfl
theorem kvI_none : ∀ {l : List (Int × V)} {k : Int}, k ∉ l.map (·.1) → valV (kvI l) (Sum.inl k) = none
  | [], _, _ => rfl
  | p :: l, k, h => by
    have h1 : ¬ ((Sum.inl p.1 : Key) = Sum.inl k) := fun e => h (by rw [← Sum.inl.inj e]; simp)
    have h2 : valV (kvI l) (Sum.inl k) = none := kvI_none fun m => h (by simp [m])
    show valV ((Sum.inl p.1, p.2) :: kvI l) (Sum.inl k) = none
    rw [valV_neg h1, h2]
theorem kvI_some : ∀ {l : List (Int × V)} {i : Nat} {k : Int} {v : V}, (l.map (·.1)).Nodup → l[i]? = some (k, v) → valV (kvI l) (Sum.inl k) = some v
  | [], _, _, _, _, h => by simp at h
  | p :: l, 0, k, v, _, h => by
    have e : p = (k, v) := by simpa using h
    subst e
    exact valV_pos rfl
  | p :: l, i + 1, k, v, nd, h => by
    have h' : l[i]? = some (k, v) := by simpa using h
    rw [List.map_cons] at nd
    obtain ⟨n1, n2⟩ := List.nodup_cons.mp nd
    have h1 : ¬ ((Sum.inl p.1 : Key) = Sum.inl k) := fun e => n1 (by rw [Sum.inl.inj e]; exact List.mem_map.mpr ⟨_, getElem?_mem' h', rfl⟩)
    show valV ((Sum.inl p.1, p.2) :: kvI l) (Sum.inl k) = some v
    rw [valV_neg h1]
    exact kvI_some n2 h'
theorem kvI_isSome {l : List (Int × V)} {k : Int} : (valV (kvI l) (Sum.inl k)).isSome = decide (k ∈ l.map (·.1)) := by
  rw [← valV_any]
  induction l with
  | nil => rfl
  | cons p l ih =>
    show (decide ((Sum.inl p.1 : Key) = Sum.inl k) || (kvI l).any _) = _
    rw [ih]
    by_cases e : p.1 = k
    · simp [e]
    · have h1 : ¬ ((Sum.inl p.1 : Key) = Sum.inl k) := fun q => e (Sum.inl.inj q)
      have h2 : ¬ k = p.1 := fun q => e q.symm
      simp [h1, h2]
theorem kvI_put {l : List (Int × V)} {k : Int} {v : V} (h : k ∉ l.map (·.1)) : putK (kvI l) (Sum.inl k) v = kvI (l ++ [(k, v)]) := by
  rw [putK_new v (kvI_none h), kvI_snoc]
theorem kvI_len (l : List (Int × V)) : (kvI l).length = l.length := by unfold kvI; rw [List.length_map]
/-! ### data in the heap -/
def I2 (p : Int × Int) : List V := [.int p.1, .int p.2]
def I3 (p : Int × Int × Int) : List V := [.int p.1, .int p.2.1, .int p.2.2]
/-- a list of tuples -/
def Tab (H : Hp) (a : Addr) (rows : List (List V)) : Prop := ∃ ts : List Addr, H a = some (.lst (ts.map V.ref)) ∧ Paired (fun t r => H t = some (.tup r)) ts rows
def WebAt (H : Hp) (w : Addr) (ps es : List (Int × Int)) : Prop := ∃ a b, H w = some (.tup [.ref a, .ref b]) ∧ Tab H a (ps.map I2) ∧ Tab H b (es.map I2)
theorem Tab.sm {H H' : Hp} {a : Addr} {rows : List (List V)} (s : Same H H') (h : Tab H a rows) : Tab H' a rows := by
  obtain ⟨ts, e, p⟩ := h
  exact ⟨ts, s _ _ e, L2.Paired.mapP p fun t r h => s _ _ h⟩
theorem WebAt.sm {H H' : Hp} {w : Addr} {ps es : List (Int × Int)} (s : Same H H') (h : WebAt H w ps es) : WebAt H' w ps es := by
  obtain ⟨a, b, e, p, q⟩ := h
  exact ⟨a, b, s _ _ e, p.sm s, q.sm s⟩
theorem paired_get {α β : Type} {F : α → β → Prop} : ∀ {l : List α} {m : List β} {i : Nat} {y : β}, Paired F l m → m[i]? = some y → ∃ x, l[i]? = some x ∧ F x y
  | _, _, _, _, .nil, e => by simp at e
  | _, _, 0, _, .cons r _, e => by simp at e; subst e; exact ⟨_, rfl, r⟩
  | _, _, i + 1, _, .cons _ t, e => by
    obtain ⟨u, h1, h2⟩ := paired_get (i := i) t (by simpa using e)
    exact ⟨u, by simpa using h1, h2⟩
theorem paired_get' {α β : Type} {F : α → β → Prop} : ∀ {l : List α} {m : List β} {i : Nat} {x : α}, Paired F l m → l[i]? = some x → ∃ y, m[i]? = some y ∧ F x y
  | _, _, _, _, .nil, e => by simp at e
  | _, _, 0, _, .cons r _, e => by simp at e; subst e; exact ⟨_, rfl, r⟩
  | _, _, i + 1, _, .cons _ t, e => by
    obtain ⟨u, h1, h2⟩ := paired_get' (i := i) t (by simpa using e)
    exact ⟨u, by simpa using h1, h2⟩
theorem paired_len {α β : Type} {F : α → β → Prop} {l : List α} {m : List β} (h : Paired F l m) : l.length = m.length := Paired.length h
theorem paired_snoc {α β : Type} {F : α → β → Prop} : ∀ {l : List α} {m : List β} {x : α} {y : β}, Paired F l m → F x y → Paired F (l ++ [x]) (m ++ [y])
  | _, _, _, _, .nil, h => .cons h .nil
  | _, _, _, _, .cons r t, h => .cons r (paired_snoc t h)
theorem tab_at {α : Type} {H : Hp} {enc : α → List V} {ts : List Addr} {ps : List α} {i : Nat} {x : V} (pr : Paired (fun t r => H t = some (.tup r)) ts (ps.map enc)) (h : (ts.map V.ref)[i]? = some x) :
    ∃ t p, x = .ref t ∧ ts[i]? = some t ∧ ps[i]? = some p ∧ H t = some (.tup (enc p)) := by
  rw [List.getElem?_map] at h
  obtain ⟨t, ht, rfl⟩ := Option.map_eq_some_iff.mp h
  obtain ⟨r, hr, e⟩ := paired_get' pr ht
  rw [List.getElem?_map] at hr
  obtain ⟨p, hp, rfl⟩ := Option.map_eq_some_iff.mp hr
  exact ⟨t, p, rfl, ht, hp, e⟩
theorem tab_len {α : Type} {H : Hp} {enc : α → List V} {ts : List Addr} {ps : List α} (pr : Paired (fun t r => H t = some (.tup r)) ts (ps.map enc)) : ts.length = ps.length := by
  have := paired_len pr
  rw [List.length_map] at this
  exact this
theorem tab_sm {H H' : Hp} {ts : List Addr} {rows : List (List V)} (s : Same H H') (pr : Paired (fun t r => H t = some (.tup r)) ts rows) : Paired (fun t r => H' t = some (.tup r)) ts rows := L2.Paired.mapP pr fun t r h => s _ _ h
theorem Tab.len {H : Hp} {a : Addr} {rows : List (List V)} (h : Tab H a rows) : ∃ ts : List Addr, H a = some (.lst (ts.map V.ref)) ∧ ts.length = rows.length := by
  obtain ⟨ts, e, p⟩ := h
  exact ⟨ts, e, paired_len p⟩
end K33
set_option Elab.async false
set_option linter.all false
set_option maxRecDepth 100000
set_option maxHeartbeats 4000000
/-! KF: the fields of the three classes (printed by genF.py). -/
namespace K33
open PySem L2
theorem r_fset {K : PySem.W.Frag} {σ : L2.St} {H : Hp} {ta tv : TE} {f : Str} {D : Ends} (h : tv σ H fun y H1 => ta σ H1 fun x H2 => ∃ a C dx fs, x = .ref a ∧ H2 a = some (.ins C dx fs) ∧ Cls K C ∧ NoAttr K C f ∧ fs.length < 1000 ∧ D.nx σ (upd H2 a (.ins C dx (putF f y fs)))) : sFld K ta tv f D σ H := h
theorem r_fsetL {K : PySem.W.Frag} {H : Hp} {f : Str} {a C dx : Addr} {fs : List (Str × V)} {y : V} {B : Hp → Prop} (h : H a = some (.ins C dx fs)) (c : Cls K C) (n : NoAttr K C f) (l : fs.length < 1000) (q : B (upd H a (.ins C dx (putF f y fs)))) :
    ∃ a' C dx fs, V.ref a = .ref a' ∧ H a' = some (.ins C dx fs) ∧ Cls K C ∧ NoAttr K C f ∧ fs.length < 1000 ∧ B (upd H a' (.ins C dx (putF f y fs))) := ⟨a, C, dx, fs, rfl, h, c, n, l, q⟩
theorem r_meth {σ : L2.St} {H : Hp} {C : Addr} {m : Str} {sp : Sp} {dvs : List V} {E : XK} {ta : TE} {t : TA} {Q : VK} (h : ta σ H fun x H1 => ∃ a dx fs, x = .ref a ∧ H1 a = some (.ins C dx fs) ∧ fs.lookup m = none ∧ t σ H1 fun vs H2 => sp (x :: (vs ++ dvs)) H2 Q E) : tMeth C m sp dvs E ta t σ H Q := h
theorem r_methL {H : Hp} {C a dx : Addr} {fs : List (Str × V)} {m : Str} {B : Prop} (h : H a = some (.ins C dx fs)) (n : fs.lookup m = none) (q : B) : ∃ a' dx fs, V.ref a = .ref a' ∧ H a' = some (.ins C dx fs) ∧ fs.lookup m = none ∧ B := ⟨a, dx, fs, rfl, h, n, q⟩
theorem r_make {σ : L2.St} {H : Hp} {C : Addr} {sp : Sp} {dvs : List V} {E : XK} {t : TA} {Q : VK} (h : t σ H fun vs H1 => ∀ x dx, H1 x = none → H1 dx = none → dx ≠ x → sp (.ref x :: (vs ++ dvs)) (upd (upd H1 dx (.own x)) x (.ins C dx [])) (fun v H2 => v = .non ∧ Q (.ref x) H2) E) : tMake C sp dvs E t σ H Q := h
theorem lk_pos {f : Str} {v : V} {fs : List (Str × V)} : (putF f v fs).lookup f = some v := by rw [lookup_putF, if_pos rfl]
theorem lk_neg {f g : Str} {u v : V} {fs : List (Str × V)} (n : ¬ f = g) (h : fs.lookup f = some v) : (putF g u fs).lookup f = some v := by rw [lookup_putF, if_neg n]; exact h
theorem putF_len (f : Str) (v : V) : ∀ fs : List (Str × V), (putF f v fs).length ≤ fs.length + 1
  | [] => by simp [putF]
  | p :: r => by
    have := putF_len f v r
    unfold putF
    split
    · simp
    · simp only [List.length_cons]; omega

/-- the fields of a Flow -/
def flF (a0 a1 a2 : V) : List (Str × V) := putF "rooms" a2 (putF "heads" a1 (putF "leaving" a0 []))
theorem flF_leaving (a0 a1 a2 : V) : (flF a0 a1 a2).lookup ("leaving" : Str) = some a0 := by
  unfold flF
  rw [lookup_putF, if_neg (by decide +kernel), lookup_putF, if_neg (by decide +kernel), lookup_putF, if_pos rfl]
theorem flF_heads (a0 a1 a2 : V) : (flF a0 a1 a2).lookup ("heads" : Str) = some a1 := by
  unfold flF
  rw [lookup_putF, if_neg (by decide +kernel), lookup_putF, if_pos rfl]
theorem flF_rooms (a0 a1 a2 : V) : (flF a0 a1 a2).lookup ("rooms" : Str) = some a2 := by
  unfold flF
  rw [lookup_putF, if_pos rfl]
theorem pfF1_leaving (a0 : V) : (putF "leaving" a0 []).lookup ("leaving" : Str) = some a0 := by rw [lookup_putF, if_pos rfl]
theorem pfF2_leaving (a0 a1 : V) : (putF "heads" a1 (putF "leaving" a0 [])).lookup ("leaving" : Str) = some a0 := by rw [lookup_putF, if_neg (by decide +kernel), lookup_putF, if_pos rfl]
theorem pfF2_heads (a0 a1 : V) : (putF "heads" a1 (putF "leaving" a0 [])).lookup ("heads" : Str) = some a1 := by rw [lookup_putF, if_pos rfl]
theorem pfF3_leaving (a0 a1 a2 : V) : (putF "rooms" a2 (putF "heads" a1 (putF "leaving" a0 []))).lookup ("leaving" : Str) = some a0 := by rw [lookup_putF, if_neg (by decide +kernel), lookup_putF, if_neg (by decide +kernel), lookup_putF, if_pos rfl]
theorem pfF3_heads (a0 a1 a2 : V) : (putF "rooms" a2 (putF "heads" a1 (putF "leaving" a0 []))).lookup ("heads" : Str) = some a1 := by rw [lookup_putF, if_neg (by decide +kernel), lookup_putF, if_pos rfl]
theorem pfF3_rooms (a0 a1 a2 : V) : (putF "rooms" a2 (putF "heads" a1 (putF "leaving" a0 []))).lookup ("rooms" : Str) = some a2 := by rw [lookup_putF, if_pos rfl]
theorem flF_no_put (a0 a1 a2 : V) : (flF a0 a1 a2).lookup ("put" : Str) = none := by
  unfold flF
  rw [lookup_putF, if_neg (by decide +kernel), lookup_putF, if_neg (by decide +kernel), lookup_putF, if_neg (by decide +kernel)]
  rfl
theorem flF_no_along (a0 a1 a2 : V) : (flF a0 a1 a2).lookup ("along" : Str) = none := by
  unfold flF
  rw [lookup_putF, if_neg (by decide +kernel), lookup_putF, if_neg (by decide +kernel), lookup_putF, if_neg (by decide +kernel)]
  rfl
theorem flF_no_met_from (a0 a1 a2 : V) : (flF a0 a1 a2).lookup ("met_from" : Str) = none := by
  unfold flF
  rw [lookup_putF, if_neg (by decide +kernel), lookup_putF, if_neg (by decide +kernel), lookup_putF, if_neg (by decide +kernel)]
  rfl
theorem flF_no_way_to (a0 a1 a2 : V) : (flF a0 a1 a2).lookup ("way_to" : Str) = none := by
  unfold flF
  rw [lookup_putF, if_neg (by decide +kernel), lookup_putF, if_neg (by decide +kernel), lookup_putF, if_neg (by decide +kernel)]
  rfl
theorem flF_no_fill (a0 a1 a2 : V) : (flF a0 a1 a2).lookup ("fill" : Str) = none := by
  unfold flF
  rw [lookup_putF, if_neg (by decide +kernel), lookup_putF, if_neg (by decide +kernel), lookup_putF, if_neg (by decide +kernel)]
  rfl
/-- the class at C is Flow -/
structure IsF (K : PySem.W.Frag) (C : Addr) : Prop where
  cl : Cls K C
  n_leaving : NoAttr K C "leaving"
  n_heads : NoAttr K C "heads"
  n_rooms : NoAttr K C "rooms"
/-- the fields of a Doubled -/
def flD (a0 a1 a2 a3 a4 a5 : V) : List (Str × V) := putF "arcs" a5 (putF "end" a4 (putF "start" a3 (putF "flow" a2 (putF "many" a1 (putF "whole_web" a0 [])))))
theorem flD_whole_web (a0 a1 a2 a3 a4 a5 : V) : (flD a0 a1 a2 a3 a4 a5).lookup ("whole_web" : Str) = some a0 := by
  unfold flD
  rw [lookup_putF, if_neg (by decide +kernel), lookup_putF, if_neg (by decide +kernel), lookup_putF, if_neg (by decide +kernel), lookup_putF, if_neg (by decide +kernel), lookup_putF, if_neg (by decide +kernel), lookup_putF, if_pos rfl]
theorem flD_many (a0 a1 a2 a3 a4 a5 : V) : (flD a0 a1 a2 a3 a4 a5).lookup ("many" : Str) = some a1 := by
  unfold flD
  rw [lookup_putF, if_neg (by decide +kernel), lookup_putF, if_neg (by decide +kernel), lookup_putF, if_neg (by decide +kernel), lookup_putF, if_neg (by decide +kernel), lookup_putF, if_pos rfl]
theorem flD_flow (a0 a1 a2 a3 a4 a5 : V) : (flD a0 a1 a2 a3 a4 a5).lookup ("flow" : Str) = some a2 := by
  unfold flD
  rw [lookup_putF, if_neg (by decide +kernel), lookup_putF, if_neg (by decide +kernel), lookup_putF, if_neg (by decide +kernel), lookup_putF, if_pos rfl]
theorem flD_start (a0 a1 a2 a3 a4 a5 : V) : (flD a0 a1 a2 a3 a4 a5).lookup ("start" : Str) = some a3 := by
  unfold flD
  rw [lookup_putF, if_neg (by decide +kernel), lookup_putF, if_neg (by decide +kernel), lookup_putF, if_pos rfl]
theorem flD_end (a0 a1 a2 a3 a4 a5 : V) : (flD a0 a1 a2 a3 a4 a5).lookup ("end" : Str) = some a4 := by
  unfold flD
  rw [lookup_putF, if_neg (by decide +kernel), lookup_putF, if_pos rfl]
theorem flD_arcs (a0 a1 a2 a3 a4 a5 : V) : (flD a0 a1 a2 a3 a4 a5).lookup ("arcs" : Str) = some a5 := by
  unfold flD
  rw [lookup_putF, if_pos rfl]
theorem pfD1_whole_web (a0 : V) : (putF "whole_web" a0 []).lookup ("whole_web" : Str) = some a0 := by rw [lookup_putF, if_pos rfl]
theorem pfD2_whole_web (a0 a1 : V) : (putF "many" a1 (putF "whole_web" a0 [])).lookup ("whole_web" : Str) = some a0 := by rw [lookup_putF, if_neg (by decide +kernel), lookup_putF, if_pos rfl]
theorem pfD2_many (a0 a1 : V) : (putF "many" a1 (putF "whole_web" a0 [])).lookup ("many" : Str) = some a1 := by rw [lookup_putF, if_pos rfl]
theorem pfD3_whole_web (a0 a1 a2 : V) : (putF "flow" a2 (putF "many" a1 (putF "whole_web" a0 []))).lookup ("whole_web" : Str) = some a0 := by rw [lookup_putF, if_neg (by decide +kernel), lookup_putF, if_neg (by decide +kernel), lookup_putF, if_pos rfl]
theorem pfD3_many (a0 a1 a2 : V) : (putF "flow" a2 (putF "many" a1 (putF "whole_web" a0 []))).lookup ("many" : Str) = some a1 := by rw [lookup_putF, if_neg (by decide +kernel), lookup_putF, if_pos rfl]
theorem pfD3_flow (a0 a1 a2 : V) : (putF "flow" a2 (putF "many" a1 (putF "whole_web" a0 []))).lookup ("flow" : Str) = some a2 := by rw [lookup_putF, if_pos rfl]
theorem pfD4_whole_web (a0 a1 a2 a3 : V) : (putF "start" a3 (putF "flow" a2 (putF "many" a1 (putF "whole_web" a0 [])))).lookup ("whole_web" : Str) = some a0 := by rw [lookup_putF, if_neg (by decide +kernel), lookup_putF, if_neg (by decide +kernel), lookup_putF, if_neg (by decide +kernel), lookup_putF, if_pos rfl]
theorem pfD4_many (a0 a1 a2 a3 : V) : (putF "start" a3 (putF "flow" a2 (putF "many" a1 (putF "whole_web" a0 [])))).lookup ("many" : Str) = some a1 := by rw [lookup_putF, if_neg (by decide +kernel), lookup_putF, if_neg (by decide +kernel), lookup_putF, if_pos rfl]
theorem pfD4_flow (a0 a1 a2 a3 : V) : (putF "start" a3 (putF "flow" a2 (putF "many" a1 (putF "whole_web" a0 [])))).lookup ("flow" : Str) = some a2 := by rw [lookup_putF, if_neg (by decide +kernel), lookup_putF, if_pos rfl]
theorem pfD4_start (a0 a1 a2 a3 : V) : (putF "start" a3 (putF "flow" a2 (putF "many" a1 (putF "whole_web" a0 [])))).lookup ("start" : Str) = some a3 := by rw [lookup_putF, if_pos rfl]
theorem pfD5_whole_web (a0 a1 a2 a3 a4 : V) : (putF "end" a4 (putF "start" a3 (putF "flow" a2 (putF "many" a1 (putF "whole_web" a0 []))))).lookup ("whole_web" : Str) = some a0 := by rw [lookup_putF, if_neg (by decide +kernel), lookup_putF, if_neg (by decide +kernel), lookup_putF, if_neg (by decide +kernel), lookup_putF, if_neg (by decide +kernel), lookup_putF, if_pos rfl]
theorem pfD5_many (a0 a1 a2 a3 a4 : V) : (putF "end" a4 (putF "start" a3 (putF "flow" a2 (putF "many" a1 (putF "whole_web" a0 []))))).lookup ("many" : Str) = some a1 := by rw [lookup_putF, if_neg (by decide +kernel), lookup_putF, if_neg (by decide +kernel), lookup_putF, if_neg (by decide +kernel), lookup_putF, if_pos rfl]
theorem pfD5_flow (a0 a1 a2 a3 a4 : V) : (putF "end" a4 (putF "start" a3 (putF "flow" a2 (putF "many" a1 (putF "whole_web" a0 []))))).lookup ("flow" : Str) = some a2 := by rw [lookup_putF, if_neg (by decide +kernel), lookup_putF, if_neg (by decide +kernel), lookup_putF, if_pos rfl]
theorem pfD5_start (a0 a1 a2 a3 a4 : V) : (putF "end" a4 (putF "start" a3 (putF "flow" a2 (putF "many" a1 (putF "whole_web" a0 []))))).lookup ("start" : Str) = some a3 := by rw [lookup_putF, if_neg (by decide +kernel), lookup_putF, if_pos rfl]
theorem pfD5_end (a0 a1 a2 a3 a4 : V) : (putF "end" a4 (putF "start" a3 (putF "flow" a2 (putF "many" a1 (putF "whole_web" a0 []))))).lookup ("end" : Str) = some a4 := by rw [lookup_putF, if_pos rfl]
theorem pfD6_whole_web (a0 a1 a2 a3 a4 a5 : V) : (putF "arcs" a5 (putF "end" a4 (putF "start" a3 (putF "flow" a2 (putF "many" a1 (putF "whole_web" a0 [])))))).lookup ("whole_web" : Str) = some a0 := by rw [lookup_putF, if_neg (by decide +kernel), lookup_putF, if_neg (by decide +kernel), lookup_putF, if_neg (by decide +kernel), lookup_putF, if_neg (by decide +kernel), lookup_putF, if_neg (by decide +kernel), lookup_putF, if_pos rfl]
theorem pfD6_many (a0 a1 a2 a3 a4 a5 : V) : (putF "arcs" a5 (putF "end" a4 (putF "start" a3 (putF "flow" a2 (putF "many" a1 (putF "whole_web" a0 [])))))).lookup ("many" : Str) = some a1 := by rw [lookup_putF, if_neg (by decide +kernel), lookup_putF, if_neg (by decide +kernel), lookup_putF, if_neg (by decide +kernel), lookup_putF, if_neg (by decide +kernel), lookup_putF, if_pos rfl]
theorem pfD6_flow (a0 a1 a2 a3 a4 a5 : V) : (putF "arcs" a5 (putF "end" a4 (putF "start" a3 (putF "flow" a2 (putF "many" a1 (putF "whole_web" a0 [])))))).lookup ("flow" : Str) = some a2 := by rw [lookup_putF, if_neg (by decide +kernel), lookup_putF, if_neg (by decide +kernel), lookup_putF, if_neg (by decide +kernel), lookup_putF, if_pos rfl]
theorem pfD6_start (a0 a1 a2 a3 a4 a5 : V) : (putF "arcs" a5 (putF "end" a4 (putF "start" a3 (putF "flow" a2 (putF "many" a1 (putF "whole_web" a0 [])))))).lookup ("start" : Str) = some a3 := by rw [lookup_putF, if_neg (by decide +kernel), lookup_putF, if_neg (by decide +kernel), lookup_putF, if_pos rfl]
theorem pfD6_end (a0 a1 a2 a3 a4 a5 : V) : (putF "arcs" a5 (putF "end" a4 (putF "start" a3 (putF "flow" a2 (putF "many" a1 (putF "whole_web" a0 [])))))).lookup ("end" : Str) = some a4 := by rw [lookup_putF, if_neg (by decide +kernel), lookup_putF, if_pos rfl]
theorem pfD6_arcs (a0 a1 a2 a3 a4 a5 : V) : (putF "arcs" a5 (putF "end" a4 (putF "start" a3 (putF "flow" a2 (putF "many" a1 (putF "whole_web" a0 [])))))).lookup ("arcs" : Str) = some a5 := by rw [lookup_putF, if_pos rfl]
theorem flD_no_halves (a0 a1 a2 a3 a4 a5 : V) : (flD a0 a1 a2 a3 a4 a5).lookup ("halves" : Str) = none := by
  unfold flD
  rw [lookup_putF, if_neg (by decide +kernel), lookup_putF, if_neg (by decide +kernel), lookup_putF, if_neg (by decide +kernel), lookup_putF, if_neg (by decide +kernel), lookup_putF, if_neg (by decide +kernel), lookup_putF, if_neg (by decide +kernel)]
  rfl
theorem flD_no_dues (a0 a1 a2 a3 a4 a5 : V) : (flD a0 a1 a2 a3 a4 a5).lookup ("dues" : Str) = none := by
  unfold flD
  rw [lookup_putF, if_neg (by decide +kernel), lookup_putF, if_neg (by decide +kernel), lookup_putF, if_neg (by decide +kernel), lookup_putF, if_neg (by decide +kernel), lookup_putF, if_neg (by decide +kernel), lookup_putF, if_neg (by decide +kernel)]
  rfl
/-- the class at C is Doubled -/
structure IsD (K : PySem.W.Frag) (C : Addr) : Prop where
  cl : Cls K C
  n_whole_web : NoAttr K C "whole_web"
  n_many : NoAttr K C "many"
  n_flow : NoAttr K C "flow"
  n_start : NoAttr K C "start"
  n_end : NoAttr K C "end"
  n_arcs : NoAttr K C "arcs"
/-- the fields of a Chain -/
def flC (a0 a1 a2 a3 a4 a5 : V) : List (Str × V) := putF "outs" a5 (putF "ins" a4 (putF "due_ties" a3 (putF "paid" a2 (putF "near" a1 (putF "prices" a0 [])))))
theorem flC_prices (a0 a1 a2 a3 a4 a5 : V) : (flC a0 a1 a2 a3 a4 a5).lookup ("prices" : Str) = some a0 := by
  unfold flC
  rw [lookup_putF, if_neg (by decide +kernel), lookup_putF, if_neg (by decide +kernel), lookup_putF, if_neg (by decide +kernel), lookup_putF, if_neg (by decide +kernel), lookup_putF, if_neg (by decide +kernel), lookup_putF, if_pos rfl]
theorem flC_near (a0 a1 a2 a3 a4 a5 : V) : (flC a0 a1 a2 a3 a4 a5).lookup ("near" : Str) = some a1 := by
  unfold flC
  rw [lookup_putF, if_neg (by decide +kernel), lookup_putF, if_neg (by decide +kernel), lookup_putF, if_neg (by decide +kernel), lookup_putF, if_neg (by decide +kernel), lookup_putF, if_pos rfl]
theorem flC_paid (a0 a1 a2 a3 a4 a5 : V) : (flC a0 a1 a2 a3 a4 a5).lookup ("paid" : Str) = some a2 := by
  unfold flC
  rw [lookup_putF, if_neg (by decide +kernel), lookup_putF, if_neg (by decide +kernel), lookup_putF, if_neg (by decide +kernel), lookup_putF, if_pos rfl]
theorem flC_due_ties (a0 a1 a2 a3 a4 a5 : V) : (flC a0 a1 a2 a3 a4 a5).lookup ("due_ties" : Str) = some a3 := by
  unfold flC
  rw [lookup_putF, if_neg (by decide +kernel), lookup_putF, if_neg (by decide +kernel), lookup_putF, if_pos rfl]
theorem flC_ins (a0 a1 a2 a3 a4 a5 : V) : (flC a0 a1 a2 a3 a4 a5).lookup ("ins" : Str) = some a4 := by
  unfold flC
  rw [lookup_putF, if_neg (by decide +kernel), lookup_putF, if_pos rfl]
theorem flC_outs (a0 a1 a2 a3 a4 a5 : V) : (flC a0 a1 a2 a3 a4 a5).lookup ("outs" : Str) = some a5 := by
  unfold flC
  rw [lookup_putF, if_pos rfl]
theorem pfC1_prices (a0 : V) : (putF "prices" a0 []).lookup ("prices" : Str) = some a0 := by rw [lookup_putF, if_pos rfl]
theorem pfC2_prices (a0 a1 : V) : (putF "near" a1 (putF "prices" a0 [])).lookup ("prices" : Str) = some a0 := by rw [lookup_putF, if_neg (by decide +kernel), lookup_putF, if_pos rfl]
theorem pfC2_near (a0 a1 : V) : (putF "near" a1 (putF "prices" a0 [])).lookup ("near" : Str) = some a1 := by rw [lookup_putF, if_pos rfl]
theorem pfC3_prices (a0 a1 a2 : V) : (putF "paid" a2 (putF "near" a1 (putF "prices" a0 []))).lookup ("prices" : Str) = some a0 := by rw [lookup_putF, if_neg (by decide +kernel), lookup_putF, if_neg (by decide +kernel), lookup_putF, if_pos rfl]
theorem pfC3_near (a0 a1 a2 : V) : (putF "paid" a2 (putF "near" a1 (putF "prices" a0 []))).lookup ("near" : Str) = some a1 := by rw [lookup_putF, if_neg (by decide +kernel), lookup_putF, if_pos rfl]
theorem pfC3_paid (a0 a1 a2 : V) : (putF "paid" a2 (putF "near" a1 (putF "prices" a0 []))).lookup ("paid" : Str) = some a2 := by rw [lookup_putF, if_pos rfl]
theorem pfC4_prices (a0 a1 a2 a3 : V) : (putF "due_ties" a3 (putF "paid" a2 (putF "near" a1 (putF "prices" a0 [])))).lookup ("prices" : Str) = some a0 := by rw [lookup_putF, if_neg (by decide +kernel), lookup_putF, if_neg (by decide +kernel), lookup_putF, if_neg (by decide +kernel), lookup_putF, if_pos rfl]
theorem pfC4_near (a0 a1 a2 a3 : V) : (putF "due_ties" a3 (putF "paid" a2 (putF "near" a1 (putF "prices" a0 [])))).lookup ("near" : Str) = some a1 := by rw [lookup_putF, if_neg (by decide +kernel), lookup_putF, if_neg (by decide +kernel), lookup_putF, if_pos rfl]
theorem pfC4_paid (a0 a1 a2 a3 : V) : (putF "due_ties" a3 (putF "paid" a2 (putF "near" a1 (putF "prices" a0 [])))).lookup ("paid" : Str) = some a2 := by rw [lookup_putF, if_neg (by decide +kernel), lookup_putF, if_pos rfl]
theorem pfC4_due_ties (a0 a1 a2 a3 : V) : (putF "due_ties" a3 (putF "paid" a2 (putF "near" a1 (putF "prices" a0 [])))).lookup ("due_ties" : Str) = some a3 := by rw [lookup_putF, if_pos rfl]
theorem pfC5_prices (a0 a1 a2 a3 a4 : V) : (putF "ins" a4 (putF "due_ties" a3 (putF "paid" a2 (putF "near" a1 (putF "prices" a0 []))))).lookup ("prices" : Str) = some a0 := by rw [lookup_putF, if_neg (by decide +kernel), lookup_putF, if_neg (by decide +kernel), lookup_putF, if_neg (by decide +kernel), lookup_putF, if_neg (by decide +kernel), lookup_putF, if_pos rfl]
theorem pfC5_near (a0 a1 a2 a3 a4 : V) : (putF "ins" a4 (putF "due_ties" a3 (putF "paid" a2 (putF "near" a1 (putF "prices" a0 []))))).lookup ("near" : Str) = some a1 := by rw [lookup_putF, if_neg (by decide +kernel), lookup_putF, if_neg (by decide +kernel), lookup_putF, if_neg (by decide +kernel), lookup_putF, if_pos rfl]
theorem pfC5_paid (a0 a1 a2 a3 a4 : V) : (putF "ins" a4 (putF "due_ties" a3 (putF "paid" a2 (putF "near" a1 (putF "prices" a0 []))))).lookup ("paid" : Str) = some a2 := by rw [lookup_putF, if_neg (by decide +kernel), lookup_putF, if_neg (by decide +kernel), lookup_putF, if_pos rfl]
theorem pfC5_due_ties (a0 a1 a2 a3 a4 : V) : (putF "ins" a4 (putF "due_ties" a3 (putF "paid" a2 (putF "near" a1 (putF "prices" a0 []))))).lookup ("due_ties" : Str) = some a3 := by rw [lookup_putF, if_neg (by decide +kernel), lookup_putF, if_pos rfl]
theorem pfC5_ins (a0 a1 a2 a3 a4 : V) : (putF "ins" a4 (putF "due_ties" a3 (putF "paid" a2 (putF "near" a1 (putF "prices" a0 []))))).lookup ("ins" : Str) = some a4 := by rw [lookup_putF, if_pos rfl]
theorem pfC6_prices (a0 a1 a2 a3 a4 a5 : V) : (putF "outs" a5 (putF "ins" a4 (putF "due_ties" a3 (putF "paid" a2 (putF "near" a1 (putF "prices" a0 [])))))).lookup ("prices" : Str) = some a0 := by rw [lookup_putF, if_neg (by decide +kernel), lookup_putF, if_neg (by decide +kernel), lookup_putF, if_neg (by decide +kernel), lookup_putF, if_neg (by decide +kernel), lookup_putF, if_neg (by decide +kernel), lookup_putF, if_pos rfl]
theorem pfC6_near (a0 a1 a2 a3 a4 a5 : V) : (putF "outs" a5 (putF "ins" a4 (putF "due_ties" a3 (putF "paid" a2 (putF "near" a1 (putF "prices" a0 [])))))).lookup ("near" : Str) = some a1 := by rw [lookup_putF, if_neg (by decide +kernel), lookup_putF, if_neg (by decide +kernel), lookup_putF, if_neg (by decide +kernel), lookup_putF, if_neg (by decide +kernel), lookup_putF, if_pos rfl]
theorem pfC6_paid (a0 a1 a2 a3 a4 a5 : V) : (putF "outs" a5 (putF "ins" a4 (putF "due_ties" a3 (putF "paid" a2 (putF "near" a1 (putF "prices" a0 [])))))).lookup ("paid" : Str) = some a2 := by rw [lookup_putF, if_neg (by decide +kernel), lookup_putF, if_neg (by decide +kernel), lookup_putF, if_neg (by decide +kernel), lookup_putF, if_pos rfl]
theorem pfC6_due_ties (a0 a1 a2 a3 a4 a5 : V) : (putF "outs" a5 (putF "ins" a4 (putF "due_ties" a3 (putF "paid" a2 (putF "near" a1 (putF "prices" a0 [])))))).lookup ("due_ties" : Str) = some a3 := by rw [lookup_putF, if_neg (by decide +kernel), lookup_putF, if_neg (by decide +kernel), lookup_putF, if_pos rfl]
theorem pfC6_ins (a0 a1 a2 a3 a4 a5 : V) : (putF "outs" a5 (putF "ins" a4 (putF "due_ties" a3 (putF "paid" a2 (putF "near" a1 (putF "prices" a0 [])))))).lookup ("ins" : Str) = some a4 := by rw [lookup_putF, if_neg (by decide +kernel), lookup_putF, if_pos rfl]
theorem pfC6_outs (a0 a1 a2 a3 a4 a5 : V) : (putF "outs" a5 (putF "ins" a4 (putF "due_ties" a3 (putF "paid" a2 (putF "near" a1 (putF "prices" a0 [])))))).lookup ("outs" : Str) = some a5 := by rw [lookup_putF, if_pos rfl]
theorem flC_no_is_loose (a0 a1 a2 a3 a4 a5 : V) : (flC a0 a1 a2 a3 a4 a5).lookup ("is_loose" : Str) = none := by
  unfold flC
  rw [lookup_putF, if_neg (by decide +kernel), lookup_putF, if_neg (by decide +kernel), lookup_putF, if_neg (by decide +kernel), lookup_putF, if_neg (by decide +kernel), lookup_putF, if_neg (by decide +kernel), lookup_putF, if_neg (by decide +kernel)]
  rfl
theorem flC_no_has_due (a0 a1 a2 a3 a4 a5 : V) : (flC a0 a1 a2 a3 a4 a5).lookup ("has_due" : Str) = none := by
  unfold flC
  rw [lookup_putF, if_neg (by decide +kernel), lookup_putF, if_neg (by decide +kernel), lookup_putF, if_neg (by decide +kernel), lookup_putF, if_neg (by decide +kernel), lookup_putF, if_neg (by decide +kernel), lookup_putF, if_neg (by decide +kernel)]
  rfl
theorem flC_no_is_so (a0 a1 a2 a3 a4 a5 : V) : (flC a0 a1 a2 a3 a4 a5).lookup ("is_so" : Str) = none := by
  unfold flC
  rw [lookup_putF, if_neg (by decide +kernel), lookup_putF, if_neg (by decide +kernel), lookup_putF, if_neg (by decide +kernel), lookup_putF, if_neg (by decide +kernel), lookup_putF, if_neg (by decide +kernel), lookup_putF, if_neg (by decide +kernel)]
  rfl
theorem flC_no_take (a0 a1 a2 a3 a4 a5 : V) : (flC a0 a1 a2 a3 a4 a5).lookup ("take" : Str) = none := by
  unfold flC
  rw [lookup_putF, if_neg (by decide +kernel), lookup_putF, if_neg (by decide +kernel), lookup_putF, if_neg (by decide +kernel), lookup_putF, if_neg (by decide +kernel), lookup_putF, if_neg (by decide +kernel), lookup_putF, if_neg (by decide +kernel)]
  rfl
theorem flC_no_lets (a0 a1 a2 a3 a4 a5 : V) : (flC a0 a1 a2 a3 a4 a5).lookup ("lets" : Str) = none := by
  unfold flC
  rw [lookup_putF, if_neg (by decide +kernel), lookup_putF, if_neg (by decide +kernel), lookup_putF, if_neg (by decide +kernel), lookup_putF, if_neg (by decide +kernel), lookup_putF, if_neg (by decide +kernel), lookup_putF, if_neg (by decide +kernel)]
  rfl
theorem flC_no_whole (a0 a1 a2 a3 a4 a5 : V) : (flC a0 a1 a2 a3 a4 a5).lookup ("whole" : Str) = none := by
  unfold flC
  rw [lookup_putF, if_neg (by decide +kernel), lookup_putF, if_neg (by decide +kernel), lookup_putF, if_neg (by decide +kernel), lookup_putF, if_neg (by decide +kernel), lookup_putF, if_neg (by decide +kernel), lookup_putF, if_neg (by decide +kernel)]
  rfl
/-- the class at C is Chain -/
structure IsC (K : PySem.W.Frag) (C : Addr) : Prop where
  cl : Cls K C
  n_prices : NoAttr K C "prices"
  n_near : NoAttr K C "near"
  n_paid : NoAttr K C "paid"
  n_due_ties : NoAttr K C "due_ties"
  n_ins : NoAttr K C "ins"
  n_outs : NoAttr K C "outs"
end K33
set_option Elab.async false
set_option linter.all false
set_option maxRecDepth 100000
set_option maxHeartbeats 4000000
/-! K3: looking at a web. -/
namespace K33
open PySem L2
/-! one step of a reading -/
local macro_rules | `(tactic| walk_at "look") => `(tactic| first | assumption | exact upd_same | (refine Same.at' (by assumption) ?_; walk_at "look"))
local macro_rules | `(tactic| walk_at "side") => `(tactic| first | exact .inr ⟨by decide, by decide⟩ | exact .inl ⟨by decide, by decide⟩ | (show (0 : Int) < _; decide) | exact ⟨by decide, by decide⟩ | omega)
local macro_rules | `(tactic| walk_at "tt") => `(tactic| first | assumption | exact decide_eq_true (by assumption) | exact decide_eq_true rfl | (rw [decide_eq_false (by assumption)]; rfl) | rfl | exact decide_eq_true (by omega) | (rw [decide_eq_false (by omega)]; rfl))
local macro_rules | `(tactic| walk_at "ff") => `(tactic| first | assumption | exact decide_eq_false (by assumption) | (rw [decide_eq_true (by assumption)]; rfl) | (rw [decide_eq_true rfl]; rfl) | rfl | exact decide_eq_false (by omega) | (rw [decide_eq_true (by omega)]; rfl))
local macro_rules | `(tactic| walk_at "fld") => `(tactic| fail)
local macro_rules | `(tactic| walk_at "s1") => `(tactic| first
  | with_reducible refine r_seq ?_
  | with_reducible refine r_asg ?_
  | with_reducible refine r_name ?_
  | ((with_reducible refine' r_var ?hv ?_); (case hv => exact rfl))
  | with_reducible refine r_c ?_
  | with_reducible refine r_op ?_
  | with_reducible refine r_un ?_
  | with_reducible refine r_neg ?_
  | with_reducible refine r_I0 ?_
  | ((with_reducible refine' r_I ?hc ?_); (case hc => walk_at "side"))
  | with_reducible refine r_eqI ?_
  | with_reducible refine r_neI ?_
  | with_reducible refine r_eqS ?_
  | with_reducible refine r_neS ?_
  | with_reducible refine r_B ?_
  | with_reducible refine r_test ?_
  | with_reducible refine r_chain ?_
  | with_reducible refine r_and ?_
  | with_reducible refine r_or ?_
  | with_reducible refine r_not ?_
  | with_reducible refine r_andV ?_
  | with_reducible refine r_orV ?_
  | with_reducible refine r_notV ?_
  | with_reducible refine r_nil ?_
  | with_reducible refine r_cons ?_
  | with_reducible refine r_call ?_
  | with_reducible refine r_CB ?_
  | with_reducible refine r_fld ?_
  | with_reducible refine r_tup ?_
  | walk_at "fld"
  | with_reducible refine r_lst ?_
  | with_reducible refine r_if ?_
  | with_reducible refine r_drop ?_
  | with_reducible refine r_ret ?_
  | with_reducible refine r_retN ?_
  | with_reducible refine r_next ?_
  | with_reducible refine r_cont ?_
  | with_reducible refine r_bm ?_
  | with_reducible refine r_gcons ?_
  | with_reducible refine r_gnil ?_
  | with_reducible refine r_for ?_
  | with_reducible refine r_lc ?_
  | with_reducible refine r_yes ?_
  | with_reducible refine r_iEnum ?_
  | with_reducible refine r_iList ?_
  | with_reducible refine r_iTup ?_
  | with_reducible refine r_iZip ?_
  | with_reducible refine r_iRng1 ?_
  | with_reducible refine r_iRng2 ?_
  | with_reducible refine r_din ?_
  | with_reducible refine r_dnotin ?_
  | with_reducible refine r_dget ?_
  | with_reducible refine r_dget2 ?_
  | with_reducible refine r_dput ?_
  | with_reducible refine r_dnewK ?_
  | with_reducible refine r_gsub ?_
  | ((with_reducible refine' r_dinL (Rd.of ?h) ?_); (case h => walk_at "look"))
  | ((with_reducible refine' r_isD (Rd.of ?h) ?_); (case h => walk_at "look"))
  | ((with_reducible refine' r_dget2L (Rd.of ?h) ?_); (case h => walk_at "look"))
  | ((with_reducible refine' r_dgetL (Rd.of ?h) ?e ?_); (case h => walk_at "look"); (case e => first | assumption | rfl))
  | ((with_reducible refine' r_dgetL (rd_frz ?h) ?e ?_); (case h => assumption); (case e => first | assumption | rfl))
  | ((with_reducible refine' r_lt2 ?h1 ?h2 ?_); (case h1 => walk_at "look"); (case h2 => walk_at "look"))
  | with_reducible refine r_sl ?_
  | with_reducible refine r_noPart ?_
  | with_reducible refine r_part ?_
  | with_reducible refine r_exi ?_
  | ((with_reducible refine' r_tyL ?h ?_); (case h => walk_at "look"))
  | with_reducible refine r_isN ?_
  | with_reducible refine r_notN ?_
  | with_reducible refine r_isB ?_
  | with_reducible refine r_notB ?_
  | with_reducible refine r_min2' ?_
  | with_reducible refine r_max2' ?_
  | with_reducible refine r_isi (.base (.int _)) kII ?_
  | with_reducible refine r_isi (.base (.int _)) kIB ?_
  | with_reducible refine r_isi (.base (.str _)) kSS ?_
  | with_reducible refine r_isi (.base (.bl _)) kBB ?_
  | ((with_reducible refine' r_isi (.base (.tup ?h)) kTT ?_); (case h => walk_at "look"))
  | ((with_reducible refine' r_isi (.base (.lst ?h)) kLL ?_); (case h => walk_at "look"))
  | ((with_reducible refine' r_lenS (Or.inr (SqT.of ?h)) ?_); (case h => walk_at "look"))
  | ((with_reducible refine' r_lenS (Or.inl (SqL.of ?h)) ?_); (case h => walk_at "look"))
  | ((with_reducible refine' r_ixT (SqT.of ?h) ?e ?_); (case h => walk_at "look"); (case e => rfl))
  | ((with_reducible refine' r_gtup (SqT.of ?h) ?e ?_); (case h => walk_at "look"); (case e => rfl))
  | ((with_reducible refine r_tlen ?e ?_); (case e => exact Nat.le_of_ble_eq_true rfl))
  | with_reducible refine r_iteT ?_
  | with_reducible refine r_iteF ?_
  | with_reducible refine r_exb2 ?_
  | ((with_reducible refine r_iteP ?hc ?_); (case hc => walk_at "tt"))
  | ((with_reducible refine r_iteN ?hc ?_); (case hc => walk_at "ff")))
local macro_rules | `(tactic| walk_at "s") => `(tactic| repeat (walk_at "s1"))

section
variable {P : Program} {w : World} {K : PySem.W.Frag} {mg : Str → Option Value} {base : Heap}
def spIsWhole : Sp := fun vs H Q _ => ∃ i : Int, vs = [.int i] ∧ Q (.bl true) H
theorem ok_is_whole {f : Addr} {fd : FuncData} (F : Fun K "is_whole" "is_whole" sis_whole f fd) (T : Txt K mg) : FnOk P w K mg base CX0 1 f fd ["thing"] spIsWhole := by
  refine F.ok scis_whole (fun vs H Q E h => ?_) (fun cdv A outer s H vs Q E hr h => ?_)
  · obtain ⟨i, rfl, _⟩ := h; rfl
  obtain ⟨i, rfl, k⟩ := h
  refine ⟨_, (pss_one (ps_ret (pe_and (pe_callB (isiK (K := K)) (by rfl) T.fIsinstance bt_isinstance (pa_cons (pv 0) (pa_cons (pg_ty (T := "int") T.fInt bt_int) pa_nil))) (pe_one (pe_not (pe_callB (isiK (K := K)) (by rfl) T.fIsinstance bt_isinstance (pa_cons (pv 0) (pa_cons (pg_ty (T := "bool") T.fBool bt_bool) pa_nil)))))))), ?_⟩
  walk_at "s"
  exact k
def spIsPair : Sp := fun vs H Q _ => ∃ (t : Addr) (i j : Int), vs = [.ref t] ∧ H t = some (.tup [.int i, .int j]) ∧ Q (.bl true) H
theorem ok_is_pair {f : Addr} {fd : FuncData} (F : Fun K "is_pair" "is_pair" sis_pair f fd) (T : Txt K mg) (C_is_whole : Can P w K mg base 1 "is_whole" ["thing"] spIsWhole) : FnOk P w K mg base CX0 2 f fd ["thing"] spIsPair := by
  refine F.ok scis_pair (fun vs H Q E h => ?_) (fun cdv A outer s H vs Q E hr h => ?_)
  · obtain ⟨t, i, j, rfl, _⟩ := h; rfl
  obtain ⟨t, i, j, rfl, ht, k⟩ := h
  refine ⟨_, (pss_one (ps_ret (pe_and (pe_callB (isiK (K := K)) (by rfl) T.fIsinstance bt_isinstance (pa_cons (pv 0) (pa_cons (pg_ty (T := "tuple") T.fTuple bt_tuple) pa_nil))) (pe_and (pe_cmpR op_eq (pe_callB (lenK (K := K)) (by rfl) T.fLen bt_len (pa_cons (pv 0) pa_nil)) pe_int (nomark _)) (pe_and (pc_can C_is_whole (hr.mono (by decide)) rfl (pa_cons (pe_ix (ixTK (K := K)) (pv 0) pe_int (fun _ _ => rfl)) pa_nil)) (pe_one (pc_can C_is_whole (hr.mono (by decide)) rfl (pa_cons (pe_ix (ixTK (K := K)) (pv 0) pe_int (fun _ _ => rfl)) pa_nil)))))))), ?_⟩
  walk_at "s"
  refine ⟨i, rfl, ?_⟩
  walk_at "s"
  refine ⟨j, rfl, ?_⟩
  exact k
def spPlaceStands : Sp := fun vs H Q _ => ∃ (t : Addr) (p c last paid : Int), vs = [.ref t, .int last, .int paid] ∧ H t = some (.tup [.int p, .int c]) ∧ last < p ∧ p ≤ 999 ∧ 1 ≤ c ∧ c ≤ 1000000000000 - paid ∧ Q (.bl true) H
theorem ok_place_stands {f : Addr} {fd : FuncData} (F : Fun K "place_stands" "place_stands" splace_stands f fd) (T : Txt K mg) (C_is_pair : Can P w K mg base 2 "is_pair" ["thing"] spIsPair) : FnOk P w K mg base CX0 3 f fd ["thing", "last", "paid"] spPlaceStands := by
  refine F.ok scplace_stands (fun vs H Q E h => ?_) (fun cdv A outer s H vs Q E hr h => ?_)
  · obtain ⟨t, p, c, last, paid, rfl, _⟩ := h; rfl
  obtain ⟨t, p, c, last, paid, rfl, ht, h1, h2, h3, h4, k⟩ := h
  refine ⟨_, (pss_cons (ps_if (pt_not (pt_val (pc_can C_is_pair (hr.mono (by decide)) rfl (pa_cons (pv 0) pa_nil))))
 (pss_one (ps_ret pe_bl))
 pss_nil)
 (pss_one (ps_ret (pe_and (pe_chain op_lt op_le (pv 1) (pe_ix (ixTK (K := K)) (pv 0) pe_int (fun _ _ => rfl)) (pg_int T.cLast)) (pe_one (pe_chain op_le op_le pe_int (pe_ix (ixTK (K := K)) (pv 0) pe_int (fun _ _ => rfl)) (pe_op op_sub (pg_int T.cPrices) (pv 2)))))))), ?_⟩
  walk_at "s"
  refine ⟨t, p, c, rfl, ht, ?_⟩
  walk_at "s"
  exact r_fin (by walk_at "tt") k
def spTieStands : Sp := fun vs H Q _ => ∃ (t b d : Addr) (e : Int × Int) (x y : Int) (kvs : List (Key × V)), vs = [.ref t, .ref b, .ref d] ∧ H t = some (.tup (I2 e)) ∧ H b = some (.tup [.int x, .int y]) ∧ H d = some (.dK kvs) ∧
  e.1 < e.2 ∧ (valV kvs (.inl e.1)).isSome = true ∧ (valV kvs (.inl e.2)).isSome = true ∧ lt2 (x, y) e ∧ Q (.bl true) H
theorem ok_tie_stands {f : Addr} {fd : FuncData} (F : Fun K "tie_stands" "tie_stands" stie_stands f fd) (T : Txt K mg) (C_is_pair : Can P w K mg base 2 "is_pair" ["thing"] spIsPair) : FnOk P w K mg base CX0 3 f fd ["thing", "before", "known"] spTieStands := by
  refine F.ok sctie_stands (fun vs H Q E h => ?_) (fun cdv A outer s H vs Q E hr h => ?_)
  · obtain ⟨t, b, d, e, x, y, kvs, rfl, _⟩ := h; rfl
  obtain ⟨t, b, d, ⟨e1, e2⟩, x, y, kvs, rfl, ht, hb, hd, h1, h2, h3, h4, k⟩ := h
  have ht : H t = some (.tup [.int e1, .int e2]) := ht
  have h1 : e1 < e2 := h1
  have h2 : (valV kvs (.inl e1)).isSome = true := h2
  have h3 : (valV kvs (.inl e2)).isSome = true := h3
  have h5 : HT.lexLt [x, y] [e1, e2] = true := lexLt2.mpr h4
  refine ⟨_, (pss_cons (ps_if (pt_not (pt_val (pc_can C_is_pair (hr.mono (by decide)) rfl (pa_cons (pv 0) pa_nil))))
 (pss_one (ps_ret pe_bl))
 pss_nil)
 (pss_one (ps_ret (pe_and (pe_cmpR op_lt (pe_ix (ixTK (K := K)) (pv 0) pe_int (fun _ _ => rfl)) (pe_ix (ixTK (K := K)) (pv 0) pe_int (fun _ _ => rfl)) (nomark _)) (pe_and (pe_cmp (pc_din (hu_of hr) (pe_ix (ixTK (K := K)) (pv 0) pe_int (fun _ _ => rfl)) (pv 2))) (pe_and (pe_cmp (pc_din (hu_of hr) (pe_ix (ixTK (K := K)) (pv 0) pe_int (fun _ _ => rfl)) (pv 2))) (pe_one (pe_cmpR (ltTK (K := K) hr.units0) (pv 1) (pv 0) (nomark _))))))))), ?_⟩
  walk_at "s"
  refine ⟨t, e1, e2, rfl, ht, ?_⟩
  walk_at "s"
  exact r_fin h5 k
def spBadPlace : Sp := fun vs H Q _ => ∃ (l : Addr) (ps : List (Int × Int)), vs = [.ref l] ∧ Tab H l (ps.map I2) ∧ PlacesOk ps ∧ ∀ H', Same H H' → Q .non H'
theorem ok_bad_place {f : Addr} {fd : FuncData} (F : Fun K "bad_place" "bad_place" sbad_place f fd) (T : Txt K mg) (C_place_stands : Can P w K mg base 3 "place_stands" ["thing", "last", "paid"] spPlaceStands) : FnOk P w K mg base CX0 4 f fd ["things"] spBadPlace := by
  refine F.ok scbad_place (fun vs H Q E h => ?_) (fun cdv A outer s H vs Q E hr h => ?_)
  · obtain ⟨l, ps, rfl, _⟩ := h; rfl
  obtain ⟨l, ps, rfl, ⟨ts, hl, pr⟩, ok, k⟩ := h
  have ln := tab_len pr
  refine ⟨_, (pss_cons (ps_set (i := 1) scbad_place.nd rfl (Or.inl rfl) (pe_un un_neg pe_int))
 (pss_cons (ps_set (i := 2) scbad_place.nd rfl (Or.inl rfl) pe_int)
 (pss_cons (ps_for PassesOwn.never rfl (piEK (K := K) (by rfl) T.fEnumerate (pa_cons (pv 0) pa_nil)) (pgTK (K := K) (n := 2) rfl (pgs_cons (pg_name (i := 3) scbad_place.nd rfl (Or.inl rfl)) (pgs_cons (pg_name (i := 4) scbad_place.nd rfl (Or.inl rfl)) pgs_nil)))
 (pss_cons (ps_if (pt_not (pt_val (pc_can C_place_stands (hr.mono (by decide)) rfl (pa_cons (pv 4) (pa_cons (pv 1) (pa_cons (pv 2) pa_nil))))))
 (pss_one (ps_ret (pv 3)))
 pss_nil)
 (pss_cons (ps_set (i := 1) scbad_place.nd rfl (Or.inl rfl) (pe_ix (ixTK (K := K)) (pv 4) pe_int (fun _ _ => rfl)))
 (pss_one (ps_set (i := 2) scbad_place.nd rfl (Or.inl rfl) (pe_op op_add (pv 2) (pe_ix (ixTK (K := K)) (pv 4) pe_int (fun _ _ => rfl))))))))
 (pss_one (ps_ret pe_non))))), ?_⟩
  walk_at "s"
  refine l_enum (fun i σ H' => ∃ (last paid : Int) (a b : Option V), σ = [some (.ref l), some (.int last), some (.int paid), a, b] ∧ Same H H' ∧ paid = ((ps.take i).map (·.2)).sum ∧ ∀ p, ps[i]? = some p → last < p.1) hl
    ⟨-1, 0, none, none, rfl, .refl H, by simp, fun p hp => by have := ok.each p (getElem?_mem' hp); omega⟩ (fun i σ H' hi ⟨_, _, _, _, _, sm, _⟩ => sm _ _ hl) ?_ ?_
  · rintro i x t σ H1 H2 hx ⟨last, paid, a, b, rfl, sm, ep, hlt⟩ ht s2 e2
    obtain ⟨u, ⟨p, c⟩, rfl, hu, hp, hrow⟩ := tab_at pr hx
    have hrow : H u = some (.tup [.int p, .int c]) := hrow
    have hu1 : H1 u = some (.tup [.int p, .int c]) := sm _ _ hrow
    have hlt := hlt _ hp
    have he := ok.each _ (getElem?_mem' hp)
    have hs1 := sum_take1 (·.2) hp
    have hs2 := sum_take_le (l := ps) (i := i + 1) (·.2) (fun x hx => by have := ok.each x hx; omega)
    have hs3 := ok.sum
    have hlt : last < p := hlt
    have he : 0 ≤ p ∧ p ≤ 999 ∧ 1 ≤ c := he
    have hs1 : ((ps.take (i + 1)).map (·.2)).sum = ((ps.take i).map (·.2)).sum + c := hs1
    walk_at "s"
    refine ⟨u, p, c, last, paid, rfl, s2 _ _ hu1, hlt, he.2.1, he.2.2, by omega, ?_⟩
    walk_at "s"
    refine ⟨p, paid + c, _, _, rfl, sm.trans s2, by omega, fun q hq => rise_at ok.rise hp hq⟩
  · rintro σ H' ⟨last, paid, a, b, rfl, sm, _⟩
    walk_at "s"
    exact k _ sm
def spBadTie : Sp := fun vs H Q _ => ∃ (l d : Addr) (ps es : List (Int × Int)) (kvs : List (Key × V)), vs = [.ref l, .ref d] ∧ Tab H l (es.map I2) ∧ H d = some (.dK kvs) ∧ (∀ p ∈ ps.map (·.1), (valV kvs (.inl p)).isSome = true) ∧ TiesOk ps es ∧ (∀ p ∈ ps.map (·.1), 0 ≤ p) ∧ ∀ H', Same H H' → Q .non H'
theorem ok_bad_tie {f : Addr} {fd : FuncData} (F : Fun K "bad_tie" "bad_tie" sbad_tie f fd) (T : Txt K mg) (C_tie_stands : Can P w K mg base 3 "tie_stands" ["thing", "before", "known"] spTieStands) : FnOk P w K mg base CX0 4 f fd ["things", "known"] spBadTie := by
  refine F.ok scbad_tie (fun vs H Q E h => ?_) (fun cdv A outer s H vs Q E hr h => ?_)
  · obtain ⟨l, d, ps, es, kvs, rfl, _⟩ := h; rfl
  obtain ⟨l, d, ps, es, kvs, rfl, ⟨ts, hl, pr⟩, hd, hk, ok, hz, k⟩ := h
  refine ⟨_, (pss_cons (ps_set (i := 2) scbad_tie.nd rfl (Or.inl rfl) (pe_tup (pa_cons (pe_un un_neg pe_int) (pa_cons (pe_un un_neg pe_int) pa_nil))))
 (pss_cons (ps_for PassesOwn.never rfl (piEK (K := K) (by rfl) T.fEnumerate (pa_cons (pv 0) pa_nil)) (pgTK (K := K) (n := 2) rfl (pgs_cons (pg_name (i := 3) scbad_tie.nd rfl (Or.inl rfl)) (pgs_cons (pg_name (i := 4) scbad_tie.nd rfl (Or.inl rfl)) pgs_nil)))
 (pss_cons (ps_if (pt_not (pt_val (pc_can C_tie_stands (hr.mono (by decide)) rfl (pa_cons (pv 4) (pa_cons (pv 2) (pa_cons (pv 1) pa_nil))))))
 (pss_one (ps_ret (pv 3)))
 pss_nil)
 (pss_one (ps_set (i := 2) scbad_tie.nd rfl (Or.inl rfl) (pv 4)))))
 (pss_one (ps_ret pe_non)))), ?_⟩
  walk_at "s"
  refine r_new fun b H0 nb s0 eb => ?_
  walk_at "s"
  refine l_enum (fun i σ H' => ∃ (b : Addr) (x y : Int) (a c : Option V), σ = [some (.ref l), some (.ref d), some (.ref b), a, c] ∧ Same H H' ∧ H' b = some (.tup [.int x, .int y]) ∧ ∀ e, es[i]? = some e → lt2 (x, y) e) (s0 _ _ hl)
    ⟨b, -1, -1, none, none, rfl, s0, eb, fun e he => .inl ?_⟩ (fun i σ H' hi ⟨_, _, _, _, _, _, sm, _⟩ => sm _ _ hl) ?_ ?_
  · have h1 := hz _ (ok.each e (getElem?_mem' he)).2.1
    show (-1 : Int) < e.1
    omega
  · rintro i x t σ H1 H2 hx ⟨b, u, v, a, c, rfl, sm, hb, hlt⟩ ht s2 e2
    obtain ⟨r, e, rfl, hu, he, hrow⟩ := tab_at pr hx
    have hr1 : H2 r = some (.tup (I2 e)) := s2 _ _ (sm _ _ hrow)
    have hr2 : H2 r = some (.tup [.int e.1, .int e.2]) := hr1
    have oe := ok.each e (getElem?_mem' he)
    walk_at "s"
    refine ⟨r, b, d, e, u, v, kvs, rfl, hr1, s2 _ _ hb, s2 _ _ (sm _ _ hd), oe.1, hk _ oe.2.1, hk _ oe.2.2, hlt e he, ?_⟩
    walk_at "s"
    exact ⟨r, e.1, e.2, _, _, rfl, sm.trans s2, hr2, fun q hq => rise_at ok.rise he hq⟩
  · rintro σ H' ⟨b, u, v, a, c, rfl, sm, _⟩
    walk_at "s"
    exact k _ sm
/-- places with their prices, as a dict -/
def pbK (ps : List (Int × Int)) : List (Int × V) := ps.map fun p => (p.1, V.int p.2)
theorem pbK_keys (ps : List (Int × Int)) : (pbK ps).map (·.1) = ps.map (·.1) := by unfold pbK; rw [List.map_map]; rfl
theorem pbK_snoc (ps : List (Int × Int)) {i : Nat} {p : Int × Int} (h : ps[i]? = some p) : pbK (ps.take (i + 1)) = pbK (ps.take i) ++ [(p.1, .int p.2)] := by
  unfold pbK
  rw [List.take_add_one, h, List.map_append]
  rfl
theorem nd_take {l : List Int} (h : l.Nodup) {i : Nat} {x : Int} (e : l[i]? = some x) : x ∉ l.take i := by
  intro m
  obtain ⟨j, hj⟩ := List.getElem?_of_mem m
  rw [List.getElem?_take] at hj
  split at hj
  · rename_i hji
    have := nd_ix h hj e
    omega
  · cases hj
theorem pbK_put {ps : List (Int × Int)} (ok : PlacesOk ps) {i : Nat} {p : Int × Int} (h : ps[i]? = some p) : putK (kvI (pbK (ps.take i))) (Sum.inl p.1) (.int p.2) = kvI (pbK (ps.take (i + 1))) := by
  rw [pbK_snoc ps h]
  refine kvI_put ?_
  rw [pbK_keys, List.map_take]
  exact nd_take ok.nd (by rw [List.getElem?_map, h]; rfl)
def spLook : Sp := fun vs H Q _ => ∃ (a : Addr) (ps es : List (Int × Int)), vs = [.ref a] ∧ WebAt H a ps es ∧ WebOk ps es ∧ ∀ H', Same H H' → Q .non H'
theorem ok_look_at_web {f : Addr} {fd : FuncData} (F : Fun K "look_at_web" "look_at_web" slook_at_web f fd) (T : Txt K mg) (C_bad_place : Can P w K mg base 4 "bad_place" ["things"] spBadPlace) (C_bad_tie : Can P w K mg base 4 "bad_tie" ["things", "known"] spBadTie) : FnOk P w K mg base CX0 5 f fd ["thing"] spLook := by
  refine F.ok sclook_at_web (fun vs H Q E h => ?_) (fun cdv A outer s H vs Q E hr h => ?_)
  · obtain ⟨a, ps, es, rfl, _⟩ := h; rfl
  obtain ⟨a, ps, es, rfl, ⟨pa, ea, hw, ⟨ts, hp, prp⟩, he⟩, ok, k⟩ := h
  obtain ⟨us, hu, pru⟩ := id he
  have lp := tab_len prp
  have lu := tab_len pru
  have l1 := ok.p.len
  have l2 := ok.t.len
  have l3 : (ts.map V.ref).length = ts.length := List.length_map ..
  have l4 : (us.map V.ref).length = us.length := List.length_map ..
  refine ⟨_, (pss_cons (ps_if (PW.pt (pw_or (pt_not (pt_val (pe_callB (isiK (K := K)) (by rfl) T.fIsinstance bt_isinstance (pa_cons (pv 0) (pa_cons (pg_ty (T := "tuple") T.fTuple bt_tuple) pa_nil))))) (pw_or1 (pt_cmpR op_ne (pe_callB (lenK (K := K)) (by rfl) T.fLen bt_len (pa_cons (pv 0) pa_nil)) pe_int (nomark _)))))
 pss_never
 pss_nil)
 (pss_cons (ps_asg (pv 0) (pgTK (K := K) (n := 2) rfl (pgs_cons (pg_name (i := 1) sclook_at_web.nd rfl (Or.inl rfl)) (pgs_cons (pg_name (i := 2) sclook_at_web.nd rfl (Or.inl rfl)) pgs_nil))))
 (pss_cons (ps_if (PW.pt (pw_or (pt_not (pt_val (pe_callB (isiK (K := K)) (by rfl) T.fIsinstance bt_isinstance (pa_cons (pv 1) (pa_cons (pg_ty (T := "list") T.fList bt_list) pa_nil))))) (pw_or1 (pt_cmpR op_gt (pe_callB (lenK (K := K)) (by rfl) T.fLen bt_len (pa_cons (pv 1) pa_nil)) (pg_int T.cPlaces) (nomark _)))))
 pss_never
 pss_nil)
 (pss_cons (ps_set (i := 3) sclook_at_web.nd rfl (Or.inl rfl) (pc_can C_bad_place (hr.mono (by decide)) rfl (pa_cons (pv 1) pa_nil)))
 (pss_cons (ps_if (pt_cmp (pc_notN (pv 3)))
 pss_never
 pss_nil)
 (pss_cons (ps_if (PW.pt (pw_or (pt_not (pt_val (pe_callB (isiK (K := K)) (by rfl) T.fIsinstance bt_isinstance (pa_cons (pv 2) (pa_cons (pg_ty (T := "list") T.fList bt_list) pa_nil))))) (pw_or1 (pt_cmpR op_gt (pe_callB (lenK (K := K)) (by rfl) T.fLen bt_len (pa_cons (pv 2) pa_nil)) (pg_int T.cTies) (nomark _)))))
 pss_never
 pss_nil)
 (pss_cons (ps_set (i := 4) sclook_at_web.nd rfl (Or.inl rfl) pe_dnewK)
 (pss_cons (ps_for PassesOwn.never rfl (piLK (K := K) (pv 1)) (pgTK (K := K) (n := 2) rfl (pgs_cons (pg_name (i := 5) sclook_at_web.nd rfl (Or.inl rfl)) (pgs_cons (pg_name (i := 6) sclook_at_web.nd rfl (Or.inl rfl)) pgs_nil)))
 (pss_one (ps_dput (hu_of hr) (pv 4) (pv 5) (pv 6) rfl)))
 (pss_cons (ps_set (i := 3) sclook_at_web.nd rfl (Or.inl rfl) (pc_can C_bad_tie (hr.mono (by decide)) rfl (pa_cons (pv 2) (pa_cons (pv 4) pa_nil))))
 (pss_one (ps_if (pt_cmp (pc_notN (pv 3)))
 pss_never
 pss_nil))))))))))), ?_⟩
  walk_at "s"
  refine ⟨pa, ps, rfl, ⟨ts, hp, prp⟩, ok.p, fun H1 s1 => ?_⟩
  walk_at "s"
  refine r_new fun d H2 nd s2 e2 => ?_
  walk_at "s"
  have s02 := s1.trans s2
  refine l_list (fun i σ H' => ∃ (x y : Option V), σ = [some (.ref a), some (.ref pa), some (.ref ea), some .non, some (.ref d), x, y] ∧ Same H H' ∧ H' d = some (.dK (kvI (pbK (ps.take i))))) (s02 _ _ hp)
    ⟨none, none, rfl, s02, e2⟩ (fun i σ H' hi ⟨_, _, _, sm, _⟩ => sm _ _ hp) ?_ ?_
  · rintro i x σ H3 hx ⟨u, v, rfl, sm, hd⟩
    obtain ⟨t, p, rfl, ht, hpi, hrow⟩ := tab_at prp hx
    have hr3 : H3 t = some (.tup [.int p.1, .int p.2]) := sm _ _ hrow
    walk_at "s"
    refine r_dputL hd (sz_lt (by rw [kvI_len]; unfold pbK; rw [List.length_map, List.length_take]; omega)) ?_
    refine ⟨_, _, rfl, sm_mut sm (s1.free nd), ?_⟩
    rw [upd_same, pbK_put ok.p hpi]
  · rintro σ H3 ⟨u, v, rfl, sm, hd⟩
    have lt : ps.take (ts.map V.ref).length = ps := List.take_of_length_le (by omega)
    rw [lt] at hd
    walk_at "s"
    refine ⟨ea, d, ps, es, _, rfl, he.sm sm, hd, fun p hp => ?_, ok.t, fun p hp => ?_, fun H4 s4 => ?_⟩
    · rw [kvI_isSome, pbK_keys]
      exact decide_eq_true hp
    · obtain ⟨q, hq, rfl⟩ := List.mem_map.mp hp
      exact (ok.p.each q hq).1
    · walk_at "s"
      exact k _ (sm.trans s4)
end
end K33
set_option Elab.async false
set_option linter.all false
set_option maxRecDepth 100000
set_option maxHeartbeats 4000000
/-! K4: halves, dues. -/
namespace K33
open PySem L2
/-! one step of a reading -/
local macro_rules | `(tactic| walk_at "look") => `(tactic| first | assumption | exact upd_same | (refine Same.at' (by assumption) ?_; walk_at "look"))
local macro_rules | `(tactic| walk_at "side") => `(tactic| first | exact .inr ⟨by decide, by decide⟩ | exact .inl ⟨by decide, by decide⟩ | (show (0 : Int) < _; decide) | exact ⟨by decide, by decide⟩ | omega)
local macro_rules | `(tactic| walk_at "tt") => `(tactic| first | assumption | exact decide_eq_true (by assumption) | exact decide_eq_true rfl | (rw [decide_eq_false (by assumption)]; rfl) | rfl | exact decide_eq_true (by omega) | (rw [decide_eq_false (by omega)]; rfl))
local macro_rules | `(tactic| walk_at "ff") => `(tactic| first | assumption | exact decide_eq_false (by assumption) | (rw [decide_eq_true (by assumption)]; rfl) | (rw [decide_eq_true rfl]; rfl) | rfl | exact decide_eq_false (by omega) | (rw [decide_eq_true (by omega)]; rfl))
local macro_rules | `(tactic| walk_at "fld") => `(tactic| fail)
local macro_rules | `(tactic| walk_at "s1") => `(tactic| first
  | with_reducible refine r_seq ?_
  | with_reducible refine r_asg ?_
  | with_reducible refine r_name ?_
  | ((with_reducible refine' r_var ?hv ?_); (case hv => exact rfl))
  | with_reducible refine r_c ?_
  | with_reducible refine r_op ?_
  | with_reducible refine r_un ?_
  | with_reducible refine r_neg ?_
  | with_reducible refine r_I0 ?_
  | ((with_reducible refine' r_I ?hc ?_); (case hc => walk_at "side"))
  | with_reducible refine r_eqI ?_
  | with_reducible refine r_neI ?_
  | with_reducible refine r_eqS ?_
  | with_reducible refine r_neS ?_
  | with_reducible refine r_B ?_
  | with_reducible refine r_test ?_
  | with_reducible refine r_chain ?_
  | with_reducible refine r_and ?_
  | with_reducible refine r_or ?_
  | with_reducible refine r_not ?_
  | with_reducible refine r_andV ?_
  | with_reducible refine r_orV ?_
  | with_reducible refine r_notV ?_
  | with_reducible refine r_nil ?_
  | with_reducible refine r_cons ?_
  | with_reducible refine r_call ?_
  | with_reducible refine r_CB ?_
  | with_reducible refine r_fld ?_
  | with_reducible refine r_tup ?_
  | walk_at "fld"
  | with_reducible refine r_lst ?_
  | with_reducible refine r_if ?_
  | with_reducible refine r_drop ?_
  | with_reducible refine r_ret ?_
  | with_reducible refine r_retN ?_
  | with_reducible refine r_next ?_
  | with_reducible refine r_cont ?_
  | with_reducible refine r_bm ?_
  | with_reducible refine r_gcons ?_
  | with_reducible refine r_gnil ?_
  | with_reducible refine r_for ?_
  | with_reducible refine r_lc ?_
  | with_reducible refine r_yes ?_
  | with_reducible refine r_iEnum ?_
  | with_reducible refine r_iList ?_
  | with_reducible refine r_iTup ?_
  | with_reducible refine r_iZip ?_
  | with_reducible refine r_iRng1 ?_
  | with_reducible refine r_iRng2 ?_
  | with_reducible refine r_din ?_
  | with_reducible refine r_dnotin ?_
  | with_reducible refine r_dget ?_
  | with_reducible refine r_dget2 ?_
  | with_reducible refine r_dput ?_
  | with_reducible refine r_dnewK ?_
  | with_reducible refine r_gsub ?_
  | ((with_reducible refine' r_dinL (Rd.of ?h) ?_); (case h => walk_at "look"))
  | ((with_reducible refine' r_isD (Rd.of ?h) ?_); (case h => walk_at "look"))
  | ((with_reducible refine' r_dget2L (Rd.of ?h) ?_); (case h => walk_at "look"))
  | ((with_reducible refine' r_dgetL (Rd.of ?h) ?e ?_); (case h => walk_at "look"); (case e => first | assumption | rfl))
  | ((with_reducible refine' r_dgetL (rd_frz ?h) ?e ?_); (case h => assumption); (case e => first | assumption | rfl))
  | ((with_reducible refine' r_lt2 ?h1 ?h2 ?_); (case h1 => walk_at "look"); (case h2 => walk_at "look"))
  | with_reducible refine r_sl ?_
  | with_reducible refine r_noPart ?_
  | with_reducible refine r_part ?_
  | with_reducible refine r_exi ?_
  | ((with_reducible refine' r_tyL ?h ?_); (case h => walk_at "look"))
  | with_reducible refine r_isN ?_
  | with_reducible refine r_notN ?_
  | with_reducible refine r_isB ?_
  | with_reducible refine r_notB ?_
  | with_reducible refine r_min2' ?_
  | with_reducible refine r_max2' ?_
  | with_reducible refine r_isi (.base (.int _)) kII ?_
  | with_reducible refine r_isi (.base (.int _)) kIB ?_
  | with_reducible refine r_isi (.base (.str _)) kSS ?_
  | with_reducible refine r_isi (.base (.bl _)) kBB ?_
  | ((with_reducible refine' r_isi (.base (.tup ?h)) kTT ?_); (case h => walk_at "look"))
  | ((with_reducible refine' r_isi (.base (.lst ?h)) kLL ?_); (case h => walk_at "look"))
  | ((with_reducible refine' r_lenS (Or.inr (SqT.of ?h)) ?_); (case h => walk_at "look"))
  | ((with_reducible refine' r_lenS (Or.inl (SqL.of ?h)) ?_); (case h => walk_at "look"))
  | ((with_reducible refine' r_ixT (SqT.of ?h) ?e ?_); (case h => walk_at "look"); (case e => rfl))
  | ((with_reducible refine' r_gtup (SqT.of ?h) ?e ?_); (case h => walk_at "look"); (case e => rfl))
  | ((with_reducible refine r_tlen ?e ?_); (case e => exact Nat.le_of_ble_eq_true rfl))
  | with_reducible refine r_iteT ?_
  | with_reducible refine r_iteF ?_
  | with_reducible refine r_exb2 ?_
  | ((with_reducible refine r_iteP ?hc ?_); (case hc => walk_at "tt"))
  | ((with_reducible refine r_iteN ?hc ?_); (case hc => walk_at "ff")))
local macro_rules | `(tactic| walk_at "s") => `(tactic| repeat (walk_at "s1"))

/-! ### data of any depth -/
def D2 (p : Int × Int) : PyData := .tuple [.int p.1, .int p.2]
section
variable {K : PySem.W.Frag} {H : Hp}
theorem dp2 {t : Addr} {p : Int × Int} (h : H t = some (.tup (I2 p))) : Dp K H (.ref t) (D2 p) := .tup (SqT.of h) (.cons (.int _) (.cons (.int _) .nil))
theorem dpAll2 : ∀ {ts : List Addr} {ps : List (Int × Int)}, Paired (fun t r => H t = some (.tup r)) ts (ps.map I2) → DpAll K H (ts.map V.ref) (ps.map D2)
  | [], [], _ => .nil
  | t :: ts, p :: ps, .cons h r => .cons (dp2 h) (dpAll2 r)
theorem dpTab {l : Addr} {ps : List (Int × Int)} (h : Tab H l (ps.map I2)) : Dp K H (.ref l) (.list (ps.map D2)) := by
  obtain ⟨ts, hl, pr⟩ := h
  exact .lst (SqL.of hl) (dpAll2 pr)
theorem dpInts : ∀ {ns : List Int}, DpAll K H (ns.map V.int) (ns.map PyData.int)
  | [] => .nil
  | n :: ns => .cons (.int n) dpInts
end
theorem d2_lay (p : Int × Int) : (D2 p).canLay0 = true := by simp [D2, PyData.canLay0, PyData.canLayAll0]
theorem d2_depth (p : Int × Int) : (D2 p).depth ≤ 2 := by simp [D2, PyData.depth, PyData.depthAll]
theorem d2s_lay : ∀ ps : List (Int × Int), PyData.canLayAll0 (ps.map D2) = true
  | [] => by simp [PyData.canLayAll0]
  | p :: ps => by simp [PyData.canLayAll0, d2_lay p, d2s_lay ps]
theorem d2s_depth : ∀ ps : List (Int × Int), PyData.depthAll (ps.map D2) ≤ 2
  | [] => by simp [PyData.depthAll]
  | p :: ps => by
    have h1 := d2s_depth ps
    have h2 := d2_depth p
    simp only [List.map_cons, PyData.depthAll]
    omega
theorem shp {d : PyData} (h1 : d.canLay0 = true) (h2 : d.depth ≤ 64) : SeqAt.shaped d = true := by
  show (d.canLay0 && decide (d.depth ≤ 64)) = true
  rw [h1, decide_eq_true h2]
  rfl
theorem d2_shp (p : Int × Int) : SeqAt.shaped (D2 p) = true := shp (d2_lay p) (Nat.le_trans (d2_depth p) (by decide))
theorem d2s_shp (ps : List (Int × Int)) : SeqAt.shaped (.list (ps.map D2)) = true := shp (by simp only [PyData.canLay0]; exact d2s_lay ps) (by
  have := d2s_depth ps
  simp only [PyData.depth]
  omega)
theorem d2_eqv (p q : Int × Int) : PyData.eqv (D2 p) (D2 q) = decide (p = q) := by
  obtain ⟨a, b⟩ := p
  obtain ⟨c, d⟩ := q
  have e : PyData.eqv (D2 (a, b)) (D2 (c, d)) = ((a == c) && ((b == d) && true)) := by simp only [D2, PyData.eqv, PyData.eqvAll]
  rw [e]
  by_cases h : a = c <;> by_cases h2 : b = d <;> simp [h, h2]
theorem any_d2 (ps : List (Int × Int)) (p : Int × Int) : ((ps.map D2).any fun z => PyData.eqv z (D2 p)) = decide (p ∈ ps) := by
  induction ps with
  | nil => simp
  | cons q ps ih =>
    rw [List.map_cons, List.any_cons, ih, d2_eqv]
    by_cases h : q = p
    · subst h; simp
    · have h' : ¬ p = q := fun e => h e.symm
      simp [h, h']
theorem eqvAll_d2 : ∀ (ps qs : List (Int × Int)), PyData.eqvAll (ps.map D2) (qs.map D2) = decide (ps = qs)
  | [], [] => by simp [PyData.eqvAll]
  | [], _ :: _ => by simp [PyData.eqvAll]
  | _ :: _, [] => by simp [PyData.eqvAll]
  | p :: ps, q :: qs => by
    have ih := eqvAll_d2 ps qs
    have h1 := d2_eqv p q
    simp only [List.map_cons, PyData.eqvAll, ih, h1]
    by_cases h : p = q <;> by_cases h2 : ps = qs <;> simp [h, h2]
theorem eqvAll_ints : ∀ (ps qs : List Int), PyData.eqvAll (ps.map PyData.int) (qs.map PyData.int) = decide (ps = qs)
  | [], [] => by simp [PyData.eqvAll]
  | [], _ :: _ => by simp [PyData.eqvAll]
  | _ :: _, [] => by simp [PyData.eqvAll]
  | p :: ps, q :: qs => by
    have ih := eqvAll_ints ps qs
    simp only [List.map_cons, PyData.eqvAll, ih, PyData.eqv]
    by_cases h : p = q <;> by_cases h2 : ps = qs <;> simp [h, h2]
theorem ints_lay : ∀ ns : List Int, PyData.canLayAll0 (ns.map PyData.int) = true
  | [] => by simp [PyData.canLayAll0]
  | p :: ps => by simp [PyData.canLayAll0, PyData.canLay0, ints_lay ps]
theorem ints_depth : ∀ ns : List Int, PyData.depthAll (ns.map PyData.int) ≤ 1
  | [] => by simp [PyData.depthAll]
  | p :: ps => by
    have h1 := ints_depth ps
    simp only [List.map_cons, PyData.depthAll, PyData.depth]
    omega
end K33
set_option Elab.async false
set_option linter.all false
set_option maxRecDepth 100000
set_option maxHeartbeats 4000000
/-! K5: halves, dues: the defs. -/
namespace K33
open PySem L2
/-! one step of a reading -/
local macro_rules | `(tactic| walk_at "look") => `(tactic| first | assumption | exact upd_same | (refine Same.at' (by assumption) ?_; walk_at "look"))
local macro_rules | `(tactic| walk_at "side") => `(tactic| first | exact .inr ⟨by decide, by decide⟩ | exact .inl ⟨by decide, by decide⟩ | (show (0 : Int) < _; decide) | exact ⟨by decide, by decide⟩ | omega)
local macro_rules | `(tactic| walk_at "tt") => `(tactic| first | assumption | exact decide_eq_true (by assumption) | exact decide_eq_true rfl | (rw [decide_eq_false (by assumption)]; rfl) | rfl | exact decide_eq_true (by omega) | (rw [decide_eq_false (by omega)]; rfl))
local macro_rules | `(tactic| walk_at "ff") => `(tactic| first | assumption | exact decide_eq_false (by assumption) | (rw [decide_eq_true (by assumption)]; rfl) | (rw [decide_eq_true rfl]; rfl) | rfl | exact decide_eq_false (by omega) | (rw [decide_eq_true (by omega)]; rfl))
local macro_rules | `(tactic| walk_at "fld") => `(tactic| fail)
local macro_rules | `(tactic| walk_at "s1") => `(tactic| first
  | with_reducible refine r_seq ?_
  | with_reducible refine r_asg ?_
  | with_reducible refine r_name ?_
  | ((with_reducible refine' r_var ?hv ?_); (case hv => exact rfl))
  | with_reducible refine r_c ?_
  | with_reducible refine r_op ?_
  | with_reducible refine r_un ?_
  | with_reducible refine r_neg ?_
  | with_reducible refine r_I0 ?_
  | ((with_reducible refine' r_I ?hc ?_); (case hc => walk_at "side"))
  | with_reducible refine r_eqI ?_
  | with_reducible refine r_neI ?_
  | with_reducible refine r_eqS ?_
  | with_reducible refine r_neS ?_
  | with_reducible refine r_B ?_
  | with_reducible refine r_test ?_
  | with_reducible refine r_chain ?_
  | with_reducible refine r_and ?_
  | with_reducible refine r_or ?_
  | with_reducible refine r_not ?_
  | with_reducible refine r_andV ?_
  | with_reducible refine r_orV ?_
  | with_reducible refine r_notV ?_
  | with_reducible refine r_nil ?_
  | with_reducible refine r_cons ?_
  | with_reducible refine r_call ?_
  | with_reducible refine r_CB ?_
  | with_reducible refine r_fld ?_
  | with_reducible refine r_tup ?_
  | walk_at "fld"
  | with_reducible refine r_lst ?_
  | with_reducible refine r_if ?_
  | with_reducible refine r_drop ?_
  | with_reducible refine r_ret ?_
  | with_reducible refine r_retN ?_
  | with_reducible refine r_next ?_
  | with_reducible refine r_cont ?_
  | with_reducible refine r_bm ?_
  | with_reducible refine r_gcons ?_
  | with_reducible refine r_gnil ?_
  | with_reducible refine r_for ?_
  | with_reducible refine r_lc ?_
  | with_reducible refine r_yes ?_
  | with_reducible refine r_iEnum ?_
  | with_reducible refine r_iList ?_
  | with_reducible refine r_iTup ?_
  | with_reducible refine r_iZip ?_
  | with_reducible refine r_iRng1 ?_
  | with_reducible refine r_iRng2 ?_
  | with_reducible refine r_din ?_
  | with_reducible refine r_dnotin ?_
  | with_reducible refine r_dget ?_
  | with_reducible refine r_dget2 ?_
  | with_reducible refine r_dput ?_
  | with_reducible refine r_dnewK ?_
  | with_reducible refine r_gsub ?_
  | ((with_reducible refine' r_dinL (Rd.of ?h) ?_); (case h => walk_at "look"))
  | ((with_reducible refine' r_isD (Rd.of ?h) ?_); (case h => walk_at "look"))
  | ((with_reducible refine' r_dget2L (Rd.of ?h) ?_); (case h => walk_at "look"))
  | ((with_reducible refine' r_dgetL (Rd.of ?h) ?e ?_); (case h => walk_at "look"); (case e => first | assumption | rfl))
  | ((with_reducible refine' r_dgetL (rd_frz ?h) ?e ?_); (case h => assumption); (case e => first | assumption | rfl))
  | ((with_reducible refine' r_lt2 ?h1 ?h2 ?_); (case h1 => walk_at "look"); (case h2 => walk_at "look"))
  | with_reducible refine r_sl ?_
  | with_reducible refine r_noPart ?_
  | with_reducible refine r_part ?_
  | with_reducible refine r_exi ?_
  | ((with_reducible refine' r_tyL ?h ?_); (case h => walk_at "look"))
  | with_reducible refine r_isN ?_
  | with_reducible refine r_notN ?_
  | with_reducible refine r_isB ?_
  | with_reducible refine r_notB ?_
  | with_reducible refine r_min2' ?_
  | with_reducible refine r_max2' ?_
  | with_reducible refine r_isi (.base (.int _)) kII ?_
  | with_reducible refine r_isi (.base (.int _)) kIB ?_
  | with_reducible refine r_isi (.base (.str _)) kSS ?_
  | with_reducible refine r_isi (.base (.bl _)) kBB ?_
  | ((with_reducible refine' r_isi (.base (.tup ?h)) kTT ?_); (case h => walk_at "look"))
  | ((with_reducible refine' r_isi (.base (.lst ?h)) kLL ?_); (case h => walk_at "look"))
  | ((with_reducible refine' r_lenS (Or.inr (SqT.of ?h)) ?_); (case h => walk_at "look"))
  | ((with_reducible refine' r_lenS (Or.inl (SqL.of ?h)) ?_); (case h => walk_at "look"))
  | ((with_reducible refine' r_ixT (SqT.of ?h) ?e ?_); (case h => walk_at "look"); (case e => rfl))
  | ((with_reducible refine' r_gtup (SqT.of ?h) ?e ?_); (case h => walk_at "look"); (case e => rfl))
  | ((with_reducible refine r_tlen ?e ?_); (case e => exact Nat.le_of_ble_eq_true rfl))
  | with_reducible refine r_iteT ?_
  | with_reducible refine r_iteF ?_
  | with_reducible refine r_exb2 ?_
  | ((with_reducible refine r_iteP ?hc ?_); (case hc => walk_at "tt"))
  | ((with_reducible refine r_iteN ?hc ?_); (case hc => walk_at "ff")))
local macro_rules | `(tactic| walk_at "s") => `(tactic| repeat (walk_at "s1"))

/-! ### books -/
/-- what a book says of k (nought where nothing stands) -/
def hv : List (Int × Int) → Int → Int
  | [], _ => 0
  | p :: r, k => if p.1 = k then p.2 else hv r k
theorem hv_some : ∀ {l : List (Int × Int)} {k : Int}, k ∈ l.map (·.1) → valV (kvI (pbK l)) (Sum.inl k) = some (.int (hv l k))
  | [], _, h => by simp at h
  | p :: r, k, h => by
    show valV ((Sum.inl p.1, V.int p.2) :: kvI (pbK r)) (Sum.inl k) = some (.int (if p.1 = k then p.2 else hv r k))
    by_cases e : p.1 = k
    · rw [if_pos e]
      exact valV_pos (by rw [e])
    · rw [if_neg e, valV_neg (fun q => e (Sum.inl.inj q))]
      refine hv_some ?_
      rcases List.mem_cons.mp h with q | q
      · exact absurd q.symm e
      · exact q
theorem hv_not : ∀ {l : List (Int × Int)} {k : Int}, k ∉ l.map (·.1) → hv l k = 0
  | [], _, _ => rfl
  | p :: r, k, h => by
    show (if p.1 = k then p.2 else hv r k) = 0
    rw [if_neg (fun e => h (by rw [← e]; simp))]
    exact hv_not fun m => h (by simp [m])
theorem hv_none {l : List (Int × Int)} {k : Int} (h : k ∉ l.map (·.1)) : valV (kvI (pbK l)) (Sum.inl k) = none := kvI_none (by rw [pbK_keys]; exact h)
theorem hv_getD (l : List (Int × Int)) (k : Int) : (valV (kvI (pbK l)) (Sum.inl k)).getD (.int 0) = .int (hv l k) := by
  by_cases h : k ∈ l.map (·.1)
  · rw [hv_some h]; rfl
  · rw [hv_none h, hv_not h]; rfl
theorem hv_mem : ∀ {l : List (Int × Int)} {p : Int × Int}, (l.map (·.1)).Nodup → p ∈ l → hv l p.1 = p.2
  | [], _, _, h => by simp at h
  | q :: r, p, nd, h => by
    rw [List.map_cons] at nd
    obtain ⟨n1, n2⟩ := List.nodup_cons.mp nd
    show (if q.1 = p.1 then q.2 else hv r p.1) = p.2
    rcases List.mem_cons.mp h with e | e
    · rw [e, if_pos rfl]
    · rw [if_neg (fun z => n1 (by rw [z]; exact List.mem_map.mpr ⟨p, e, rfl⟩))]
      exact hv_mem n2 e
/-- a book with k set -/
def putP (l : List (Int × Int)) (k v : Int) : List (Int × Int) := if k ∈ l.map (·.1) then l.map (fun p => if p.1 = k then (p.1, v) else p) else l ++ [(k, v)]
theorem putP_put (l : List (Int × Int)) (k v : Int) : putK (kvI (pbK l)) (Sum.inl k) (.int v) = kvI (pbK (putP l k v)) := by
  unfold putP
  by_cases h : k ∈ l.map (·.1)
  · rw [if_pos h]
    unfold putK
    have e : ((kvI (pbK l)).any fun kv => decide (kv.1 = Sum.inl k)) = true := by
      rw [valV_any, hv_some h]; rfl
    rw [if_pos e]
    unfold kvI pbK
    rw [List.map_map, List.map_map, List.map_map, List.map_map]
    refine List.map_congr_left fun p _ => ?_
    show (if (Sum.inl p.1 : Key) = Sum.inl k then ((Sum.inl p.1 : Key), V.int v) else (Sum.inl p.1, V.int p.2)) = (Sum.inl (if p.1 = k then (p.1, v) else p).1, V.int (if p.1 = k then (p.1, v) else p).2)
    by_cases f : p.1 = k
    · rw [if_pos f, if_pos (by rw [f])]
    · rw [if_neg f, if_neg (fun q => f (Sum.inl.inj q))]
  · rw [if_neg h, putK_new _ (hv_none h)]
    unfold kvI pbK
    rw [List.map_append, List.map_append]
    rfl
theorem putP_hv (l : List (Int × Int)) (k v x : Int) : hv (putP l k v) x = if x = k then v else hv l x := by
  have h := hv_getD (putP l k v) x
  rw [← putP_put, valV_put] at h
  by_cases e : x = k
  · rw [if_pos e]
    rw [if_pos (by rw [e])] at h
    exact (V.int.inj h).symm
  · rw [if_neg e]
    rw [if_neg (fun q => e (Sum.inl.inj q)), hv_getD] at h
    exact (V.int.inj h).symm
theorem putP_keys (l : List (Int × Int)) (k v x : Int) : x ∈ (putP l k v).map (·.1) ↔ x = k ∨ x ∈ l.map (·.1) := by
  have h := kvI_isSome (l := pbK (putP l k v)) (k := x)
  have h2 := kvI_isSome (l := pbK l) (k := x)
  rw [pbK_keys] at h h2
  rw [← putP_put, valV_put] at h
  by_cases e : x = k
  · rw [if_pos (by rw [e])] at h
    exact ⟨fun _ => .inl e, fun _ => of_decide_eq_true h.symm⟩
  · rw [if_neg (fun q => e (Sum.inl.inj q)), h2] at h
    have := decide_eq_decide.mp h
    constructor
    · intro m; exact .inr (this.mpr m)
    · rintro (m | m)
      · exact absurd m e
      · exact this.mp m
theorem putP_len (l : List (Int × Int)) (k v : Int) : (putP l k v).length ≤ l.length + 1 := by
  unfold putP
  split <;> simp
/-- what dues come to, place by place -/
def paidL (ds : List (Int × Int × Int)) : List (Int × Int) := ds.foldl (fun l d => putP (putP l d.1 (hv l d.1 + d.2.2)) d.2.1 (hv (putP l d.1 (hv l d.1 + d.2.2)) d.2.1 + d.2.2)) []
def paidOf (ds : List (Int × Int × Int)) (k : Int) : Int := (ds.map fun d => (if d.1 = k then d.2.2 else 0) + (if d.2.1 = k then d.2.2 else 0)).sum
theorem paidL_snoc {ds : List (Int × Int × Int)} {i : Nat} {d : Int × Int × Int} (h : ds[i]? = some d) :
    paidL (ds.take (i + 1)) = putP (putP (paidL (ds.take i)) d.1 (hv (paidL (ds.take i)) d.1 + d.2.2)) d.2.1 (hv (putP (paidL (ds.take i)) d.1 (hv (paidL (ds.take i)) d.1 + d.2.2)) d.2.1 + d.2.2) := by
  unfold paidL
  rw [List.take_add_one, h, List.foldl_append]
  rfl
theorem take_induct {α : Type} {P : List α → Prop} (l : List α) (h0 : P []) (hs : ∀ i x, l[i]? = some x → P (l.take i) → P (l.take (i + 1))) : P l := by
  have h : ∀ i, i ≤ l.length → P (l.take i) := by
    intro i
    induction i with
    | zero => intro _; rw [List.take_zero]; exact h0
    | succ i ih => intro hi; exact hs i l[i] (List.getElem?_eq_getElem (by omega)) (ih (by omega))
  have := h l.length (Nat.le_refl _)
  rwa [List.take_length] at this
theorem paidL_hv (ds : List (Int × Int × Int)) (k : Int) : hv (paidL ds) k = paidOf ds k := by
  refine take_induct (P := fun ds => hv (paidL ds) k = paidOf ds k) ds rfl fun i d h ih => ?_
  rw [paidL_snoc h, putP_hv, putP_hv, putP_hv]
  have e : paidOf (ds.take (i + 1)) k = paidOf (ds.take i) k + ((if d.1 = k then d.2.2 else 0) + (if d.2.1 = k then d.2.2 else 0)) := sum_take1 _ h
  rw [e, ← ih]
  by_cases e2 : k = d.1
  · subst e2
    repeat' split
    all_goals omega
  · by_cases e1 : k = d.2.1
    · subst e1
      repeat' split
      all_goals omega
    · repeat' split
      all_goals omega
theorem paidL_keys (ds : List (Int × Int × Int)) (k : Int) : k ∈ (paidL ds).map (·.1) ↔ ∃ d ∈ ds, d.1 = k ∨ d.2.1 = k := by
  refine take_induct (P := fun ds => k ∈ (paidL ds).map (·.1) ↔ ∃ d ∈ ds, d.1 = k ∨ d.2.1 = k) ds (by simp [paidL]) fun i d h ih => ?_
  rw [paidL_snoc h, putP_keys, putP_keys, ih, List.take_add_one, h]
  constructor
  · rintro (e | e | ⟨x, hx, e⟩)
    · exact ⟨d, by simp, .inr e.symm⟩
    · exact ⟨d, by simp, .inl e.symm⟩
    · exact ⟨x, by simp [hx], e⟩
  · rintro ⟨x, hx, e⟩
    rcases List.mem_append.mp hx with m | m
    · exact .inr (.inr ⟨x, m, e⟩)
    · have : x = d := by simpa using m
      subst this
      rcases e with e | e
      · exact .inr (.inl e.symm)
      · exact .inl e.symm
theorem paidL_len (ds : List (Int × Int × Int)) : (paidL ds).length ≤ 2 * ds.length := by
  refine take_induct (P := fun ds => (paidL ds).length ≤ 2 * ds.length) ds (by simp [paidL]) fun i d h ih => ?_
  rw [paidL_snoc h]
  have h1 := putP_len (paidL (ds.take i)) d.1 (hv (paidL (ds.take i)) d.1 + d.2.2)
  have h2 := putP_len (putP (paidL (ds.take i)) d.1 (hv (paidL (ds.take i)) d.1 + d.2.2)) d.2.1 (hv (putP (paidL (ds.take i)) d.1 (hv (paidL (ds.take i)) d.1 + d.2.2)) d.2.1 + d.2.2)
  have hl : (ds.take (i + 1)).length = (ds.take i).length + 1 := by
    have := (List.getElem?_eq_some_iff.mp h).1
    rw [List.length_take, List.length_take]; omega
  omega
end K33
set_option Elab.async false
set_option linter.all false
set_option maxRecDepth 100000
set_option maxHeartbeats 4000000
/-! K6: halves, dues: the defs. -/
namespace K33
open PySem L2
/-! one step of a reading -/
local macro_rules | `(tactic| walk_at "look") => `(tactic| first | assumption | exact upd_same | (refine Same.at' (by assumption) ?_; walk_at "look"))
local macro_rules | `(tactic| walk_at "side") => `(tactic| first | exact .inr ⟨by decide, by decide⟩ | exact .inl ⟨by decide, by decide⟩ | (show (0 : Int) < _; decide) | exact ⟨by decide, by decide⟩ | omega)
local macro_rules | `(tactic| walk_at "tt") => `(tactic| first | assumption | exact decide_eq_true (by assumption) | exact decide_eq_true rfl | (rw [decide_eq_false (by assumption)]; rfl) | rfl | exact decide_eq_true (by omega) | (rw [decide_eq_false (by omega)]; rfl))
local macro_rules | `(tactic| walk_at "ff") => `(tactic| first | assumption | exact decide_eq_false (by assumption) | (rw [decide_eq_true (by assumption)]; rfl) | (rw [decide_eq_true rfl]; rfl) | rfl | exact decide_eq_false (by omega) | (rw [decide_eq_true (by omega)]; rfl))
local macro_rules | `(tactic| walk_at "fld") => `(tactic| fail)
local macro_rules | `(tactic| walk_at "s1") => `(tactic| first
  | with_reducible refine r_seq ?_
  | with_reducible refine r_asg ?_
  | with_reducible refine r_name ?_
  | ((with_reducible refine' r_var ?hv ?_); (case hv => exact rfl))
  | with_reducible refine r_c ?_
  | with_reducible refine r_op ?_
  | with_reducible refine r_un ?_
  | with_reducible refine r_neg ?_
  | with_reducible refine r_I0 ?_
  | ((with_reducible refine' r_I ?hc ?_); (case hc => walk_at "side"))
  | with_reducible refine r_eqI ?_
  | with_reducible refine r_neI ?_
  | with_reducible refine r_eqS ?_
  | with_reducible refine r_neS ?_
  | with_reducible refine r_B ?_
  | with_reducible refine r_test ?_
  | with_reducible refine r_chain ?_
  | with_reducible refine r_and ?_
  | with_reducible refine r_or ?_
  | with_reducible refine r_not ?_
  | with_reducible refine r_andV ?_
  | with_reducible refine r_orV ?_
  | with_reducible refine r_notV ?_
  | with_reducible refine r_nil ?_
  | with_reducible refine r_cons ?_
  | with_reducible refine r_call ?_
  | with_reducible refine r_CB ?_
  | with_reducible refine r_fld ?_
  | with_reducible refine r_tup ?_
  | walk_at "fld"
  | with_reducible refine r_lst ?_
  | with_reducible refine r_if ?_
  | with_reducible refine r_drop ?_
  | with_reducible refine r_ret ?_
  | with_reducible refine r_retN ?_
  | with_reducible refine r_next ?_
  | with_reducible refine r_cont ?_
  | with_reducible refine r_bm ?_
  | with_reducible refine r_gcons ?_
  | with_reducible refine r_gnil ?_
  | with_reducible refine r_for ?_
  | with_reducible refine r_lc ?_
  | with_reducible refine r_yes ?_
  | with_reducible refine r_iEnum ?_
  | with_reducible refine r_iList ?_
  | with_reducible refine r_iTup ?_
  | with_reducible refine r_iZip ?_
  | with_reducible refine r_iRng1 ?_
  | with_reducible refine r_iRng2 ?_
  | with_reducible refine r_din ?_
  | with_reducible refine r_dnotin ?_
  | with_reducible refine r_dget ?_
  | with_reducible refine r_dget2 ?_
  | with_reducible refine r_dput ?_
  | with_reducible refine r_dnewK ?_
  | with_reducible refine r_gsub ?_
  | ((with_reducible refine' r_dinL (Rd.of ?h) ?_); (case h => walk_at "look"))
  | ((with_reducible refine' r_isD (Rd.of ?h) ?_); (case h => walk_at "look"))
  | ((with_reducible refine' r_dget2L (Rd.of ?h) ?_); (case h => walk_at "look"))
  | ((with_reducible refine' r_dgetL (Rd.of ?h) ?e ?_); (case h => walk_at "look"); (case e => first | assumption | rfl))
  | ((with_reducible refine' r_dgetL (rd_frz ?h) ?e ?_); (case h => assumption); (case e => first | assumption | rfl))
  | ((with_reducible refine' r_lt2 ?h1 ?h2 ?_); (case h1 => walk_at "look"); (case h2 => walk_at "look"))
  | with_reducible refine r_sl ?_
  | with_reducible refine r_noPart ?_
  | with_reducible refine r_part ?_
  | with_reducible refine r_exi ?_
  | ((with_reducible refine' r_tyL ?h ?_); (case h => walk_at "look"))
  | with_reducible refine r_isN ?_
  | with_reducible refine r_notN ?_
  | with_reducible refine r_isB ?_
  | with_reducible refine r_notB ?_
  | with_reducible refine r_min2' ?_
  | with_reducible refine r_max2' ?_
  | with_reducible refine r_isi (.base (.int _)) kII ?_
  | with_reducible refine r_isi (.base (.int _)) kIB ?_
  | with_reducible refine r_isi (.base (.str _)) kSS ?_
  | with_reducible refine r_isi (.base (.bl _)) kBB ?_
  | ((with_reducible refine' r_isi (.base (.tup ?h)) kTT ?_); (case h => walk_at "look"))
  | ((with_reducible refine' r_isi (.base (.lst ?h)) kLL ?_); (case h => walk_at "look"))
  | ((with_reducible refine' r_lenS (Or.inr (SqT.of ?h)) ?_); (case h => walk_at "look"))
  | ((with_reducible refine' r_lenS (Or.inl (SqL.of ?h)) ?_); (case h => walk_at "look"))
  | ((with_reducible refine' r_ixT (SqT.of ?h) ?e ?_); (case h => walk_at "look"); (case e => rfl))
  | ((with_reducible refine' r_gtup (SqT.of ?h) ?e ?_); (case h => walk_at "look"); (case e => rfl))
  | ((with_reducible refine r_tlen ?e ?_); (case e => exact Nat.le_of_ble_eq_true rfl))
  | with_reducible refine r_iteT ?_
  | with_reducible refine r_iteF ?_
  | with_reducible refine r_exb2 ?_
  | ((with_reducible refine r_iteP ?hc ?_); (case hc => walk_at "tt"))
  | ((with_reducible refine r_iteN ?hc ?_); (case hc => walk_at "ff")))
local macro_rules | `(tactic| walk_at "s") => `(tactic| repeat (walk_at "s1"))

section
variable {P : Program} {w : World} {K : PySem.W.Frag} {mg : Str → Option Value} {base : Heap}
def spNumbersIn : Sp := fun vs H Q _ => ∃ (a : Addr) (ps es : List (Int × Int)), vs = [.ref a] ∧ WebAt H a ps es ∧ ps.length ≤ 40 ∧ ∀ p H', H p = none → Same H H' → H' p = some (.lst ((ps.map (·.1)).map V.int)) → Q (.ref p) H'
theorem ok_numbers_in {f : Addr} {fd : FuncData} (F : Fun K "numbers_in" "numbers_in" snumbers_in f fd) (T : Txt K mg) : FnOk P w K mg base CX0 1 f fd ["web"] spNumbersIn := by
  refine F.ok scnumbers_in (fun vs H Q E h => ?_) (fun cdv A outer s H vs Q E hr h => ?_)
  · obtain ⟨a, ps, es, rfl, _⟩ := h; rfl
  obtain ⟨a, ps, es, rfl, ⟨pa, ea, hw, ⟨ts, hp, prp⟩, he⟩, l40, k⟩ := h
  have lp := tab_len prp
  have l3 : (ts.map V.ref).length = ts.length := List.length_map ..
  refine ⟨_, (pss_one (ps_ret (pe_lc (own := [("place", 1), ("price", 2)]) rfl scnumbers_in.nd (piLK (K := K) (pe_ix (ixTK (K := K)) (pv 0) pe_int (fun _ _ => rfl))) (blkOk_by (own := [("place", 1), ("price", 2)]) (N := ["web", "place", "price"]) (sc := defScope snumbers_in) (by decide +kernel)) (fun _ _ _ _ _ => (pgTK (K := K) (n := 2) rfl (pgs_cons (pg_name (i := 1) scnumbers_in.nd rfl (Or.inl rfl)) (pgs_cons (pg_name (i := 2) scnumbers_in.nd rfl (Or.inl rfl)) pgs_nil)))) (fun _ _ _ _ _ => pts_nil) (fun _ _ _ _ _ => (pv 1))))), ?_⟩
  walk_at "s"
  refine k_list (fun i acc G => acc = ((ps.take i).map (·.1)).map V.int) hp (fun _ => by simp) ?_ ?_
  · intro D i x acc H' nD hx sm hD eA
    obtain ⟨t, p, rfl, ht, hpi, hrow⟩ := tab_at prp hx
    have hr3 : H' t = some (.tup [.int p.1, .int p.2]) := sm _ _ hrow
    walk_at "s"
    refine ⟨rfl, ?_⟩
    walk_at "s"
    have hl : acc.length ≤ 40 := by rw [eA, List.length_map, List.length_map, List.length_take]; omega
    refine c_end (fun _ _ _ _ _ _ _ h => h) nD sm hD (by omega) ?_
    rw [eA, List.take_add_one, hpi]
    simp
  · intro D acc H' nD sm hD eA
    refine k _ _ nD sm ?_
    rw [hD, eA, List.take_of_length_le (by omega)]
def spPriceBook : Sp := fun vs H Q _ => ∃ (a : Addr) (ps es : List (Int × Int)), vs = [.ref a] ∧ WebAt H a ps es ∧ PlacesOk ps ∧ ∀ p H', H p = none → Same H H' → H' p = some (.dK (kvI (pbK ps))) → Q (.ref p) H'
theorem ok_price_book {f : Addr} {fd : FuncData} (F : Fun K "price_book" "price_book" sprice_book f fd) (T : Txt K mg) : FnOk P w K mg base CX0 1 f fd ["web"] spPriceBook := by
  refine F.ok scprice_book (fun vs H Q E h => ?_) (fun cdv A outer s H vs Q E hr h => ?_)
  · obtain ⟨a, ps, es, rfl, _⟩ := h; rfl
  obtain ⟨a, ps, es, rfl, ⟨pa, ea, hw, ⟨ts, hp, prp⟩, he⟩, ok, k⟩ := h
  have lp := tab_len prp
  have l40 := ok.len
  have l3 : (ts.map V.ref).length = ts.length := List.length_map ..
  refine ⟨_, (pss_cons (ps_set (i := 1) scprice_book.nd rfl (Or.inl rfl) pe_dnewK)
 (pss_cons (ps_for PassesOwn.never rfl (piLK (K := K) (pe_ix (ixTK (K := K)) (pv 0) pe_int (fun _ _ => rfl))) (pgTK (K := K) (n := 2) rfl (pgs_cons (pg_name (i := 2) scprice_book.nd rfl (Or.inl rfl)) (pgs_cons (pg_name (i := 3) scprice_book.nd rfl (Or.inl rfl)) pgs_nil)))
 (pss_one (ps_dput (hu_of hr) (pv 1) (pv 2) (pv 3) rfl)))
 (pss_one (ps_ret (pv 1))))), ?_⟩
  walk_at "s"
  refine r_new fun d H2 nd s2 e2 => ?_
  walk_at "s"
  refine l_list (fun i σ H' => ∃ (x y : Option V), σ = [some (.ref a), some (.ref d), x, y] ∧ Same H H' ∧ H' d = some (.dK (kvI (pbK (ps.take i))))) (s2 _ _ hp)
    ⟨none, none, rfl, s2, e2⟩ (fun i σ H' hi ⟨_, _, _, sm, _⟩ => sm _ _ hp) ?_ ?_
  · rintro i x σ H3 hx ⟨u, v, rfl, sm, hd⟩
    obtain ⟨t, p, rfl, ht, hpi, hrow⟩ := tab_at prp hx
    have hr3 : H3 t = some (.tup [.int p.1, .int p.2]) := sm _ _ hrow
    walk_at "s"
    refine r_dputL hd (sz_lt (by rw [kvI_len]; unfold pbK; rw [List.length_map, List.length_take]; omega)) ?_
    refine ⟨_, _, rfl, sm_mut sm nd, ?_⟩
    rw [upd_same, pbK_put ok hpi]
  · rintro σ H3 ⟨u, v, rfl, sm, hd⟩
    have lt : ps.take (ts.map V.ref).length = ps := List.take_of_length_le (by omega)
    rw [lt] at hd
    walk_at "s"
    exact k _ _ nd sm hd
def spNumTup : Sp := fun vs H Q _ => ∃ (t : Addr) (ns : List Int), vs = [.ref t, .int (ns.length : Nat)] ∧ H t = some (.tup (ns.map V.int)) ∧ Q (.bl true) H
theorem ok_is_number_tuple {f : Addr} {fd : FuncData} (F : Fun K "is_number_tuple" "is_number_tuple" sis_number_tuple f fd) (T : Txt K mg) (C_is_whole : Can P w K mg base 1 "is_whole" ["thing"] spIsWhole) : FnOk P w K mg base CX0 2 f fd ["thing", "size"] spNumTup := by
  refine F.ok scis_number_tuple (fun vs H Q E h => ?_) (fun cdv A outer s H vs Q E hr h => ?_)
  · obtain ⟨t, ns, rfl, _⟩ := h; rfl
  obtain ⟨t, ns, rfl, ht, k⟩ := h
  have l3 : (ns.map V.int).length = ns.length := List.length_map ..
  refine ⟨_, (pss_cons (ps_if (PW.pt (pw_or (pt_not (pt_val (pe_callB (isiK (K := K)) (by rfl) T.fIsinstance bt_isinstance (pa_cons (pv 0) (pa_cons (pg_ty (T := "tuple") T.fTuple bt_tuple) pa_nil))))) (pw_or1 (pt_cmpR op_ne (pe_callB (lenK (K := K)) (by rfl) T.fLen bt_len (pa_cons (pv 0) pa_nil)) (pv 1) (nomark _)))))
 (pss_one (ps_ret pe_bl))
 pss_nil)
 (pss_cons (ps_for PassesOwn.never rfl (piTK (K := K) (pv 0)) (pg_name (i := 2) scis_number_tuple.nd rfl (Or.inl rfl))
 (pss_one (ps_if (pt_not (pt_val (pc_can C_is_whole (hr.mono (by decide)) rfl (pa_cons (pv 2) pa_nil))))
 (pss_one (ps_ret pe_bl))
 pss_nil)))
 (pss_one (ps_ret pe_bl)))), ?_⟩
  walk_at "s"
  refine l_tup (fun i σ H' => ∃ (x : Option V), σ = [some (.ref t), some (.int (ns.length : Nat)), x] ∧ H' = H) ht
    ⟨none, rfl, rfl⟩ (fun i σ H' hi ⟨_, _, sm⟩ => by rw [sm]; exact ht) ?_ ?_
  · rintro i x σ H3 hx ⟨u, rfl, rfl⟩
    rw [List.getElem?_map] at hx
    obtain ⟨n, hn, rfl⟩ := Option.map_eq_some_iff.mp hx
    walk_at "s"
    refine ⟨n, rfl, ?_⟩
    walk_at "s"
    exact ⟨_, rfl, rfl⟩
  · rintro σ H3 ⟨u, rfl, rfl⟩
    walk_at "s"
    exact k
structure Shape (ps hs : List (Int × Int)) : Prop where
  keys : hs.map (·.1) = ps.map (·.1)
  each : ∀ h ∈ hs, 0 ≤ h.2 ∧ h.2 ≤ 2
theorem Shape.len {ps hs : List (Int × Int)} (h : Shape ps hs) : hs.length = ps.length := by
  have := congrArg List.length h.keys
  simpa using this
theorem Shape.at {ps hs : List (Int × Int)} (sh : Shape ps hs) {i : Nat} {p h : Int × Int} (hp : ps[i]? = some p) (hh : hs[i]? = some h) : h.1 = p.1 := by
  have e : (hs.map (·.1))[i]? = (ps.map (·.1))[i]? := by rw [sh.keys]
  rw [List.getElem?_map, List.getElem?_map, hp, hh] at e
  exact Option.some.inj e
def Cover (es hs : List (Int × Int)) : Prop := ∀ e ∈ es, 2 ≤ hv hs e.1 + hv hs e.2
def spAreHalves : Sp := fun vs H Q _ => ∃ (a l : Addr) (ps es hs : List (Int × Int)), vs = [.ref a, .ref l] ∧ WebAt H a ps es ∧ WebOk ps es ∧ Tab H l (hs.map I2) ∧ Shape ps hs ∧ ∀ b H', Same H H' → (b = true ↔ Cover es hs) → Q (.bl b) H'
theorem ok_are_halves {f : Addr} {fd : FuncData} (F : Fun K "are_halves" "are_halves" sare_halves f fd) (T : Txt K mg) (C_numbers_in : Can P w K mg base 1 "numbers_in" ["web"] spNumbersIn) (C_is_number_tuple : Can P w K mg base 2 "is_number_tuple" ["thing", "size"] spNumTup) : FnOk P w K mg base CX0 3 f fd ["web", "thing"] spAreHalves := by
  refine F.ok scare_halves (fun vs H Q E h => ?_) (fun cdv A outer s H vs Q E hr h => ?_)
  · obtain ⟨a, l, ps, es, hs, rfl, _⟩ := h; rfl
  obtain ⟨a, l, ps, es, hs, rfl, ⟨pa, ea, hw, ⟨ts, hp, prp⟩, ⟨us, hu, pru⟩⟩, ok, ⟨rs, hl, prl⟩, sh, k⟩ := h
  have lp := tab_len prp
  have ll := tab_len prl
  have l40 := ok.p.len
  have lh := sh.len
  have l3 : (rs.map V.ref).length = rs.length := List.length_map ..
  have l4 : ((ps.map (·.1)).map V.int).length = ps.length := by rw [List.length_map, List.length_map]
  have l5 : (us.map V.ref).length = us.length := List.length_map ..
  have lu := tab_len pru
  refine ⟨_, (pss_cons (ps_set (i := 2) scare_halves.nd rfl (Or.inl rfl) (pc_can C_numbers_in (hr.mono (by decide)) rfl (pa_cons (pv 0) pa_nil)))
 (pss_cons (ps_if (PW.pt (pw_or (pt_not (pt_val (pe_callB (isiK (K := K)) (by rfl) T.fIsinstance bt_isinstance (pa_cons (pv 1) (pa_cons (pg_ty (T := "list") T.fList bt_list) pa_nil))))) (pw_or1 (pt_cmpR op_ne (pe_callB (lenK (K := K)) (by rfl) T.fLen bt_len (pa_cons (pv 1) pa_nil)) (pe_callB (lenK (K := K)) (by rfl) T.fLen bt_len (pa_cons (pv 2) pa_nil)) (nomark _)))))
 (pss_one (ps_ret pe_bl))
 pss_nil)
 (pss_cons (ps_set (i := 3) scare_halves.nd rfl (Or.inl rfl) pe_dnewK)
 (pss_cons (ps_for PassesOwn.never rfl (piZK (K := K) (by rfl) T.fZip (pa_cons (pv 2) (pa_cons (pv 1) pa_nil))) (pgTK (K := K) (n := 2) rfl (pgs_cons (pg_name (i := 4) scare_halves.nd rfl (Or.inl rfl)) (pgs_cons (pg_name (i := 5) scare_halves.nd rfl (Or.inl rfl)) pgs_nil)))
 (pss_cons (ps_if (PW.pt (pw_or (pt_not (pt_val (pc_can C_is_number_tuple (hr.mono (by decide)) rfl (pa_cons (pv 5) (pa_cons pe_int pa_nil))))) (pw_or (pt_cmpR op_ne (pe_ix (ixTK (K := K)) (pv 5) pe_int (fun _ _ => rfl)) (pv 4) (nomark _)) (pw_or1 (pt_not (pt_chain op_le op_le pe_int (pe_ix (ixTK (K := K)) (pv 5) pe_int (fun _ _ => rfl)) pe_int))))))
 (pss_one (ps_ret pe_bl))
 pss_nil)
 (pss_one (ps_dput (hu_of hr) (pv 3) (pv 4) (pe_ix (ixTK (K := K)) (pv 5) pe_int (fun _ _ => rfl)) rfl))))
 (pss_cons (ps_for PassesOwn.never rfl (piLK (K := K) (pe_ix (ixTK (K := K)) (pv 0) pe_int (fun _ _ => rfl))) (pgTK (K := K) (n := 2) rfl (pgs_cons (pg_name (i := 5) scare_halves.nd rfl (Or.inl rfl)) (pgs_cons (pg_name (i := 6) scare_halves.nd rfl (Or.inl rfl)) pgs_nil)))
 (pss_one (ps_if (pt_cmpR op_lt (pe_op op_add (pe_dget (hu_of hr) (pv 3) (pv 5) (fun _ _ => rfl)) (pe_dget (hu_of hr) (pv 3) (pv 6) (fun _ _ => rfl))) pe_int (nomark _))
 (pss_one (ps_ret pe_bl))
 pss_nil)))
 (pss_one (ps_ret pe_bl))))))), ?_⟩
  walk_at "s"
  refine ⟨a, ps, es, rfl, ⟨pa, ea, hw, ⟨ts, hp, prp⟩, ⟨us, hu, pru⟩⟩, l40, fun pl H1 npl s1 hpl => ?_⟩
  walk_at "s"
  refine r_new fun bk H2 nb s2 e2 => ?_
  have s02 := s1.trans s2
  have hpl2 := s2 _ _ hpl
  walk_at "s"
  refine l_zip (fun i σ H' => ∃ (x y z : Option V), σ = [some (.ref a), some (.ref l), some (.ref pl), some (.ref bk), x, y, z] ∧ Same H1 H' ∧ H' bk = some (.dK (kvI (pbK (hs.take i))))) hpl2 (s02 _ _ hl) (by omega)
    ⟨none, none, none, rfl, s2, e2⟩ (fun i σ H' hi ⟨_, _, _, _, sm, _⟩ => ⟨sm _ _ hpl, sm _ _ (s1 _ _ hl)⟩) ?_ ?_
  · rintro i x y T σ H3 H4 hx hy ⟨u, v, z, rfl, sm, hb⟩ nT s4 e4
    rw [List.getElem?_map, List.getElem?_map, Option.map_map] at hx
    obtain ⟨p, hpi, rfl⟩ := Option.map_eq_some_iff.mp hx
    obtain ⟨t, h, rfl, ht, hhi, hrow⟩ := tab_at prl hy
    have e1 : h.1 = p.1 := sh.at hpi hhi
    have e3 := sh.each h (getElem?_mem' hhi)
    have hr4 : H4 t = some (.tup [.int h.1, .int h.2]) := s4 _ _ (sm _ _ (s1 _ _ hrow))
    have e4 : H4 T = some (.tup [.int p.1, .ref t]) := e4
    have hb4 := s4 _ _ hb
    walk_at "s"
    refine ⟨t, [h.1, h.2], rfl, hr4, ?_⟩
    walk_at "s"
    refine r_dputL hb4 (sz_lt (by rw [kvI_len]; unfold pbK; rw [List.length_map, List.length_take]; omega)) ?_
    refine ⟨_, _, z, rfl, sm_mut (sm.trans s4) nb, ?_⟩
    have e5 : putK (kvI (pbK (hs.take i))) (Sum.inl p.1) (.int h.2) = kvI (pbK (hs.take (i + 1))) := by
      rw [pbK_snoc hs hhi, ← e1]
      refine kvI_put ?_
      rw [pbK_keys, List.map_take, sh.keys]
      exact nd_take ok.p.nd (by rw [List.getElem?_map, hpi, e1]; rfl)
    rw [upd_same, e5]
  · rintro σ H3 ⟨u, v, z, rfl, sm, hb⟩
    have lt : hs.take ((ps.map (·.1)).map V.int).length = hs := List.take_of_length_le (by omega)
    rw [lt] at hb
    have sm0 := s1.trans sm
    have hw3 := sm0 _ _ hw
    have hu3 := sm0 _ _ hu
    walk_at "s"
    refine l_list (fun i σ H' => ∃ (x y z : Option V), σ = [some (.ref a), some (.ref l), some (.ref pl), some (.ref bk), x, y, z] ∧ H' = H3 ∧ ∀ e ∈ es.take i, 2 ≤ hv hs e.1 + hv hs e.2) hu3
      ⟨u, v, z, rfl, rfl, by simp⟩ (fun i σ H' hi ⟨_, _, _, _, sm, _⟩ => by rw [sm]; exact hu3) ?_ ?_
    · rintro i x σ H4 hx ⟨u, v, z, rfl, rfl, hall⟩
      obtain ⟨t, e, rfl, ht, hei, hrow⟩ := tab_at pru hx
      have hr4 : H4 t = some (.tup [.int e.1, .int e.2]) := sm0 _ _ hrow
      have oe := ok.t.each e (getElem?_mem' hei)
      have g1 := hv_some (l := hs) (k := e.1) (by rw [sh.keys]; exact oe.2.1)
      have g2 := hv_some (l := hs) (k := e.2) (by rw [sh.keys]; exact oe.2.2)
      by_cases c : 2 ≤ hv hs e.1 + hv hs e.2
      · walk_at "s"
        refine ⟨_, _, _, rfl, rfl, fun q hq => ?_⟩
        rw [List.take_add_one, hei] at hq
        rcases List.mem_append.mp hq with m | m
        · exact hall q m
        · have : q = e := by simpa using m
          rw [this]; exact c
      · walk_at "s"
        exact k _ _ sm0 ⟨fun h => Bool.noConfusion h, fun h => absurd (h e (getElem?_mem' hei)) c⟩
    · rintro σ H4 ⟨u, v, z, rfl, rfl, hall⟩
      walk_at "s"
      refine k _ _ sm0 ⟨fun _ e he => hall e ?_, fun _ => rfl⟩
      rw [List.take_of_length_le (by omega)]
      exact he
def spPaidAt : Sp := fun vs H Q _ => ∃ (l : Addr) (ds : List (Int × Int × Int)), vs = [.ref l] ∧ Tab H l (ds.map I3) ∧ ds.length ≤ 1000 ∧ ∀ p H', H p = none → Same H H' → H' p = some (.dK (kvI (pbK (paidL ds)))) → Q (.ref p) H'
theorem ok_paid_at {f : Addr} {fd : FuncData} (F : Fun K "paid_at" "paid_at" spaid_at f fd) (T : Txt K mg) : FnOk P w K mg base CX0 1 f fd ["dues"] spPaidAt := by
  refine F.ok scpaid_at (fun vs H Q E h => ?_) (fun cdv A outer s H vs Q E hr h => ?_)
  · obtain ⟨l, ds, rfl, _⟩ := h; rfl
  obtain ⟨l, ds, rfl, ⟨ts, hl, pr⟩, l1000, k⟩ := h
  have ll := tab_len pr
  have l3 : (ts.map V.ref).length = ts.length := List.length_map ..
  refine ⟨_, (pss_cons (ps_set (i := 1) scpaid_at.nd rfl (Or.inl rfl) pe_dnewK)
 (pss_cons (ps_for PassesOwn.never rfl (piLK (K := K) (pv 0)) (pgTK (K := K) (n := 3) rfl (pgs_cons (pg_name (i := 2) scpaid_at.nd rfl (Or.inl rfl)) (pgs_cons (pg_name (i := 3) scpaid_at.nd rfl (Or.inl rfl)) (pgs_cons (pg_name (i := 4) scpaid_at.nd rfl (Or.inl rfl)) pgs_nil))))
 (pss_cons (ps_dput (hu_of hr) (pv 1) (pv 2) (pe_op op_add (pe_dget2 (hu_of hr) (pv 1) (pv 2) pe_int ⟨rfl, rfl, rfl, rfl⟩) (pv 4)) rfl)
 (pss_one (ps_dput (hu_of hr) (pv 1) (pv 3) (pe_op op_add (pe_dget2 (hu_of hr) (pv 1) (pv 3) pe_int ⟨rfl, rfl, rfl, rfl⟩) (pv 4)) rfl))))
 (pss_one (ps_ret (pv 1))))), ?_⟩
  walk_at "s"
  refine r_new fun d H2 nd s2 e2 => ?_
  walk_at "s"
  refine l_list (fun i σ H' => ∃ (x y z : Option V), σ = [some (.ref l), some (.ref d), x, y, z] ∧ Same H H' ∧ H' d = some (.dK (kvI (pbK (paidL (ds.take i)))))) (s2 _ _ hl)
    ⟨none, none, none, rfl, s2, e2⟩ (fun i σ H' hi ⟨_, _, _, _, sm, _⟩ => sm _ _ hl) ?_ ?_
  · rintro i x σ H3 hx ⟨u, v, z, rfl, sm, hd⟩
    obtain ⟨t, e, rfl, ht, hei, hrow⟩ := tab_at pr hx
    have hr3 : H3 t = some (.tup [.int e.1, .int e.2.1, .int e.2.2]) := sm _ _ hrow
    have z1 := paidL_len (ds.take i)
    have z2 : (ds.take i).length ≤ 1000 := by rw [List.length_take]; omega
    have z3 := putP_len (paidL (ds.take i)) e.1 (hv (paidL (ds.take i)) e.1 + e.2.2)
    walk_at "s"
    rw [hv_getD]
    walk_at "s"
    refine r_dputL hd (sz_lt (by rw [kvI_len]; unfold pbK; rw [List.length_map]; omega)) ?_
    rw [putP_put]
    have hd2 : (upd H3 d (.dK (kvI (pbK (putP (paidL (ds.take i)) e.1 (hv (paidL (ds.take i)) e.1 + e.2.2)))))) d = some _ := upd_same
    walk_at "s"
    rw [hv_getD]
    walk_at "s"
    refine r_dputL hd2 (sz_lt (by rw [kvI_len]; unfold pbK; rw [List.length_map]; omega)) ?_
    rw [putP_put, upd_upd]
    refine ⟨_, _, _, rfl, sm_mut sm nd, ?_⟩
    rw [upd_same, paidL_snoc hei]
  · rintro σ H3 ⟨u, v, z, rfl, sm, hd⟩
    have lt : ds.take (ts.map V.ref).length = ds := List.take_of_length_le (by omega)
    rw [lt] at hd
    walk_at "s"
    exact k _ _ nd sm hd
structure DuesOk (ps es : List (Int × Int)) (ds : List (Int × Int × Int)) : Prop where
  len : ds.length ≤ es.length
  each : ∀ d ∈ ds, 1 ≤ d.2.2 ∧ (d.1, d.2.1) ∈ es
  rise : ds.Pairwise fun a b => lt2 (a.1, a.2.1) (b.1, b.2.1)
  paid : ∀ k ∈ ps.map (·.1), paidOf ds k ≤ 2 * hv ps k
theorem le2F {i j u v : Int} (h : lt2 (u, v) (i, j)) : Ob.lexAt (fun n => decide (([i, j] : List Int).getD n 0 = ([u, v] : List Int).getD n 0)) (fun n => decide (([i, j] : List Int).getD n 0 ≤ ([u, v] : List Int).getD n 0)) (decide (([i, j] : List Int).length ≤ ([u, v] : List Int).length)) 0 (min ([i, j] : List Int).length ([u, v] : List Int).length) = false := by
  have h : u < i ∨ (u = i ∧ v < j) := h
  show (if decide (i = u) = true then (if decide (j = v) = true then true else decide (j ≤ v)) else decide (i ≤ u)) = false
  by_cases e : i = u
  · rw [decide_eq_true e, if_pos rfl]
    have e2 : ¬ j = v := by omega
    rw [decide_eq_false e2, if_neg Bool.false_ne_true]
    exact decide_eq_false (by omega)
  · rw [decide_eq_false e, if_neg Bool.false_ne_true]
    exact decide_eq_false (by omega)
theorem r_le2F {H : Hp} {Q : VK} {a b : Addr} {i j u v : Int} (h1 : H a = some (.tup [.int i, .int j])) (h2 : H b = some (.tup [.int u, .int v])) (lt : lt2 (u, v) (i, j)) (q : Q (.bl false) H) : rLeT K (.ref a) (.ref b) H Q :=
  ⟨a, b, [i, j], [u, v], rfl, rfl, SqT.of h1, SqT.of h2, by rw [le2F lt]; exact q⟩
theorem r_notInF {H : Hp} {Q : VK} {t l : Addr} {p : Int × Int} {es : List (Int × Int)} (h1 : H t = some (.tup (I2 p))) (h2 : Tab H l (es.map I2)) (m : p ∈ es) (q : Q (.bl false) H) : rNotInD K (.ref t) (.ref l) H Q :=
  ⟨D2 p, es.map D2, dp2 h1, dpTab h2, d2_shp p, d2s_shp es, by rw [any_d2, decide_eq_true m]; exact q⟩
theorem nw32 : ¬ (HT.sIx 3 0 none = 0 ∧ HT.sIx 3 3 (some 2) = 3) := by decide
def spAreDues : Sp := fun vs H Q _ => ∃ (a l : Addr) (ps es : List (Int × Int)) (ds : List (Int × Int × Int)), vs = [.ref a, .ref l] ∧ WebAt H a ps es ∧ WebOk ps es ∧ Tab H l (ds.map I3) ∧ DuesOk ps es ds ∧ ∀ H', Same H H' → Q (.bl true) H'
theorem ok_are_dues {f : Addr} {fd : FuncData} (F : Fun K "are_dues" "are_dues" sare_dues f fd) (T : Txt K mg) (C_is_number_tuple : Can P w K mg base 2 "is_number_tuple" ["thing", "size"] spNumTup) (C_price_book : Can P w K mg base 1 "price_book" ["web"] spPriceBook) (C_paid_at : Can P w K mg base 1 "paid_at" ["dues"] spPaidAt) : FnOk P w K mg base CX0 3 f fd ["web", "thing"] spAreDues := by
  refine F.ok scare_dues (fun vs H Q E h => ?_) (fun cdv A outer s H vs Q E hr h => ?_)
  · obtain ⟨a, l, ps, es, ds, rfl, _⟩ := h; rfl
  obtain ⟨a, l, ps, es, ds, rfl, ⟨pa, ea, hw, tp, te⟩, ok, ⟨rs, hl, prl⟩, dok, k⟩ := h
  obtain ⟨us, hu, pru⟩ := id te
  have ll := tab_len prl
  have lu := tab_len pru
  have l1 := dok.len
  have l2 := ok.t.len
  have l3 : (rs.map V.ref).length = rs.length := List.length_map ..
  have l5 : (us.map V.ref).length = us.length := List.length_map ..
  refine ⟨_, (pss_cons (ps_if (PW.pt (pw_or (pt_not (pt_val (pe_callB (isiK (K := K)) (by rfl) T.fIsinstance bt_isinstance (pa_cons (pv 1) (pa_cons (pg_ty (T := "list") T.fList bt_list) pa_nil))))) (pw_or1 (pt_cmpR op_gt (pe_callB (lenK (K := K)) (by rfl) T.fLen bt_len (pa_cons (pv 1) pa_nil)) (pe_callB (lenK (K := K)) (by rfl) T.fLen bt_len (pa_cons (pe_ix (ixTK (K := K)) (pv 0) pe_int (fun _ _ => rfl)) pa_nil)) (nomark _)))))
 (pss_one (ps_ret pe_bl))
 pss_nil)
 (pss_cons (ps_set (i := 2) scare_dues.nd rfl (Or.inl rfl) (pe_tup (pa_cons (pe_un un_neg pe_int) (pa_cons (pe_un un_neg pe_int) pa_nil))))
 (pss_cons (ps_for PassesOwn.never rfl (piLK (K := K) (pv 1)) (pg_name (i := 3) scare_dues.nd rfl (Or.inl rfl))
 (pss_cons (ps_if (PW.pt (pw_or (pt_not (pt_val (pc_can C_is_number_tuple (hr.mono (by decide)) rfl (pa_cons (pv 3) (pa_cons pe_int pa_nil))))) (pw_or (pt_cmpR op_lt (pe_ix (ixTK (K := K)) (pv 3) pe_int (fun _ _ => rfl)) pe_int (nomark _)) (pw_or (pt_cmpR (notInDK (K := K) (hu65 hr)) (pe_slice (slTK (K := K)) (pv 3) po_none (po_some pe_int)) (pe_ix (ixTK (K := K)) (pv 0) pe_int (fun _ _ => rfl)) rfl) (pw_or1 (pt_cmpR (leTK (K := K) hr.units0) (pe_slice (slTK (K := K)) (pv 3) po_none (po_some pe_int)) (pv 2) (nomark _)))))))
 (pss_one (ps_ret pe_bl))
 pss_nil)
 (pss_one (ps_set (i := 2) scare_dues.nd rfl (Or.inl rfl) (pe_slice (slTK (K := K)) (pv 3) po_none (po_some pe_int))))))
 (pss_cons (ps_set (i := 4) scare_dues.nd rfl (Or.inl rfl) (pc_can C_price_book (hr.mono (by decide)) rfl (pa_cons (pv 0) pa_nil)))
 (pss_cons (ps_set (i := 5) scare_dues.nd rfl (Or.inl rfl) (pc_can C_paid_at (hr.mono (by decide)) rfl (pa_cons (pv 1) pa_nil)))
 (pss_cons (ps_lock (ps_for PassesOwn.never rfl (pi_keys (pv 5)) (pg_name (i := 6) scare_dues.nd rfl (Or.inl rfl))
 (pss_one (ps_if (pt_cmpR op_gt (pe_dget (hu_of hr) (pv 5) (pv 6) (fun _ _ => rfl)) (pe_op op_mul pe_int (pe_dget (hu_of hr) (pv 4) (pv 6) (fun _ _ => rfl))) (nomark _))
 (pss_one (ps_ret pe_bl))
 pss_nil))))
 (pss_one (ps_ret pe_bl)))))))), ?_⟩
  walk_at "s"
  refine r_new fun b0 H1 nb s1 e1 => ?_
  walk_at "s"
  refine l_list (fun i σ H' => ∃ (b : Addr) (i1 j1 : Int) (x y z v : Option V), σ = [some (.ref a), some (.ref l), some (.ref b), x, y, z, v] ∧ Same H H' ∧ H' b = some (.tup [.int i1, .int j1]) ∧ ∀ d, ds[i]? = some d → lt2 (i1, j1) (d.1, d.2.1)) (s1 _ _ hl)
    ⟨b0, -1, -1, none, none, none, none, rfl, s1, e1, fun d hd => .inl ?_⟩ (fun i σ H' hi ⟨_, _, _, _, _, _, _, _, sm, _⟩ => sm _ _ hl) ?_ ?_
  · have h1 := (ok.t.each _ (dok.each d (getElem?_mem' hd)).2).2.1
    obtain ⟨q, hq, e⟩ := List.mem_map.mp h1
    have h2 := ok.p.each q hq
    have e : q.1 = d.1 := e
    show (-1 : Int) < d.1
    omega
  · rintro i x σ H3 hx ⟨b, i1, j1, x1, y1, z1, v1, rfl, sm, hb, hlt⟩
    obtain ⟨t, d, rfl, ht, hdi, hrow⟩ := tab_at prl hx
    have hr3 : H3 t = some (.tup [.int d.1, .int d.2.1, .int d.2.2]) := sm _ _ hrow
    have hd := dok.each d (getElem?_mem' hdi)
    have hw3 := sm _ _ hw
    walk_at "s"
    refine ⟨t, [d.1, d.2.1, d.2.2], rfl, hr3, ?_⟩
    walk_at "s"
    refine r_slT hr3 nw32 (r_new fun t2 H4 n4 s4 e4 => ?_)
    have hw4 := s4 _ _ hw3
    have e4' : H4 t2 = some (.tup (I2 (d.1, d.2.1))) := e4
    walk_at "s"
    refine r_notInF (p := (d.1, d.2.1)) e4' (te.sm (sm.trans s4)) hd.2 ?_
    walk_at "s"
    have hr4 := s4 _ _ hr3
    refine r_slT hr4 nw32 (r_new fun t3 H5 n5 s5 e5 => ?_)
    have hb5 := s5 _ _ (s4 _ _ hb)
    have e5' : H5 t3 = some (.tup [.int d.1, .int d.2.1]) := e5
    walk_at "s"
    refine r_le2F e5' hb5 (hlt d hdi) ?_
    walk_at "s"
    have hr5 := s5 _ _ hr4
    refine r_slT hr5 nw32 (r_new fun t4 H6 n6 s6 e6 => ?_)
    walk_at "s"
    exact ⟨t4, d.1, d.2.1, _, _, _, _, rfl, ((sm.trans s4).trans s5).trans s6, e6, fun q hq => rise_at dok.rise hdi hq⟩
  · rintro σ H3 ⟨b, i1, j1, x1, y1, z1, v1, rfl, sm, hb, _⟩
    have web3 : WebAt H3 a ps es := WebAt.sm sm ⟨pa, ea, hw, tp, te⟩
    walk_at "s"
    refine ⟨a, ps, es, rfl, web3, ok.p, fun pb H4 npb s4 hpb => ?_⟩
    walk_at "s"
    refine ⟨l, ds, rfl, Tab.sm (sm.trans s4) ⟨rs, hl, prl⟩, by omega, fun pd H5 npd s5 hpd => ?_⟩
    have hpb5 := s5 _ _ hpb
    walk_at "s"
    refine l_keys hpd (fun i σ => ∃ z : Option V, σ = [some (.ref a), some (.ref l), some (.ref b), x1, some (.ref pb), some (.ref pd), z]) ⟨_, rfl⟩ (fun G q h => ⟨_, rfl, h⟩) ?_ ?_
    · rintro od i kk v σ G hk ⟨z, rfl⟩ eG
      unfold kvI pbK at hk
      rw [List.getElem?_map, List.getElem?_map, Option.map_map] at hk
      obtain ⟨q, hq, e⟩ := Option.map_eq_some_iff.mp hk
      cases e
      have mem : q.1 ∈ (paidL ds).map (·.1) := List.mem_map.mpr ⟨q, getElem?_mem' hq, rfl⟩
      have inp : q.1 ∈ ps.map (·.1) := by
        obtain ⟨d, hd, e⟩ := (paidL_keys ds q.1).mp mem
        have := ok.t.each _ (dok.each d hd).2
        rcases e with e | e
        · rw [← e]; exact this.2.1
        · rw [← e]; exact this.2.2
      have g1 := hv_some mem
      have g2 := hv_some inp
      have le := dok.paid q.1 inp
      rw [← paidL_hv] at le
      have hG : G pd = some (.frz od (.dK (kvI (pbK (paidL ds))))) := by rw [eG]; exact upd_same
      have hG2 : G pb = some (.dK (kvI (pbK ps))) := by rw [eG, upd_ne (ne_of_none hpb npd)]; exact hpb5
      show gName 6 (.int q.1) _ _ _
      walk_at "s"
      exact ⟨rfl, _, rfl⟩
    · rintro σ ⟨z, rfl⟩
      walk_at "s"
      exact k _ ((sm.trans s4).trans s5)
def costOf (ps hs : List (Int × Int)) : Int := (hs.map fun h => hv ps h.1 * h.2).sum
def spCost : Sp := fun vs H Q _ => ∃ (a l : Addr) (ps es hs : List (Int × Int)), vs = [.ref a, .ref l] ∧ WebAt H a ps es ∧ WebOk ps es ∧ Tab H l (hs.map I2) ∧ Shape ps hs ∧ ∀ H', Same H H' → Q (.int (costOf ps hs)) H'
theorem ok_cost_of_halves {f : Addr} {fd : FuncData} (F : Fun K "cost_of_halves" "cost_of_halves" scost_of_halves f fd) (T : Txt K mg) (C_price_book : Can P w K mg base 1 "price_book" ["web"] spPriceBook) : FnOk P w K mg base CX0 2 f fd ["web", "halves"] spCost := by
  refine F.ok sccost_of_halves (fun vs H Q E h => ?_) (fun cdv A outer s H vs Q E hr h => ?_)
  · obtain ⟨a, l, ps, es, hs, rfl, _⟩ := h; rfl
  obtain ⟨a, l, ps, es, hs, rfl, web, ok, ⟨ts, hl, pr⟩, sh, k⟩ := h
  have ll := tab_len pr
  have lh := sh.len
  have l40 := ok.p.len
  have l3 : (ts.map V.ref).length = ts.length := List.length_map ..
  refine ⟨_, (pss_cons (ps_set (i := 2) sccost_of_halves.nd rfl (Or.inr rfl) (pc_can C_price_book (hr.mono (by decide)) rfl (pa_cons (pv 0) pa_nil)))
 (pss_one (ps_ret (pe_callB (sumK (K := K) rfl) (by rfl) T.fSum bt_sum (pa_cons (pe_lc (own := [("place", 3), ("h", 4)]) rfl sccost_of_halves.nd (piLK (K := K) (pv 1)) (blkOk_by (own := [("place", 3), ("h", 4)]) (N := ["web", "halves", "prices", "place", "h"]) (sc := defScope scost_of_halves) (by decide +kernel)) (fun _ _ _ _ _ => (pgTK (K := K) (n := 2) rfl (pgs_cons (pg_name (i := 3) sccost_of_halves.nd rfl (Or.inl rfl)) (pgs_cons (pg_name (i := 4) sccost_of_halves.nd rfl (Or.inl rfl)) pgs_nil)))) (fun _ _ _ _ _ => pts_nil) (fun _ _ _ _ _ => (pe_op op_mul (pe_dget (hu_of hr) (pv 2) (pv 3) (fun _ _ => rfl)) (pv 4)))) pa_nil))))), ?_⟩
  walk_at "s"
  refine ⟨a, ps, es, rfl, web, ok.p, fun pb H1 npb s1 hpb => ?_⟩
  walk_at "s"
  refine k_list (fun i acc G => acc = ((hs.take i).map fun h => V.int (hv ps h.1 * h.2))) (s1 _ _ hl) (fun _ => by simp) ?_ ?_
  · intro D i x acc H' nD hx sm hD eA
    obtain ⟨t, h, rfl, ht, hhi, hrow⟩ := tab_at pr hx
    have hr3 : H' t = some (.tup [.int h.1, .int h.2]) := sm _ _ (s1 _ _ hrow)
    have e2 := sh.each h (getElem?_mem' hhi)
    have hpb2 := sm _ _ hpb
    have g1 := hv_some (l := ps) (k := h.1) (by rw [← sh.keys]; exact List.mem_map.mpr ⟨h, getElem?_mem' hhi, rfl⟩)
    walk_at "s"
    refine ⟨rfl, ?_⟩
    walk_at "s"
    refine r_I (.inr ⟨by omega, by omega⟩) ?_
    have hl : acc.length ≤ 40 := by rw [eA, List.length_map, List.length_take]; omega
    refine c_end (fun _ _ _ _ _ _ _ h => h) nD sm hD (by omega) ?_
    rw [eA, List.take_add_one, hhi]
    simp
  · intro D acc H' nD sm hD eA
    have lt : hs.take (ts.map V.ref).length = hs := List.take_of_length_le (by omega)
    rw [lt] at eA
    have e : acc = (hs.map fun h => hv ps h.1 * h.2).map V.int := by rw [eA, List.map_map]; rfl
    rw [e] at hD
    walk_at "s"
    refine r_sum hD ?_
    exact k _ (s1.trans sm)
def dueSum (ds : List (Int × Int × Int)) : Int := (ds.map (·.2.2)).sum
def spIsPaper : Sp := fun vs H Q _ => ∃ (a t l m : Addr) (ps es hs : List (Int × Int)) (ds : List (Int × Int × Int)), vs = [.ref a, .ref t] ∧ WebAt H a ps es ∧ WebOk ps es ∧ H t = some (.tup [.ref l, .ref m]) ∧ Tab H l (hs.map I2) ∧ Shape ps hs ∧ Tab H m (ds.map I3) ∧ DuesOk ps es ds ∧
  ∀ b H', Same H H' → (b = true ↔ (Cover es hs ∧ dueSum ds = costOf ps hs)) → Q (.bl b) H'
theorem ok_is_paper {f : Addr} {fd : FuncData} (F : Fun K "is_paper" "is_paper" sis_paper f fd) (T : Txt K mg) (C_are_halves : Can P w K mg base 3 "are_halves" ["web", "thing"] spAreHalves) (C_are_dues : Can P w K mg base 3 "are_dues" ["web", "thing"] spAreDues) (C_cost_of_halves : Can P w K mg base 2 "cost_of_halves" ["web", "halves"] spCost) : FnOk P w K mg base CX0 4 f fd ["web", "thing"] spIsPaper := by
  refine F.ok scis_paper (fun vs H Q E h => ?_) (fun cdv A outer s H vs Q E hr h => ?_)
  · obtain ⟨a, t, l, m, ps, es, hs, ds, rfl, _⟩ := h; rfl
  obtain ⟨a, t, l, m, ps, es, hs, ds, rfl, web, ok, ht, tl, sh, tm, dok, k⟩ := h
  obtain ⟨us, hm, pru⟩ := id tm
  have lu := tab_len pru
  have l1 := dok.len
  have l2 := ok.t.len
  have l3 : (us.map V.ref).length = us.length := List.length_map ..
  refine ⟨_, (pss_cons (ps_if (PW.pt (pw_or (pt_not (pt_val (pe_callB (isiK (K := K)) (by rfl) T.fIsinstance bt_isinstance (pa_cons (pv 1) (pa_cons (pg_ty (T := "tuple") T.fTuple bt_tuple) pa_nil))))) (pw_or1 (pt_cmpR op_ne (pe_callB (lenK (K := K)) (by rfl) T.fLen bt_len (pa_cons (pv 1) pa_nil)) pe_int (nomark _)))))
 (pss_one (ps_ret pe_bl))
 pss_nil)
 (pss_cons (ps_if (PW.pt (pw_or (pt_not (pt_val (pc_can C_are_halves (hr.mono (by decide)) rfl (pa_cons (pv 0) (pa_cons (pe_ix (ixTK (K := K)) (pv 1) pe_int (fun _ _ => rfl)) pa_nil))))) (pw_or1 (pt_not (pt_val (pc_can C_are_dues (hr.mono (by decide)) rfl (pa_cons (pv 0) (pa_cons (pe_ix (ixTK (K := K)) (pv 1) pe_int (fun _ _ => rfl)) pa_nil))))))))
 (pss_one (ps_ret pe_bl))
 pss_nil)
 (pss_one (ps_ret (pe_cmpR op_eq (pe_callB (sumK (K := K) rfl) (by rfl) T.fSum bt_sum (pa_cons (pe_lc (own := [("due", 2)]) rfl scis_paper.nd (piLK (K := K) (pe_ix (ixTK (K := K)) (pv 1) pe_int (fun _ _ => rfl))) (blkOk_by (own := [("due", 2)]) (N := ["web", "thing", "due"]) (sc := defScope sis_paper) (by decide +kernel)) (fun _ _ _ _ _ => (pg_name (i := 2) scis_paper.nd rfl (Or.inl rfl))) (fun _ _ _ _ _ => pts_nil) (fun _ _ _ _ _ => (pe_ix (ixTK (K := K)) (pv 2) pe_int (fun _ _ => rfl)))) pa_nil)) (pc_can C_cost_of_halves (hr.mono (by decide)) rfl (pa_cons (pv 0) (pa_cons (pe_ix (ixTK (K := K)) (pv 1) pe_int (fun _ _ => rfl)) pa_nil))) (nomark _)))))), ?_⟩
  walk_at "s"
  refine ⟨a, l, ps, es, hs, rfl, web, ok, tl, sh, fun b H1 s1 eb => ?_⟩
  cases b with
  | false =>
    walk_at "s"
    exact k _ _ s1 ⟨fun h => Bool.noConfusion h, fun h => eb.mpr h.1⟩
  | true =>
    have ht1 := s1 _ _ ht
    walk_at "s"
    refine ⟨a, m, ps, es, ds, rfl, web.sm s1, ok, tm.sm s1, dok, fun H2 s2 => ?_⟩
    have s02 := s1.trans s2
    have ht2 := s02 _ _ ht
    have hm2 := s02 _ _ hm
    walk_at "s"
    refine k_list (fun i acc G => acc = ((ds.take i).map fun d => V.int d.2.2)) hm2 (fun _ => by simp) ?_ ?_
    · intro D i x acc H' nD hx sm hD eA
      obtain ⟨t, d, rfl, ht, hdi, hrow⟩ := tab_at pru hx
      have hr3 : H' t = some (.tup [.int d.1, .int d.2.1, .int d.2.2]) := sm _ _ (s02 _ _ hrow)
      walk_at "s"
      refine ⟨rfl, ?_⟩
      walk_at "s"
      have hl : acc.length ≤ 120 := by rw [eA, List.length_map, List.length_take]; omega
      refine c_end (fun _ _ _ _ _ _ _ h => h) nD sm hD (by omega) ?_
      rw [eA, List.take_add_one, hdi]
      simp
    · intro D acc H' nD sm hD eA
      have lt : ds.take (us.map V.ref).length = ds := List.take_of_length_le (by omega)
      rw [lt] at eA
      have e : acc = (ds.map (·.2.2)).map V.int := by rw [eA, List.map_map]; rfl
      rw [e] at hD
      have s03 := s02.trans sm
      have ht3 := s03 _ _ ht
      walk_at "s"
      refine r_sum hD ?_
      walk_at "s"
      refine ⟨a, l, ps, es, hs, rfl, web.sm s03, ok, tl.sm s03, sh, fun H4 s4 => ?_⟩
      walk_at "s"
      refine k _ _ (s03.trans s4) ⟨fun h => ⟨eb.mp rfl, of_decide_eq_true h⟩, fun h => decide_eq_true h.2⟩
end
end K33
set_option Elab.async false
set_option linter.all false
set_option maxRecDepth 100000
set_option maxHeartbeats 4000000
/-! K7: near_book. -/
namespace K33
open PySem L2
/-! one step of a reading -/
local macro_rules | `(tactic| walk_at "look") => `(tactic| first | assumption | exact upd_same | (refine Same.at' (by assumption) ?_; walk_at "look"))
local macro_rules | `(tactic| walk_at "side") => `(tactic| first | exact .inr ⟨by decide, by decide⟩ | exact .inl ⟨by decide, by decide⟩ | (show (0 : Int) < _; decide) | exact ⟨by decide, by decide⟩ | omega)
local macro_rules | `(tactic| walk_at "tt") => `(tactic| first | assumption | exact decide_eq_true (by assumption) | exact decide_eq_true rfl | (rw [decide_eq_false (by assumption)]; rfl) | rfl | exact decide_eq_true (by omega) | (rw [decide_eq_false (by omega)]; rfl))
local macro_rules | `(tactic| walk_at "ff") => `(tactic| first | assumption | exact decide_eq_false (by assumption) | (rw [decide_eq_true (by assumption)]; rfl) | (rw [decide_eq_true rfl]; rfl) | rfl | exact decide_eq_false (by omega) | (rw [decide_eq_true (by omega)]; rfl))
local macro_rules | `(tactic| walk_at "fld") => `(tactic| fail)
local macro_rules | `(tactic| walk_at "s1") => `(tactic| first
  | with_reducible refine r_seq ?_
  | with_reducible refine r_asg ?_
  | with_reducible refine r_name ?_
  | ((with_reducible refine' r_var ?hv ?_); (case hv => exact rfl))
  | with_reducible refine r_c ?_
  | with_reducible refine r_op ?_
  | with_reducible refine r_un ?_
  | with_reducible refine r_neg ?_
  | with_reducible refine r_I0 ?_
  | ((with_reducible refine' r_I ?hc ?_); (case hc => walk_at "side"))
  | with_reducible refine r_eqI ?_
  | with_reducible refine r_neI ?_
  | with_reducible refine r_eqS ?_
  | with_reducible refine r_neS ?_
  | with_reducible refine r_B ?_
  | with_reducible refine r_test ?_
  | with_reducible refine r_chain ?_
  | with_reducible refine r_and ?_
  | with_reducible refine r_or ?_
  | with_reducible refine r_not ?_
  | with_reducible refine r_andV ?_
  | with_reducible refine r_orV ?_
  | with_reducible refine r_notV ?_
  | with_reducible refine r_nil ?_
  | with_reducible refine r_cons ?_
  | with_reducible refine r_call ?_
  | with_reducible refine r_CB ?_
  | with_reducible refine r_fld ?_
  | with_reducible refine r_tup ?_
  | walk_at "fld"
  | with_reducible refine r_lst ?_
  | with_reducible refine r_if ?_
  | with_reducible refine r_drop ?_
  | with_reducible refine r_ret ?_
  | with_reducible refine r_retN ?_
  | with_reducible refine r_next ?_
  | with_reducible refine r_cont ?_
  | with_reducible refine r_bm ?_
  | with_reducible refine r_gcons ?_
  | with_reducible refine r_gnil ?_
  | with_reducible refine r_for ?_
  | with_reducible refine r_lc ?_
  | with_reducible refine r_yes ?_
  | with_reducible refine r_iEnum ?_
  | with_reducible refine r_iList ?_
  | with_reducible refine r_iTup ?_
  | with_reducible refine r_iZip ?_
  | with_reducible refine r_iRng1 ?_
  | with_reducible refine r_iRng2 ?_
  | with_reducible refine r_din ?_
  | with_reducible refine r_dnotin ?_
  | with_reducible refine r_dget ?_
  | with_reducible refine r_dget2 ?_
  | with_reducible refine r_dput ?_
  | with_reducible refine r_dnewK ?_
  | with_reducible refine r_gsub ?_
  | ((with_reducible refine' r_dinL (Rd.of ?h) ?_); (case h => walk_at "look"))
  | ((with_reducible refine' r_isD (Rd.of ?h) ?_); (case h => walk_at "look"))
  | ((with_reducible refine' r_dget2L (Rd.of ?h) ?_); (case h => walk_at "look"))
  | ((with_reducible refine' r_dgetL (Rd.of ?h) ?e ?_); (case h => walk_at "look"); (case e => first | assumption | rfl))
  | ((with_reducible refine' r_dgetL (rd_frz ?h) ?e ?_); (case h => assumption); (case e => first | assumption | rfl))
  | ((with_reducible refine' r_lt2 ?h1 ?h2 ?_); (case h1 => walk_at "look"); (case h2 => walk_at "look"))
  | with_reducible refine r_sl ?_
  | with_reducible refine r_noPart ?_
  | with_reducible refine r_part ?_
  | with_reducible refine r_exi ?_
  | ((with_reducible refine' r_tyL ?h ?_); (case h => walk_at "look"))
  | with_reducible refine r_isN ?_
  | with_reducible refine r_notN ?_
  | with_reducible refine r_isB ?_
  | with_reducible refine r_notB ?_
  | with_reducible refine r_min2' ?_
  | with_reducible refine r_max2' ?_
  | with_reducible refine r_isi (.base (.int _)) kII ?_
  | with_reducible refine r_isi (.base (.int _)) kIB ?_
  | with_reducible refine r_isi (.base (.str _)) kSS ?_
  | with_reducible refine r_isi (.base (.bl _)) kBB ?_
  | ((with_reducible refine' r_isi (.base (.tup ?h)) kTT ?_); (case h => walk_at "look"))
  | ((with_reducible refine' r_isi (.base (.lst ?h)) kLL ?_); (case h => walk_at "look"))
  | ((with_reducible refine' r_lenS (Or.inr (SqT.of ?h)) ?_); (case h => walk_at "look"))
  | ((with_reducible refine' r_lenS (Or.inl (SqL.of ?h)) ?_); (case h => walk_at "look"))
  | ((with_reducible refine' r_ixT (SqT.of ?h) ?e ?_); (case h => walk_at "look"); (case e => rfl))
  | ((with_reducible refine' r_gtup (SqT.of ?h) ?e ?_); (case h => walk_at "look"); (case e => rfl))
  | ((with_reducible refine r_tlen ?e ?_); (case e => exact Nat.le_of_ble_eq_true rfl))
  | with_reducible refine r_iteT ?_
  | with_reducible refine r_iteF ?_
  | with_reducible refine r_exb2 ?_
  | ((with_reducible refine r_iteP ?hc ?_); (case hc => walk_at "tt"))
  | ((with_reducible refine r_iteN ?hc ?_); (case hc => walk_at "ff")))
local macro_rules | `(tactic| walk_at "s") => `(tactic| repeat (walk_at "s1"))

/-- the places near p, as the ties bring them -/
def nbl (es : List (Int × Int)) (p : Int) : List Int := es.flatMap fun e => (if e.1 = p then [e.2] else []) ++ (if e.2 = p then [e.1] else [])
def Tied (es : List (Int × Int)) (p x : Int) : Prop := (p, x) ∈ es ∨ (x, p) ∈ es
theorem nbl_mem (es : List (Int × Int)) (p x : Int) : x ∈ nbl es p ↔ Tied es p x := by
  unfold nbl Tied
  rw [List.mem_flatMap]
  constructor
  · rintro ⟨⟨a, b⟩, he, h⟩
    rcases List.mem_append.mp h with m | m
    · split at m
      · rename_i e
        have : x = b := by simpa using m
        have e : a = p := e
        subst this e
        exact .inl he
      · cases m
    · split at m
      · rename_i e
        have : x = a := by simpa using m
        have e : b = p := e
        subst this e
        exact .inr he
      · cases m
  · rintro (h | h)
    · exact ⟨_, h, by simp⟩
    · exact ⟨_, h, by simp⟩
theorem nbl_snoc (es : List (Int × Int)) {i : Nat} {e : Int × Int} (h : es[i]? = some e) (p : Int) : nbl (es.take (i + 1)) p = nbl (es.take i) p ++ ((if e.1 = p then [e.2] else []) ++ (if e.2 = p then [e.1] else [])) := by
  unfold nbl
  rw [List.take_add_one, h, List.flatMap_append]
  simp
theorem nbl_len (es : List (Int × Int)) (p : Int) : (nbl es p).length ≤ 2 * es.length := by
  induction es with
  | nil => simp [nbl]
  | cons e es ih =>
    have : nbl (e :: es) p = ((if e.1 = p then [e.2] else []) ++ (if e.2 = p then [e.1] else [])) ++ nbl es p := by simp [nbl]
    rw [this, List.length_append, List.length_append, List.length_cons]
    have h1 : (if e.1 = p then [e.2] else []).length ≤ 1 := by split <;> simp
    have h2 : (if e.2 = p then [e.1] else []).length ≤ 1 := by split <;> simp
    omega
/-- a dict of references, one for each place -/
def zipK (ps : List (Int × Int)) (ls : List Addr) : List (Int × V) := (ps.map (·.1)).zip (ls.map V.ref)
theorem zipK_keys {ps : List (Int × Int)} {ls : List Addr} (h : ls.length = ps.length) : (zipK ps ls).map (·.1) = ps.map (·.1) := by
  unfold zipK
  rw [List.map_fst_zip]
  rw [List.length_map, List.length_map]; omega
theorem zipK_at {ps : List (Int × Int)} {ls : List Addr} {j : Nat} {p : Int × Int} {l : Addr} (hp : ps[j]? = some p) (hl : ls[j]? = some l) : (zipK ps ls)[j]? = some (p.1, V.ref l) := by
  unfold zipK
  rw [List.getElem?_zip_eq_some, List.getElem?_map, List.getElem?_map, hp, hl]
  exact ⟨rfl, rfl⟩
theorem zipK_get {ps : List (Int × Int)} {ls : List Addr} (ok : PlacesOk ps) (h : ls.length = ps.length) {j : Nat} {p : Int × Int} {l : Addr} (hp : ps[j]? = some p) (hl : ls[j]? = some l) : valV (kvI (zipK ps ls)) (Sum.inl p.1) = some (.ref l) :=
  kvI_some (by rw [zipK_keys h]; exact ok.nd) (zipK_at hp hl)
theorem zipK_len {ps : List (Int × Int)} {ls : List Addr} (h : ls.length = ps.length) : (kvI (zipK ps ls)).length = ps.length := by
  rw [kvI_len]
  have := congrArg List.length (zipK_keys h)
  simpa using this
theorem zipK_set {ps : List (Int × Int)} {ls : List Addr} (ok : PlacesOk ps) (h : ls.length = ps.length) {j : Nat} {p : Int × Int} (n : Addr) (hp : ps[j]? = some p) : putK (kvI (zipK ps ls)) (Sum.inl p.1) (.ref n) = kvI (zipK ps (ls.set j n)) := by
  have hj : j < ps.length := (List.getElem?_eq_some_iff.mp hp).1
  obtain ⟨l, hl⟩ : ∃ l, ls[j]? = some l := ⟨_, List.getElem?_eq_getElem (by omega)⟩
  unfold putK
  have e : ((kvI (zipK ps ls)).any fun kv => decide (kv.1 = Sum.inl p.1)) = true := by
    rw [valV_any, zipK_get ok h hp hl]; rfl
  rw [if_pos e]
  refine List.ext_getElem? fun i => ?_
  rw [List.getElem?_map]
  by_cases hi : i < ps.length
  · have hip : ps[i]? = some ps[i] := List.getElem?_eq_getElem hi
    have hil : ls[i]? = some ls[i] := List.getElem?_eq_getElem (by omega)
    have e1 : (kvI (zipK ps ls))[i]? = some (Sum.inl ps[i].1, V.ref ls[i]) := by unfold kvI; rw [List.getElem?_map, zipK_at hip hil]; rfl
    rw [e1]
    by_cases hij : i = j
    · subst hij
      have e2 : ps[i] = p := by rw [hip] at hp; exact Option.some.inj hp
      have e3 : (kvI (zipK ps (ls.set i n)))[i]? = some (Sum.inl p.1, V.ref n) := by
        unfold kvI
        rw [List.getElem?_map, zipK_at hp (List.getElem?_set_self (by omega))]; rfl
      rw [e3, Option.map_some, e2, if_pos rfl]
    · have e3 : (kvI (zipK ps (ls.set j n)))[i]? = some (Sum.inl ps[i].1, V.ref ls[i]) := by
        unfold kvI
        rw [List.getElem?_map, zipK_at hip (by rw [List.getElem?_set_ne (fun q => hij q.symm)]; exact hil)]; rfl
      rw [e3, Option.map_some, if_neg]
      intro q
      have q := Sum.inl.inj q
      refine hij (nd_ix ok.nd (i := i) (j := j) (x := p.1) ?_ ?_)
      · rw [List.getElem?_map, hip, Option.map_some, q]
      · rw [List.getElem?_map, hp]; rfl
  · have l1 : (kvI (zipK ps ls))[i]? = none := List.getElem?_eq_none (by rw [zipK_len h]; omega)
    have l2 : (kvI (zipK ps (ls.set j n)))[i]? = none := List.getElem?_eq_none (by rw [zipK_len (by rw [List.length_set]; exact h)]; omega)
    rw [l1, l2]; rfl
theorem zipK_snoc {ps : List (Int × Int)} {ls : List Addr} {i : Nat} {p : Int × Int} (h : ls.length = i) (hp : ps[i]? = some p) (n : Addr) : zipK (ps.take (i + 1)) (ls ++ [n]) = zipK (ps.take i) ls ++ [(p.1, .ref n)] := by
  unfold zipK
  rw [List.take_add_one, hp, List.map_append, List.map_append, List.zip_append]
  · rfl
  · have := (List.getElem?_eq_some_iff.mp hp).1
    rw [List.length_map, List.length_take, List.length_map]; omega
section
variable {P : Program} {w : World} {K : PySem.W.Frag} {mg : Str → Option Value} {base : Heap}
/-- a book of who is near, at d -/
def NearAt (H : Hp) (d : Addr) (ps es : List (Int × Int)) : Prop := ∃ ls : List Addr, ls.length = ps.length ∧ H d = some (.dK (kvI (zipK ps ls))) ∧
  ∀ (j : Nat) l p, ls[j]? = some l → ps[j]? = some p → ∃ ns : List Int, H l = some (.lst (ns.map V.int)) ∧ (∀ x, x ∈ ns ↔ Tied es p.1 x) ∧ ns.length ≤ 240
def spNearBook : Sp := fun vs H Q _ => ∃ (a : Addr) (ps es : List (Int × Int)), vs = [.ref a] ∧ WebAt H a ps es ∧ WebOk ps es ∧ ∀ d H', H d = none → Same H H' → NearAt H' d ps es → Q (.ref d) H'
theorem kvI_keysV {l : List (Int × V)} : ((kvI l).map fun kv => kV kv.1) = (l.map (·.1)).map V.int := by
  unfold kvI
  rw [List.map_map, List.map_map]
  rfl
theorem place_at {ps : List (Int × Int)} {x : Int} (h : x ∈ ps.map (·.1)) : ∃ (j : Nat) (p : Int × Int), ps[j]? = some p ∧ p.1 = x := by
  obtain ⟨p, hp, e⟩ := List.mem_map.mp h
  obtain ⟨j, hj⟩ := List.getElem?_of_mem hp
  exact ⟨j, p, hj, e⟩
theorem ok_near_book {f : Addr} {fd : FuncData} (F : Fun K "near_book" "near_book" snear_book f fd) (T : Txt K mg) : FnOk P w K mg base CX0 1 f fd ["web"] spNearBook := by
  refine F.ok scnear_book (fun vs H Q E h => ?_) (fun cdv A outer s H vs Q E hr h => ?_)
  · obtain ⟨a, ps, es, rfl, _⟩ := h; rfl
  obtain ⟨a, ps, es, rfl, ⟨pa, ea, hw, ⟨ts, hp, prp⟩, ⟨us, hu, pru⟩⟩, ok, k⟩ := h
  have lp := tab_len prp
  have lu := tab_len pru
  have l40 := ok.p.len
  have l120 := ok.t.len
  have l3 : (ts.map V.ref).length = ts.length := List.length_map ..
  have l5 : (us.map V.ref).length = us.length := List.length_map ..
  refine ⟨_, (pss_cons (ps_set (i := 1) scnear_book.nd rfl (Or.inl rfl) pe_dnewK)
 (pss_cons (ps_for PassesOwn.never rfl (piLK (K := K) (pe_ix (ixTK (K := K)) (pv 0) pe_int (fun _ _ => rfl))) (pgTK (K := K) (n := 2) rfl (pgs_cons (pg_name (i := 2) scnear_book.nd rfl (Or.inl rfl)) (pgs_cons (pg_name (i := 3) scnear_book.nd rfl (Or.inl rfl)) pgs_nil)))
 (pss_one (ps_dput (hu_of hr) (pv 1) (pv 2) (pe_lst pa_nil) rfl)))
 (pss_cons (ps_for PassesOwn.never rfl (piLK (K := K) (pe_ix (ixTK (K := K)) (pv 0) pe_int (fun _ _ => rfl))) (pgTK (K := K) (n := 2) rfl (pgs_cons (pg_name (i := 4) scnear_book.nd rfl (Or.inl rfl)) (pgs_cons (pg_name (i := 5) scnear_book.nd rfl (Or.inl rfl)) pgs_nil)))
 (pss_cons (ps_expr (peMK (K := K) PySem.F.plainAttrs_list PySem.F.slot_list_append PySem.F.type_list_append mt_append (pe_dget (hu_of hr) (pv 1) (pv 4) (fun _ _ => rfl)) (pa_cons (pv 5) pa_nil)))
 (pss_one (ps_expr (peMK (K := K) PySem.F.plainAttrs_list PySem.F.slot_list_append PySem.F.type_list_append mt_append (pe_dget (hu_of hr) (pv 1) (pv 5) (fun _ _ => rfl)) (pa_cons (pv 4) pa_nil))))))
 (pss_cons (ps_for PassesOwn.never rfl (piLK (K := K) (pe_callTy (call_list_dK rfl) (by rfl) T.fList bt_list (pa_cons (pv 1) pa_nil))) (pg_name (i := 2) scnear_book.nd rfl (Or.inl rfl))
 (pss_one (ps_dput (hu_of hr) (pv 1) (pv 2) (pe_callB (sortIK (K := K)) (by rfl) T.fSorted bt_sorted (pa_cons (pe_dget (hu_of hr) (pv 1) (pv 2) (fun _ _ => rfl)) pa_nil)) rfl)))
 (pss_one (ps_ret (pv 1))))))), ?_⟩
  walk_at "s"
  refine r_new fun d H1 nd s1 e1 => ?_
  walk_at "s"
  refine l_list (fun i σ H' => ∃ (ls : List Addr) (x y z v : Option V), σ = [some (.ref a), some (.ref d), x, y, z, v] ∧ Same H H' ∧ ls.length = i ∧ H' d = some (.dK (kvI (zipK (ps.take i) ls))) ∧ ls.Nodup ∧ ∀ l ∈ ls, H' l = some (.lst []) ∧ H l = none) (s1 _ _ hp)
    ⟨[], none, none, none, none, rfl, s1, rfl, e1, List.nodup_nil, fun l h => by cases h⟩ (fun i σ H' hi ⟨_, _, _, _, _, _, sm, _⟩ => sm _ _ hp) ?_ ?_
  · rintro i x σ H3 hx ⟨ls, x1, y1, z1, v1, rfl, sm, hli, hd, nd2, hls⟩
    obtain ⟨t, p, rfl, ht, hpi, hrow⟩ := tab_at prp hx
    have hr3 : H3 t = some (.tup [.int p.1, .int p.2]) := sm _ _ hrow
    have hi : i < ps.length := (List.getElem?_eq_some_iff.mp hpi).1
    walk_at "s"
    refine r_new fun n H4 nn s4 e4 => ?_
    have hd4 := s4 _ _ hd
    have htl : (ps.take i).length = i := by rw [List.length_take]; omega
    walk_at "s"
    refine r_dputL hd4 (sz_lt (by rw [zipK_len (by omega)]; omega)) ?_
    have e5 : putK (kvI (zipK (ps.take i) ls)) (Sum.inl p.1) (.ref n) = kvI (zipK (ps.take (i + 1)) (ls ++ [n])) := by
      rw [zipK_snoc hli hpi]
      refine kvI_put ?_
      rw [zipK_keys (by omega), List.map_take]
      exact nd_take ok.p.nd (by rw [List.getElem?_map, hpi]; rfl)
    have nnl : n ∉ ls := fun m => by
      have := (hls n m).1
      rw [nn] at this
      cases this
    refine ⟨ls ++ [n], _, _, _, _, rfl, sm_mut (sm.trans s4) nd, by rw [List.length_append, hli]; rfl, by rw [upd_same, e5], ?_, fun l hl => ?_⟩
    · rw [List.nodup_append]
      exact ⟨nd2, by simp, fun b hb c hc => by
        have : c = n := by simpa using hc
        subst this
        intro q
        subst q
        exact nnl hb⟩
    · rcases List.mem_append.mp hl with m | m
      · obtain ⟨q1, q2⟩ := hls l m
        have q3 := s4 _ _ q1
        exact ⟨by rw [upd_ne (ne_of q3 hd4 (fun z => by cases z))]; exact q3, q2⟩
      · have : l = n := by simpa using m
        subst this
        exact ⟨by rw [upd_ne (ne_of e4 hd4 (fun z => by cases z))]; exact e4, sm.free nn⟩
  · rintro σ H3 ⟨ls, x1, y1, z1, v1, rfl, sm, hli, hd, nd2, hls⟩
    have lt : ps.take (ts.map V.ref).length = ps := List.take_of_length_le (by omega)
    rw [lt] at hd
    have hll : ls.length = ps.length := by omega
    have hw3 := sm _ _ hw
    walk_at "s"
    refine l_list (fun i σ H' => ∃ (x y z v : Option V), σ = [some (.ref a), some (.ref d), x, y, z, v] ∧ Same H H' ∧ H' d = some (.dK (kvI (zipK ps ls))) ∧ ∀ (j : Nat) l p, ls[j]? = some l → ps[j]? = some p → H' l = some (.lst ((nbl (es.take i) p.1).map V.int))) (sm _ _ hu)
      ⟨_, _, _, _, rfl, sm, hd, fun j l p hl hp => by rw [(hls l (getElem?_mem' hl)).1]; rfl⟩ (fun i σ H' hi ⟨_, _, _, _, _, sm, _⟩ => sm _ _ hu) ?_ ?_
    · rintro i x σ H4 hx ⟨x1, y1, z1, v1, rfl, sm4, hd4, hall⟩
      obtain ⟨t, e, rfl, ht, hei, hrow⟩ := tab_at pru hx
      have hr4 : H4 t = some (.tup [.int e.1, .int e.2]) := sm4 _ _ hrow
      have oe := ok.t.each e (getElem?_mem' hei)
      obtain ⟨j0, p0, hp0, ep0⟩ := place_at oe.2.1
      obtain ⟨j1, p1, hp1, ep1⟩ := place_at oe.2.2
      have g0 : j0 < ls.length := by have := (List.getElem?_eq_some_iff.mp hp0).1; omega
      have g1 : j1 < ls.length := by have := (List.getElem?_eq_some_iff.mp hp1).1; omega
      have hl0 : ls[j0]? = some ls[j0] := List.getElem?_eq_getElem g0
      have hl1 : ls[j1]? = some ls[j1] := List.getElem?_eq_getElem g1
      have v0 := zipK_get ok.p hll hp0 hl0
      have v1' := zipK_get ok.p hll hp1 hl1
      rw [ep0] at v0
      rw [ep1] at v1'
      have a0 := hall j0 _ p0 hl0 hp0
      have a1 := hall j1 _ p1 hl1 hp1
      have zl0 := nbl_len (es.take i) p0.1
      have zl1 := nbl_len (es.take i) p1.1
      have zl : (es.take i).length ≤ 120 := by rw [List.length_take]; omega
      have ne01 : ls[j1] ≠ ls[j0] := fun q => by
        have := nd_ix nd2 hl1 (by rw [hl0, q])
        subst this
        rw [hp0] at hp1
        cases hp1
        omega
      walk_at "s"
      refine r_append a0 (by rw [List.length_map]; omega) ?_
      have d0 : d ≠ ls[j0] := ne_of hd4 a0 (fun z => by cases z)
      have hd5 : (upd H4 ls[j0] (.lst ((nbl (es.take i) p0.1).map V.int ++ [.int e.2]))) d = some (.dK (kvI (zipK ps ls))) := by rw [upd_ne d0]; exact hd4
      have a15 : (upd H4 ls[j0] (.lst ((nbl (es.take i) p0.1).map V.int ++ [.int e.2]))) ls[j1] = some (.lst ((nbl (es.take i) p1.1).map V.int)) := by rw [upd_ne ne01]; exact a1
      walk_at "s"
      refine r_append a15 (by rw [List.length_map]; omega) ?_
      have d1 : d ≠ ls[j1] := ne_of hd4 a1 (fun z => by cases z)
      refine ⟨_, _, _, _, rfl, sm_mut (sm_mut sm4 (hls _ (getElem?_mem' hl0)).2) (hls _ (getElem?_mem' hl1)).2, by rw [upd_ne d1]; exact hd5, fun j l p hl hp => ?_⟩
      rw [nbl_snoc es hei, List.map_append]
      by_cases e1 : j = j1
      · subst e1
        rw [hl1] at hl
        rw [hp1] at hp
        cases hl
        cases hp
        rw [upd_same, if_neg (by omega), if_pos ep1.symm]
        rfl
      · have n1 : l ≠ ls[j1] := fun q => e1 (nd_ix nd2 hl (by rw [hl1, q]))
        rw [upd_ne n1]
        have m1 : ¬ e.2 = p.1 := fun q => e1 (nd_ix ok.p.nd (x := p.1) (by rw [List.getElem?_map, hp]; rfl) (by rw [List.getElem?_map, hp1, Option.map_some, ep1, q]))
        rw [if_neg m1]
        by_cases e0 : j = j0
        · subst e0
          rw [hl0] at hl
          rw [hp0] at hp
          cases hl
          cases hp
          rw [upd_same, if_pos ep0.symm]
          rfl
        · have n0 : l ≠ ls[j0] := fun q => e0 (nd_ix nd2 hl (by rw [hl0, q]))
          have m0 : ¬ e.1 = p.1 := fun q => e0 (nd_ix ok.p.nd (x := p.1) (by rw [List.getElem?_map, hp]; rfl) (by rw [List.getElem?_map, hp0, Option.map_some, ep0, q]))
          rw [upd_ne n0, if_neg m0, hall j l p hl hp]
          simp
    · rintro σ H4 ⟨x1, y1, z1, v1, rfl, sm4, hd4, hall⟩
      have lt : es.take (us.map V.ref).length = es := List.take_of_length_le (by omega)
      rw [lt] at hall
      walk_at "s"
      refine r_listD hd4 (r_new fun q H5 nq s5 e5 => ?_)
      rw [kvI_keysV, zipK_keys hll] at e5
      have lk : ((ps.map (·.1)).map V.int).length = ps.length := by rw [List.length_map, List.length_map]
      refine l_list (fun i σ H' => ∃ (cur : List Addr) (x y z v : Option V), σ = [some (.ref a), some (.ref d), x, y, z, v] ∧ Same H H' ∧ cur.length = ps.length ∧ H' q = some (.lst ((ps.map (·.1)).map V.int)) ∧ H' d = some (.dK (kvI (zipK ps cur))) ∧ (∀ (j : Nat) l p, ls[j]? = some l → ps[j]? = some p → H' l = some (.lst ((nbl es p.1).map V.int))) ∧
          (∀ j : Nat, i ≤ j → cur[j]? = ls[j]?) ∧ ∀ (j : Nat) l p, j < i → cur[j]? = some l → ps[j]? = some p → ∃ ns : List Int, H' l = some (.lst (ns.map V.int)) ∧ (∀ x, x ∈ ns ↔ Tied es p.1 x) ∧ ns.length ≤ 240) e5
        ⟨ls, _, _, _, _, rfl, sm4.trans s5, hll, e5, s5 _ _ hd4, fun j l p hl hp => s5 _ _ (hall j l p hl hp), fun _ _ => rfl, fun j l p h => absurd h (Nat.not_lt_zero _)⟩ (fun i σ H' hi ⟨_, _, _, _, _, _, _, _, h, _⟩ => h) ?_ ?_
      · rintro i x σ H6 hx ⟨cur, x2, y2, z2, v2, rfl, sm6, hcl, hq6, hd6, hall6, hge, hlt⟩
        rw [List.getElem?_map, List.getElem?_map, Option.map_map] at hx
        obtain ⟨p, hpi, rfl⟩ := Option.map_eq_some_iff.mp hx
        have hi : i < ps.length := (List.getElem?_eq_some_iff.mp hpi).1
        have hli2 : ls[i]? = some ls[i] := List.getElem?_eq_getElem (by omega)
        have hci : cur[i]? = some ls[i] := by rw [hge i (Nat.le_refl _)]; exact hli2
        have vg := zipK_get ok.p hcl hpi hci
        have al := hall6 i _ p hli2 hpi
        show gName 2 (.int p.1) _ _ _
        walk_at "s"
        refine r_sortI al fun ns' perm _ => r_new fun n H7 nn s7 e7 => ?_
        have hd7 := s7 _ _ hd6
        walk_at "s"
        refine r_dputL hd7 (sz_lt (by rw [zipK_len hcl]; omega)) ?_
        rw [zipK_set ok.p hcl n hpi]
        have off : ∀ {b : Addr} {xs : List V}, H7 b = some (.lst xs) → (upd H7 d (.dK (kvI (zipK ps (cur.set i n))))) b = some (.lst xs) := fun {b xs} h => by
          rw [upd_ne (ne_of h hd7 (fun z => by cases z))]; exact h
        refine ⟨cur.set i n, _, _, _, _, rfl, sm_mut (sm6.trans s7) nd, by rw [List.length_set]; exact hcl, off (s7 _ _ hq6), upd_same, fun j l p hl hp => off (s7 _ _ (hall6 j l p hl hp)), fun j hj => ?_, fun j l pj hj hl hp => ?_⟩
        · rw [List.getElem?_set_ne (by omega)]
          exact hge j (by omega)
        · by_cases e : j = i
          · subst e
            rw [List.getElem?_set_self (by omega)] at hl
            cases hl
            rw [hpi] at hp
            cases hp
            refine ⟨ns', off e7, fun x => by rw [perm.mem_iff, nbl_mem], ?_⟩
            have := nbl_len es p.1
            rw [perm.length_eq]
            omega
          · rw [List.getElem?_set_ne (fun q => e q.symm)] at hl
            obtain ⟨ns, q1, q2, q3⟩ := hlt j l pj (by omega) hl hp
            exact ⟨ns, off (s7 _ _ q1), q2, q3⟩
      · rintro σ H6 ⟨cur, x2, y2, z2, v2, rfl, sm6, hcl, hq6, hd6, hall6, hge, hlt⟩
        walk_at "s"
        exact k _ _ nd sm6 ⟨cur, hcl, hd6, fun j l p hl hp => hlt j l p (by have := (List.getElem?_eq_some_iff.mp hp).1; omega) hl hp⟩
end
end K33
set_option Elab.async false
set_option linter.all false
set_option maxRecDepth 100000
set_option maxHeartbeats 4000000
/-! K8: Chain. -/
namespace K33
open PySem L2
/-! one step of a reading -/
local macro_rules | `(tactic| walk_at "look") => `(tactic| first | assumption | exact upd_same | (refine Same.at' (by assumption) ?_; walk_at "look"))
local macro_rules | `(tactic| walk_at "side") => `(tactic| first | exact .inr ⟨by decide, by decide⟩ | exact .inl ⟨by decide, by decide⟩ | (show (0 : Int) < _; decide) | exact ⟨by decide, by decide⟩ | omega)
local macro_rules | `(tactic| walk_at "tt") => `(tactic| first | assumption | exact decide_eq_true (by assumption) | exact decide_eq_true rfl | (rw [decide_eq_false (by assumption)]; rfl) | rfl | exact decide_eq_true (by omega) | (rw [decide_eq_false (by omega)]; rfl))
local macro_rules | `(tactic| walk_at "ff") => `(tactic| first | assumption | exact decide_eq_false (by assumption) | (rw [decide_eq_true (by assumption)]; rfl) | (rw [decide_eq_true rfl]; rfl) | rfl | exact decide_eq_false (by omega) | (rw [decide_eq_true (by omega)]; rfl))
local macro_rules | `(tactic| walk_at "fld") => `(tactic| fail)
local macro_rules | `(tactic| walk_at "s1") => `(tactic| first
  | with_reducible refine r_seq ?_
  | with_reducible refine r_asg ?_
  | with_reducible refine r_name ?_
  | ((with_reducible refine' r_var ?hv ?_); (case hv => exact rfl))
  | with_reducible refine r_c ?_
  | with_reducible refine r_op ?_
  | with_reducible refine r_un ?_
  | with_reducible refine r_neg ?_
  | with_reducible refine r_I0 ?_
  | ((with_reducible refine' r_I ?hc ?_); (case hc => walk_at "side"))
  | with_reducible refine r_eqI ?_
  | with_reducible refine r_neI ?_
  | with_reducible refine r_eqS ?_
  | with_reducible refine r_neS ?_
  | with_reducible refine r_B ?_
  | with_reducible refine r_test ?_
  | with_reducible refine r_chain ?_
  | with_reducible refine r_and ?_
  | with_reducible refine r_or ?_
  | with_reducible refine r_not ?_
  | with_reducible refine r_andV ?_
  | with_reducible refine r_orV ?_
  | with_reducible refine r_notV ?_
  | with_reducible refine r_nil ?_
  | with_reducible refine r_cons ?_
  | with_reducible refine r_call ?_
  | with_reducible refine r_CB ?_
  | with_reducible refine r_fld ?_
  | with_reducible refine r_tup ?_
  | walk_at "fld"
  | with_reducible refine r_lst ?_
  | with_reducible refine r_if ?_
  | with_reducible refine r_drop ?_
  | with_reducible refine r_ret ?_
  | with_reducible refine r_retN ?_
  | with_reducible refine r_next ?_
  | with_reducible refine r_cont ?_
  | with_reducible refine r_bm ?_
  | with_reducible refine r_gcons ?_
  | with_reducible refine r_gnil ?_
  | with_reducible refine r_for ?_
  | with_reducible refine r_lc ?_
  | with_reducible refine r_yes ?_
  | with_reducible refine r_iEnum ?_
  | with_reducible refine r_iList ?_
  | with_reducible refine r_iTup ?_
  | with_reducible refine r_iZip ?_
  | with_reducible refine r_iRng1 ?_
  | with_reducible refine r_iRng2 ?_
  | with_reducible refine r_din ?_
  | with_reducible refine r_dnotin ?_
  | with_reducible refine r_dget ?_
  | with_reducible refine r_dget2 ?_
  | with_reducible refine r_dput ?_
  | with_reducible refine r_dnewK ?_
  | with_reducible refine r_gsub ?_
  | ((with_reducible refine' r_dinL (Rd.of ?h) ?_); (case h => walk_at "look"))
  | ((with_reducible refine' r_isD (Rd.of ?h) ?_); (case h => walk_at "look"))
  | ((with_reducible refine' r_dget2L (Rd.of ?h) ?_); (case h => walk_at "look"))
  | ((with_reducible refine' r_dgetL (Rd.of ?h) ?e ?_); (case h => walk_at "look"); (case e => first | assumption | rfl))
  | ((with_reducible refine' r_dgetL (rd_frz ?h) ?e ?_); (case h => assumption); (case e => first | assumption | rfl))
  | ((with_reducible refine' r_lt2 ?h1 ?h2 ?_); (case h1 => walk_at "look"); (case h2 => walk_at "look"))
  | with_reducible refine r_sl ?_
  | with_reducible refine r_noPart ?_
  | with_reducible refine r_part ?_
  | with_reducible refine r_exi ?_
  | ((with_reducible refine' r_tyL ?h ?_); (case h => walk_at "look"))
  | with_reducible refine r_isN ?_
  | with_reducible refine r_notN ?_
  | with_reducible refine r_isB ?_
  | with_reducible refine r_notB ?_
  | with_reducible refine r_min2' ?_
  | with_reducible refine r_max2' ?_
  | with_reducible refine r_isi (.base (.int _)) kII ?_
  | with_reducible refine r_isi (.base (.int _)) kIB ?_
  | with_reducible refine r_isi (.base (.str _)) kSS ?_
  | with_reducible refine r_isi (.base (.bl _)) kBB ?_
  | ((with_reducible refine' r_isi (.base (.tup ?h)) kTT ?_); (case h => walk_at "look"))
  | ((with_reducible refine' r_isi (.base (.lst ?h)) kLL ?_); (case h => walk_at "look"))
  | ((with_reducible refine' r_lenS (Or.inr (SqT.of ?h)) ?_); (case h => walk_at "look"))
  | ((with_reducible refine' r_lenS (Or.inl (SqL.of ?h)) ?_); (case h => walk_at "look"))
  | ((with_reducible refine' r_ixT (SqT.of ?h) ?e ?_); (case h => walk_at "look"); (case e => rfl))
  | ((with_reducible refine' r_gtup (SqT.of ?h) ?e ?_); (case h => walk_at "look"); (case e => rfl))
  | ((with_reducible refine r_tlen ?e ?_); (case e => exact Nat.le_of_ble_eq_true rfl))
  | with_reducible refine r_iteT ?_
  | with_reducible refine r_iteF ?_
  | with_reducible refine r_exb2 ?_
  | ((with_reducible refine r_iteP ?hc ?_); (case hc => walk_at "tt"))
  | ((with_reducible refine r_iteN ?hc ?_); (case hc => walk_at "ff")))
local macro_rules | `(tactic| walk_at "s") => `(tactic| repeat (walk_at "s1"))

/-! fields and methods of this class -/
local macro_rules | `(tactic| walk_at "lk") => `(tactic| first | with_reducible exact pfC1_prices _ | with_reducible exact pfC2_prices _ _ | with_reducible exact pfC2_near _ _ | with_reducible exact pfC3_prices _ _ _ | with_reducible exact pfC3_near _ _ _ | with_reducible exact pfC3_paid _ _ _ | with_reducible exact pfC4_prices _ _ _ _ | with_reducible exact pfC4_near _ _ _ _ | with_reducible exact pfC4_paid _ _ _ _ | with_reducible exact pfC4_due_ties _ _ _ _ | with_reducible exact pfC5_prices _ _ _ _ _ | with_reducible exact pfC5_near _ _ _ _ _ | with_reducible exact pfC5_paid _ _ _ _ _ | with_reducible exact pfC5_due_ties _ _ _ _ _ | with_reducible exact pfC5_ins _ _ _ _ _ | with_reducible exact pfC6_prices _ _ _ _ _ _ | with_reducible exact pfC6_near _ _ _ _ _ _ | with_reducible exact pfC6_paid _ _ _ _ _ _ | with_reducible exact pfC6_due_ties _ _ _ _ _ _ | with_reducible exact pfC6_ins _ _ _ _ _ _ | with_reducible exact pfC6_outs _ _ _ _ _ _)
local macro_rules | `(tactic| walk_at "lookC") => `(tactic| first | with_reducible exact flC_prices _ _ _ _ _ _ | with_reducible exact flC_near _ _ _ _ _ _ | with_reducible exact flC_paid _ _ _ _ _ _ | with_reducible exact flC_due_ties _ _ _ _ _ _ | with_reducible exact flC_ins _ _ _ _ _ _ | with_reducible exact flC_outs _ _ _ _ _ _ | walk_at "lk")
local macro_rules | `(tactic| walk_at "noC") => `(tactic| first | with_reducible exact flC_no_is_loose _ _ _ _ _ _ | with_reducible exact flC_no_has_due _ _ _ _ _ _ | with_reducible exact flC_no_is_so _ _ _ _ _ _ | with_reducible exact flC_no_take _ _ _ _ _ _ | with_reducible exact flC_no_lets _ _ _ _ _ _ | with_reducible exact flC_no_whole _ _ _ _ _ _)
local macro_rules | `(tactic| walk_at "atC") => `(tactic| first | with_reducible exact IsC.n_prices (by assumption) | with_reducible exact IsC.n_near (by assumption) | with_reducible exact IsC.n_paid (by assumption) | with_reducible exact IsC.n_due_ties (by assumption) | with_reducible exact IsC.n_ins (by assumption) | with_reducible exact IsC.n_outs (by assumption))
local macro_rules | `(tactic| walk_at "fld") => `(tactic| ((with_reducible refine' r_exf ?h (IsC.cl (by assumption)) ?n ?l ?_); (case h => walk_at "look"); (case n => walk_at "atC"); (case l => walk_at "lookC")))
local macro_rules | `(tactic| walk_at "fld") => `(tactic| ((with_reducible refine' r_methL ?h ?n ?_); (case h => walk_at "look"); (case n => walk_at "noC")))
local macro_rules | `(tactic| walk_at "fld") => `(tactic| with_reducible refine r_meth ?_)
local macro_rules | `(tactic| walk_at "fld") => `(tactic| with_reducible refine r_make ?_)
local macro_rules | `(tactic| walk_at "fld") => `(tactic| with_reducible refine r_fset ?_)

/-! ### what is kept but for one instance -/
/-- all but instances stays -/
def Keep (H H' : Hp) : Prop := ∀ b o, (∀ C dx fs, o ≠ .ins C dx fs) → H b = some o → H' b = some o
/-- all but the object at c stays -/
def SB (c : Addr) (H H' : Hp) : Prop := ∀ b o, b ≠ c → H b = some o → H' b = some o
theorem SB.refl (c : Addr) (H : Hp) : SB c H H := fun _ _ _ h => h
theorem SB.trans {c : Addr} {H H1 H2 : Hp} (a : SB c H H1) (b : SB c H1 H2) : SB c H H2 := fun x o n h => b x o n (a x o n h)
theorem SB.of {c : Addr} {H H' : Hp} (s : Same H H') : SB c H H' := fun b o _ h => s b o h
theorem SB.upd {c : Addr} {H : Hp} {o : HO} : SB c H (upd H c o) := fun b u n h => by rw [upd_ne n]; exact h
theorem SB.keep {c C dx : Addr} {fs : List (Str × V)} {H H' : Hp} (s : SB c H H') (hc : H c = some (.ins C dx fs)) : Keep H H' := fun b o no h => s b o (fun e => no _ _ _ (by rw [e, hc] at h; exact (Option.some.inj h).symm)) h
theorem Same.keep {H H' : Hp} (s : Same H H') : Keep H H' := fun b o _ h => s b o h
theorem Keep.trans {H H1 H2 : Hp} (a : Keep H H1) (b : Keep H1 H2) : Keep H H2 := fun x o n h => b x o n (a x o n h)
theorem Keep.dk {H H' : Hp} (k : Keep H H') {a : Addr} {kvs : List (Key × V)} (h : H a = some (.dK kvs)) : H' a = some (.dK kvs) := k _ _ (fun _ _ _ z => by cases z) h
theorem Keep.lst {H H' : Hp} (k : Keep H H') {a : Addr} {xs : List V} (h : H a = some (.lst xs)) : H' a = some (.lst xs) := k _ _ (fun _ _ _ z => by cases z) h
theorem Keep.tup {H H' : Hp} (k : Keep H H') {a : Addr} {xs : List V} (h : H a = some (.tup xs)) : H' a = some (.tup xs) := k _ _ (fun _ _ _ z => by cases z) h
theorem Tab.kp {H H' : Hp} {a : Addr} {rows : List (List V)} (k : Keep H H') (h : Tab H a rows) : Tab H' a rows := by
  obtain ⟨ts, e, p⟩ := h
  exact ⟨ts, k.lst e, L2.Paired.mapP p fun t r h => k.tup h⟩
theorem WebAt.kp {H H' : Hp} {a : Addr} {ps es : List (Int × Int)} (k : Keep H H') (h : WebAt H a ps es) : WebAt H' a ps es := by
  obtain ⟨x, y, e, p, q⟩ := h
  exact ⟨x, y, k.tup e, p.kp k, q.kp k⟩
theorem NearAt.kp {H H' : Hp} {a : Addr} {ps es : List (Int × Int)} (k : Keep H H') (h : NearAt H a ps es) : NearAt H' a ps es := by
  obtain ⟨ls, l, e, p⟩ := h
  exact ⟨ls, l, k.dk e, fun j l q hl hq => let ⟨ns, x, y, z⟩ := p j l q hl hq; ⟨ns, k.lst x, y, z⟩⟩
/-! ### chains as data -/
inductive Lk where
  | loose (v : Int) | beside (u v : Int) | tight (u v : Int)
def eC : Lk → List V
  | .loose v => [.str "loose", .int v]
  | .beside u v => [.str "beside", .int u, .int v]
  | .tight u v => [.str "tight", .int u, .int v]
def Lk.at : Lk → List Int
  | .loose v => [v]
  | .beside u v => [u, v]
  | .tight u v => [u, v]
def pr2 (d : Int × Int × Int) : Int × Int := (d.1, d.2.1)
def mn (a b : Int) : Int := if b < a then b else a
def mx (a b : Int) : Int := if b > a then b else a
def okL (ps es : List (Int × Int)) (ds : List (Int × Int × Int)) (I O : List Int) : Lk → Prop
  | .loose v => paidOf ds v < 2 * hv ps v
  | .beside u v => u ∈ O ∧ Tied es u v
  | .tight u v => u ∈ I ∧ (mn u v, mx u v) ∈ ds.map pr2
def insS (I : List Int) (v : Int) : List Int := if v ∈ I then I else I ++ [v]
def insOf (I : List Int) : Lk → List Int
  | .beside _ v => insS I v
  | _ => I
def outsOf (O : List Int) : Lk → List Int
  | .beside _ _ => O
  | .loose v => insS O v
  | .tight _ v => insS O v
def runOk (ps es : List (Int × Int)) (ds : List (Int × Int × Int)) : List Int → List Int → List Lk → Prop
  | _, _, [] => True
  | I, O, c :: cs => okL ps es ds I O c ∧ runOk ps es ds (insOf I c) (outsOf O c) cs
/-- a dict as a set of ints -/
def kvS (I : List Int) : List (Key × V) := kvI (I.map fun k => (k, V.bl true))
theorem kvS_keys (I : List Int) : (I.map fun k => (k, V.bl true)).map (·.1) = I := by rw [List.map_map]; exact List.map_id' I
theorem kvS_in (I : List Int) (k : Int) : (valV (kvS I) (Sum.inl k)).isSome = decide (k ∈ I) := by
  unfold kvS
  rw [kvI_isSome, kvS_keys]
theorem kvS_len (I : List Int) : (kvS I).length = I.length := by unfold kvS; rw [kvI_len, List.length_map]
theorem kvS_put (I : List Int) (v : Int) : putK (kvS I) (Sum.inl v) (.bl true) = kvS (insS I v) := by
  unfold insS
  by_cases h : v ∈ I
  · rw [if_pos h]
    unfold putK
    have e : ((kvS I).any fun kv => decide (kv.1 = Sum.inl v)) = true := by rw [valV_any, kvS_in]; exact decide_eq_true h
    rw [if_pos e]
    unfold kvS kvI
    rw [List.map_map, List.map_map, List.map_map]
    refine List.map_congr_left fun p _ => ?_
    show (if (Sum.inl p : Key) = Sum.inl v then ((Sum.inl p : Key), V.bl true) else (Sum.inl p, V.bl true)) = (Sum.inl p, V.bl true)
    split <;> rfl
  · rw [if_neg h]
    unfold kvS
    rw [kvI_put (by rw [kvS_keys]; exact h), List.map_append]
    rfl
theorem insS_len (I : List Int) (v : Int) : (insS I v).length ≤ I.length + 1 := by unfold insS; split <;> simp
theorem insS_mem (I : List Int) (v x : Int) : x ∈ insS I v ↔ x = v ∨ x ∈ I := by
  unfold insS
  split
  · rename_i h
    exact ⟨fun m => .inr m, fun m => m.elim (fun e => e ▸ h) id⟩
  · simp [or_comm]
/-! ### what a chain stands over -/
structure ChEnv (H : Hp) (ps es : List (Int × Int)) (ds : List (Int × Int × Int)) (pr nr pd dt : Addr) : Prop where
  prices : H pr = some (.dK (kvI (pbK ps)))
  near : NearAt H nr ps es
  paid : H pd = some (.dK (kvI (pbK (paidL ds))))
  ties : Tab H dt ((ds.map pr2).map I2)
theorem ChEnv.kp {H H' : Hp} {ps es : List (Int × Int)} {ds : List (Int × Int × Int)} {pr nr pd dt : Addr} (k : Keep H H') (h : ChEnv H ps es ds pr nr pd dt) : ChEnv H' ps es ds pr nr pd dt := ⟨k.dk h.prices, h.near.kp k, k.dk h.paid, h.ties.kp k⟩
theorem r_in2 {K : PySem.W.Frag} {H : Hp} {Q : VK} {t l : Addr} {p : Int × Int} {es : List (Int × Int)} (h1 : H t = some (.tup (I2 p))) (h2 : Tab H l (es.map I2)) (q : Q (.bl (decide (p ∈ es))) H) : rInD K (.ref t) (.ref l) H Q :=
  ⟨D2 p, es.map D2, dp2 h1, dpTab h2, d2_shp p, d2s_shp es, by rw [any_d2]; exact q⟩
section
variable {P : Program} {w : World} {K : PySem.W.Frag} {mg : Str → Option Value} {base : Heap} {CC : Addr}
def spIsLoose (C : Addr) : Sp := fun vs H Q _ => ∃ (c dx pr nr pd dt iA oA : Addr) (p : Int) (ps : List (Int × Int)) (ds : List (Int × Int × Int)), vs = [.ref c, .int p] ∧ H c = some (.ins C dx (flC (.ref pr) (.ref nr) (.ref pd) (.ref dt) (.ref iA) (.ref oA))) ∧
  Rd H pr (.dK (kvI (pbK ps))) ∧ Rd H pd (.dK (kvI (pbK (paidL ds)))) ∧ p ∈ ps.map (·.1) ∧ Q (.bl (decide (paidOf ds p < 2 * hv ps p))) H
theorem ok_is_loose {f : Addr} {fd : FuncData} (F : Fun K "is_loose" "Chain.is_loose" sChain_is_loose f fd) (T : Txt K mg) (ic : IsC K CC) : FnOk P w K mg base CX0 1 f fd ["self", "place"] (spIsLoose CC) := by
  refine F.ok scChain_is_loose (fun vs H Q E h => ?_) (fun cdv A outer s H vs Q E hr h => ?_)
  · obtain ⟨c, dx, pr, nr, pd, dt, iA, oA, p, ps, ds, rfl, _⟩ := h; rfl
  obtain ⟨c, dx, pr, nr, pd, dt, iA, oA, p, ps, ds, rfl, hc, hpr, hpd, hp, k⟩ := h
  have g1 := hv_some hp
  refine ⟨_, (pss_one (ps_ret (pe_cmpR op_lt (pe_dget2 (hu_of hr) (peFK (K := K) (pv 0) rfl) (pv 1) pe_int ⟨rfl, rfl, rfl, rfl⟩) (pe_op op_mul pe_int (pe_dget (hu_of hr) (peFK (K := K) (pv 0) rfl) (pv 1) (fun _ _ => rfl))) (nomark _)))), ?_⟩
  walk_at "s"
  refine r_isD hpd ?_
  walk_at "s"
  refine r_dget2L hpd ?_
  walk_at "s"
  rw [hv_getD]
  refine r_dgetL hpr g1 ?_
  walk_at "s"
  rw [paidL_hv]
  exact k
def spHasDue (C : Addr) : Sp := fun vs H Q _ => ∃ (c dx pr nr pd dt iA oA : Addr) (u v : Int) (es : List (Int × Int)), vs = [.ref c, .int u, .int v] ∧ H c = some (.ins C dx (flC (.ref pr) (.ref nr) (.ref pd) (.ref dt) (.ref iA) (.ref oA))) ∧
  Tab H dt (es.map I2) ∧ ∀ H', Same H H' → Q (.bl (decide ((mn u v, mx u v) ∈ es))) H'
theorem ok_has_due {f : Addr} {fd : FuncData} (F : Fun K "has_due" "Chain.has_due" sChain_has_due f fd) (T : Txt K mg) (ic : IsC K CC) : FnOk P w K mg base CX0 1 f fd ["self", "one", "other"] (spHasDue CC) := by
  refine F.ok scChain_has_due (fun vs H Q E h => ?_) (fun cdv A outer s H vs Q E hr h => ?_)
  · obtain ⟨c, dx, pr, nr, pd, dt, iA, oA, u, v, es, rfl, _⟩ := h; rfl
  obtain ⟨c, dx, pr, nr, pd, dt, iA, oA, u, v, es, rfl, hc, ht, k⟩ := h
  refine ⟨_, (pss_one (ps_ret (pe_cmpR (inDK (K := K) (hu65 hr)) (pe_tup (pa_cons (pe_callB (min2 rfl) (by rfl) T.fMin bt_min (pa_cons (pv 1) (pa_cons (pv 2) pa_nil))) (pa_cons (pe_callB (max2 rfl) (by rfl) T.fMax bt_max (pa_cons (pv 1) (pa_cons (pv 2) pa_nil))) pa_nil))) (peFK (K := K) (pv 0) rfl) rfl))), ?_⟩
  walk_at "s"
  refine r_new fun t H1 nt s1 e1 => ?_
  walk_at "s"
  exact r_in2 (p := (mn u v, mx u v)) e1 (ht.sm s1) (k _ s1)
theorem inV_ints (ns : List Int) (v : Int) : inV (.int v) (ns.map V.int) = decide (v ∈ ns) := by
  unfold inV
  induction ns with
  | nil => simp
  | cons n ns ih =>
    rw [List.map_cons, List.any_cons, ih]
    by_cases h : n = v
    · subst h; simp [eqV]
    · have h' : ¬ v = n := fun e => h e.symm
      simp [eqV, h, h']
theorem r_inI {K : PySem.W.Frag} {H : Hp} {Q : VK} {l : Addr} {v : Int} {ns : List Int} (h : H l = some (.lst (ns.map V.int))) (q : Q (.bl (decide (v ∈ ns))) H) : rIn K false (.int v) (.ref l) H Q :=
  ⟨l, ns.map V.int, rfl, .inl (SqL.of h), rfl, by simp [flatV], by rw [← inV_ints] at q; exact q⟩
theorem st_lb : ¬ (("loose" : Str) = "beside") := by decide +kernel
theorem st_lt : ¬ (("loose" : Str) = "tight") := by decide +kernel
theorem st_bl : ¬ (("beside" : Str) = "loose") := by decide +kernel
theorem st_tl : ¬ (("tight" : Str) = "loose") := by decide +kernel
theorem st_tb : ¬ (("tight" : Str) = "beside") := by decide +kernel
def spIsSo (C : Addr) : Sp := fun vs H Q _ => ∃ (c dx pr nr pd dt iA oA t : Addr) (ps es : List (Int × Int)) (ds : List (Int × Int × Int)) (I O : List Int) (l : Lk), vs = [.ref c, .ref t] ∧ H c = some (.ins C dx (flC (.ref pr) (.ref nr) (.ref pd) (.ref dt) (.ref iA) (.ref oA))) ∧
  ChEnv H ps es ds pr nr pd dt ∧ PlacesOk ps ∧ H iA = some (.dK (kvS I)) ∧ H oA = some (.dK (kvS O)) ∧ H t = some (.tup (eC l)) ∧ (∀ p ∈ l.at, p ∈ ps.map (·.1)) ∧ ∀ b H', Same H H' → (b = true ↔ okL ps es ds I O l) → Q (.bl b) H'
theorem nw2 : ¬ (HT.sIx 2 0 (some 1) = 0 ∧ HT.sIx 2 2 none = 2) := by decide
theorem nw3 : ¬ (HT.sIx 3 0 (some 1) = 0 ∧ HT.sIx 3 3 none = 3) := by decide
theorem ok_is_so {f : Addr} {fd : FuncData} (F : Fun K "is_so" "Chain.is_so" sChain_is_so f fd) (T : Txt K mg) (ic : IsC K CC) (C_is_whole : Can P w K mg base 1 "is_whole" ["thing"] spIsWhole)
    (CM_is_loose : CanM P w K mg base CC 1 "is_loose" ["self", "place"] (spIsLoose CC)) (CM_has_due : CanM P w K mg base CC 1 "has_due" ["self", "one", "other"] (spHasDue CC)) : FnOk P w K mg base CX0 2 f fd ["self", "thing"] (spIsSo CC) := by
  have cC := ic.cl
  refine F.ok scChain_is_so (fun vs H Q E h => ?_) (fun cdv A outer s H vs Q E hr h => ?_)
  · obtain ⟨c, dx, pr, nr, pd, dt, iA, oA, t, ps, es, ds, I, O, l, rfl, _⟩ := h; rfl
  obtain ⟨c, dx, pr, nr, pd, dt, iA, oA, t, ps, es, ds, I, O, l, rfl, hc, env, pok, hI, hO, ht, hat, k⟩ := h
  refine ⟨_, (pss_cons (ps_if (PW.pt (pw_or (pt_not (pt_val (pe_callB (isiK (K := K)) (by rfl) T.fIsinstance bt_isinstance (pa_cons (pv 1) (pa_cons (pg_ty (T := "tuple") T.fTuple bt_tuple) pa_nil))))) (pw_or (pt_cmpR op_lt (pe_callB (lenK (K := K)) (by rfl) T.fLen bt_len (pa_cons (pv 1) pa_nil)) pe_int (nomark _)) (pw_or1 (pt_not (pt_val (pe_callB (isiK (K := K)) (by rfl) T.fIsinstance bt_isinstance (pa_cons (pe_ix (ixTK (K := K)) (pv 1) pe_int (fun _ _ => rfl)) (pa_cons (pg_ty (T := "str") T.fStr bt_str) pa_nil)))))))))
 (pss_one (ps_ret pe_bl))
 pss_nil)
 (pss_cons (ps_for PassesOwn.never rfl (piTK (K := K) (pe_slice (slTK (K := K)) (pv 1) (po_some pe_int) po_none)) (pg_name (i := 2) scChain_is_so.nd rfl (Or.inl rfl))
 (pss_one (ps_if (PW.pt (pw_or (pt_not (pt_val (pc_can C_is_whole (hr.mono (by decide)) rfl (pa_cons (pv 2) pa_nil)))) (pw_or1 (pt_cmp (pc_dnotin (hu_of hr) (pv 2) (peFK (K := K) (pv 0) rfl))))))
 (pss_one (ps_ret pe_bl))
 pss_nil)))
 (pss_cons (ps_if (pt_cmpR op_eq (pe_ix (ixTK (K := K)) (pv 1) pe_int (fun _ _ => rfl)) pe_str (nomark _))
 (pss_one (ps_ret (pe_and (pe_cmpR op_eq (pe_callB (lenK (K := K)) (by rfl) T.fLen bt_len (pa_cons (pv 1) pa_nil)) pe_int (nomark _)) (pe_one (pc_meth (pv 0) cC CM_is_loose (hr.mono (by decide)) (pa_cons (pe_ix (ixTK (K := K)) (pv 1) pe_int (fun _ _ => rfl)) pa_nil))))))
 pss_nil)
 (pss_cons (ps_if (pt_cmpR op_ne (pe_callB (lenK (K := K)) (by rfl) T.fLen bt_len (pa_cons (pv 1) pa_nil)) pe_int (nomark _))
 (pss_one (ps_ret pe_bl))
 pss_nil)
 (pss_cons (ps_if (pt_cmpR op_eq (pe_ix (ixTK (K := K)) (pv 1) pe_int (fun _ _ => rfl)) pe_str (nomark _))
 (pss_one (ps_ret (pe_and (pe_cmp (pc_din (hu_of hr) (pe_ix (ixTK (K := K)) (pv 1) pe_int (fun _ _ => rfl)) (peFK (K := K) (pv 0) rfl))) (pe_one (pe_cmpR (inSK (K := K)) (pe_ix (ixTK (K := K)) (pv 1) pe_int (fun _ _ => rfl)) (pe_dget (hu_of hr) (peFK (K := K) (pv 0) rfl) (pe_ix (ixTK (K := K)) (pv 1) pe_int (fun _ _ => rfl)) (fun _ _ => rfl)) rfl)))))
 pss_nil)
 (pss_one (ps_ret (pe_and (pe_cmpR op_eq (pe_ix (ixTK (K := K)) (pv 1) pe_int (fun _ _ => rfl)) pe_str (nomark _)) (pe_and (pe_cmp (pc_din (hu_of hr) (pe_ix (ixTK (K := K)) (pv 1) pe_int (fun _ _ => rfl)) (peFK (K := K) (pv 0) rfl))) (pe_one (pc_meth (pv 0) cC CM_has_due (hr.mono (by decide)) (pa_cons (pe_ix (ixTK (K := K)) (pv 1) pe_int (fun _ _ => rfl)) (pa_cons (pe_ix (ixTK (K := K)) (pv 1) pe_int (fun _ _ => rfl)) pa_nil))))))))))))), ?_⟩
  have lb := st_lb
  have ltt := st_lt
  have bl := st_bl
  have tl := st_tl
  have tb := st_tb
  have step : ∀ (ns : List Int) (t2 : Addr) (H1 : Hp) (D : Ends) (tb : TS) (z : Option V), Same H H1 → H1 t2 = some (.tup (ns.map V.int)) → (∀ p ∈ ns, p ∈ ps.map (·.1)) →
      (∀ z, D.nx [some (.ref c), some (.ref t), z] H1) → tFor (iTup K (tC (.ref t2))) (gName 2) (tIfS (tOr (tNot (tB (tCall spIsWhole [] (fun _ _ _ => False) (tCons (tVar 2) tNil)))) (tB (tDNotIn (tVar 2) (tFld K (tVar 0) "prices")))) (tRet (tC (.bl false))) tNext) D [some (.ref c), some (.ref t), z] H1 := by
    intro ns t2 H1 D tb z s1 e1 hin kk
    have hc1 := s1 _ _ hc
    have hpr1 := s1 _ _ env.prices
    walk_at "s"
    refine l_tup (fun i σ H' => ∃ x, σ = [some (.ref c), some (.ref t), x] ∧ H' = H1) e1 ⟨_, rfl, rfl⟩ (fun i σ H' hi ⟨_, _, q⟩ => by rw [q]; exact e1) ?_ ?_
    · rintro i x σ H3 hx ⟨u, rfl, rfl⟩
      rw [List.getElem?_map] at hx
      obtain ⟨n, hn, rfl⟩ := Option.map_eq_some_iff.mp hx
      have g1 : (valV (kvI (pbK ps)) (Sum.inl n)).isSome = true := by rw [hv_some (hin n (getElem?_mem' hn))]; rfl
      walk_at "s"
      refine ⟨n, rfl, ?_⟩
      walk_at "s"
      rw [g1]
      walk_at "s"
      exact ⟨_, rfl, rfl⟩
    · rintro σ H3 ⟨u, rfl, rfl⟩
      exact kk u
  cases l with
  | loose v =>
    have ht : H t = some (.tup [.str "loose", .int v]) := ht
    walk_at "s"
    refine r_slT ht nw2 (r_new fun t2 H1 n1 s1 e1 => ?_)
    refine step [v] t2 H1 _ tNext none s1 e1 (fun p hp => hat p hp) fun z => ?_
    have ht1 := s1 _ _ ht
    have hc1 := s1 _ _ hc
    walk_at "s"
    refine ⟨c, dx, pr, nr, pd, dt, iA, oA, v, ps, ds, rfl, hc1, Rd.of (s1 _ _ env.prices), Rd.of (s1 _ _ env.paid), hat v (by simp [Lk.at]), ?_⟩
    exact k _ _ s1 ⟨fun h => of_decide_eq_true (p := paidOf ds v < 2 * hv ps v) h, fun h => decide_eq_true (p := paidOf ds v < 2 * hv ps v) h⟩
  | beside u v =>
    have ht : H t = some (.tup [.str "beside", .int u, .int v]) := ht
    walk_at "s"
    refine r_slT ht nw3 (r_new fun t2 H1 n1 s1 e1 => ?_)
    refine step [u, v] t2 H1 _ tNext none s1 e1 (fun p hp => hat p hp) fun z => ?_
    have ht1 := s1 _ _ ht
    have hc1 := s1 _ _ hc
    have hO1 := s1 _ _ hO
    walk_at "s"
    rw [kvS_in]
    by_cases hu : u ∈ O
    · obtain ⟨ls, hll, hnr, hnear⟩ := env.near
      obtain ⟨j, p, hp, ep⟩ := place_at (hat u (by simp [Lk.at]))
      have hj : j < ls.length := by have := (List.getElem?_eq_some_iff.mp hp).1; omega
      have hl : ls[j]? = some ls[j] := List.getElem?_eq_getElem hj
      obtain ⟨ns, hns, hmem, _⟩ := hnear j _ p hl hp
      have vg := zipK_get pok hll hp hl
      rw [ep] at vg hmem
      have hnr1 := s1 _ _ hnr
      walk_at "s"
      refine r_inI (s1 _ _ hns) ?_
      exact k _ _ s1 ⟨fun h => ⟨hu, (hmem v).mp (of_decide_eq_true h)⟩, fun h => decide_eq_true ((hmem v).mpr h.2)⟩
    · walk_at "s"
      exact k _ _ s1 ⟨fun h => Bool.noConfusion h, fun h => absurd h.1 hu⟩
  | tight u v =>
    have ht : H t = some (.tup [.str "tight", .int u, .int v]) := ht
    walk_at "s"
    refine r_slT ht nw3 (r_new fun t2 H1 n1 s1 e1 => ?_)
    refine step [u, v] t2 H1 _ tNext none s1 e1 (fun p hp => hat p hp) fun z => ?_
    have ht1 := s1 _ _ ht
    have hc1 := s1 _ _ hc
    have hI1 := s1 _ _ hI
    walk_at "s"
    rw [kvS_in]
    by_cases hu : u ∈ I
    · walk_at "s"
      refine ⟨c, dx, pr, nr, pd, dt, iA, oA, u, v, ds.map pr2, rfl, hc1, env.ties.sm s1, fun H2 s2 => ?_⟩
      exact k _ _ (s1.trans s2) ⟨fun h => ⟨hu, of_decide_eq_true h⟩, fun h => decide_eq_true h.2⟩
    · walk_at "s"
      exact k _ _ s1 ⟨fun h => Bool.noConfusion h, fun h => absurd h.1 hu⟩
/-- take: the sets grow -/
def spTake (C : Addr) : Sp := fun vs H Q _ => ∃ (c dx pr nr pd dt iA oA t : Addr) (I O : List Int) (l : Lk), vs = [.ref c, .ref t] ∧ H c = some (.ins C dx (flC (.ref pr) (.ref nr) (.ref pd) (.ref dt) (.ref iA) (.ref oA))) ∧
  H iA = some (.dK (kvS I)) ∧ H oA = some (.dK (kvS O)) ∧ iA ≠ oA ∧ I.length ≤ 500 ∧ O.length ≤ 500 ∧ H t = some (.tup (eC l)) ∧
  ∀ H', (∀ b, b ≠ iA → b ≠ oA → H' b = H b) → H' iA = some (.dK (kvS (insOf I l))) → H' oA = some (.dK (kvS (outsOf O l))) → Q .non H'
theorem ok_take {f : Addr} {fd : FuncData} (F : Fun K "take" "Chain.take" sChain_take f fd) (T : Txt K mg) (ic : IsC K CC) : FnOk P w K mg base CX0 1 f fd ["self", "thing"] (spTake CC) := by
  have cC := ic.cl
  refine F.ok scChain_take (fun vs H Q E h => ?_) (fun cdv A outer s H vs Q E hr h => ?_)
  · obtain ⟨c, dx, pr, nr, pd, dt, iA, oA, t, I, O, l, rfl, _⟩ := h; rfl
  obtain ⟨c, dx, pr, nr, pd, dt, iA, oA, t, I, O, l, rfl, hc, hI, hO, nio, lI, lO, ht, k⟩ := h
  refine ⟨_, (pss_one (ps_if (pt_cmpR op_eq (pe_ix (ixTK (K := K)) (pv 1) pe_int (fun _ _ => rfl)) pe_str (nomark _))
 (pss_one (ps_dput (hu_of hr) (peFK (K := K) (pv 0) rfl) (pe_ix (ixTK (K := K)) (pv 1) pe_int (fun _ _ => rfl)) pe_bl rfl))
 (pss_one (ps_dput (hu_of hr) (peFK (K := K) (pv 0) rfl) (pe_ix (ixTK (K := K)) (pv 1) (pe_un un_neg pe_int) (fun _ _ => rfl)) pe_bl rfl)))), ?_⟩
  have lb := st_lb
  have tb := st_tb
  cases l with
  | loose v =>
    have ht : H t = some (.tup [.str "loose", .int v]) := ht
    walk_at "s"
    refine r_dputL hO (sz_lt (by rw [kvS_len]; omega)) ?_
    exact k _ (fun b n1 n2 => upd_ne n2) (by rw [upd_ne nio]; exact hI) (by rw [upd_same, kvS_put]; rfl)
  | beside u v =>
    have ht : H t = some (.tup [.str "beside", .int u, .int v]) := ht
    walk_at "s"
    refine r_dputL hI (sz_lt (by rw [kvS_len]; omega)) ?_
    exact k _ (fun b n1 n2 => upd_ne n1) (by rw [upd_same, kvS_put]; rfl) (by rw [upd_ne nio.symm]; exact hO)
  | tight u v =>
    have ht : H t = some (.tup [.str "tight", .int u, .int v]) := ht
    walk_at "s"
    refine r_dputL hO (sz_lt (by rw [kvS_len]; omega)) ?_
    exact k _ (fun b n1 n2 => upd_ne n2) (by rw [upd_ne nio]; exact hI) (by rw [upd_same, kvS_put]; rfl)
/-- lets: the whole chain -/
theorem insOf_len (I : List Int) (l : Lk) : (insOf I l).length ≤ I.length + 1 := by
  cases l with
  | beside u v => exact insS_len I v
  | loose v => exact Nat.le_succ _
  | tight u v => exact Nat.le_succ _
theorem outsOf_len (I : List Int) (l : Lk) : (outsOf I l).length ≤ I.length + 1 := by
  cases l with
  | beside u v => exact Nat.le_succ _
  | loose v => exact insS_len I v
  | tight u v => exact insS_len I v
theorem runOk_at {ps es : List (Int × Int)} {ds : List (Int × Int × Int)} {I O : List Int} {c : Lk} {cs : List Lk} : runOk ps es ds I O (c :: cs) ↔ okL ps es ds I O c ∧ runOk ps es ds (insOf I c) (outsOf O c) cs := Iff.rfl
def spLets (C : Addr) : Sp := fun vs H Q _ => ∃ (c dx pr nr pd dt iA oA l : Addr) (ps es : List (Int × Int)) (ds : List (Int × Int × Int)) (cs : List Lk), vs = [.ref c, .ref l] ∧ H c = some (.ins C dx (flC (.ref pr) (.ref nr) (.ref pd) (.ref dt) (.ref iA) (.ref oA))) ∧
  ChEnv H ps es ds pr nr pd dt ∧ PlacesOk ps ∧ H iA = some (.dK []) ∧ H oA = some (.dK []) ∧ iA ≠ oA ∧ pr ≠ iA ∧ pr ≠ oA ∧ nr ≠ iA ∧ nr ≠ oA ∧ pd ≠ iA ∧ pd ≠ oA ∧ Tab H l (cs.map eC) ∧ cs.length ≤ 200 ∧ (∀ x ∈ cs, ∀ p ∈ x.at, p ∈ ps.map (·.1)) ∧
  ∀ b H', (∀ b o, b ≠ iA → b ≠ oA → H b = some o → H' b = some o) → (b = true ↔ runOk ps es ds [] [] cs) → Q (.bl b) H'
theorem ChEnv.off {H H' : Hp} {ps es : List (Int × Int)} {ds : List (Int × Int × Int)} {pr nr pd dt iA oA : Addr} {I O : List Int} (h : ChEnv H ps es ds pr nr pd dt) (hI : H iA = some (.dK (kvS I))) (hO : H oA = some (.dK (kvS O)))
    (n1 : pr ≠ iA) (n2 : pr ≠ oA) (n3 : nr ≠ iA) (n4 : nr ≠ oA) (n5 : pd ≠ iA) (n6 : pd ≠ oA) (k : ∀ b o, b ≠ iA → b ≠ oA → H b = some o → H' b = some o) : ChEnv H' ps es ds pr nr pd dt := by
  have kl : ∀ {a : Addr} {xs : List V}, H a = some (.lst xs) → H' a = some (.lst xs) := fun {a xs} e => k _ _ (ne_of e hI (fun z => by cases z)) (ne_of e hO (fun z => by cases z)) e
  have kt : ∀ {a : Addr} {xs : List V}, H a = some (.tup xs) → H' a = some (.tup xs) := fun {a xs} e => k _ _ (ne_of e hI (fun z => by cases z)) (ne_of e hO (fun z => by cases z)) e
  obtain ⟨a, ⟨ls, l1, l2, l3⟩, c, ⟨ts, d1, d2⟩⟩ := h
  exact ⟨k _ _ n1 n2 a, ⟨ls, l1, k _ _ n3 n4 l2, fun j l p hl hp => let ⟨ns, x, y, z⟩ := l3 j l p hl hp; ⟨ns, kl x, y, z⟩⟩, k _ _ n5 n6 c, ⟨ts, kl d1, L2.Paired.mapP d2 fun t r e => kt e⟩⟩
theorem ok_lets {f : Addr} {fd : FuncData} (F : Fun K "lets" "Chain.lets" sChain_lets f fd) (T : Txt K mg) (ic : IsC K CC)
    (CM_is_so : CanM P w K mg base CC 2 "is_so" ["self", "thing"] (spIsSo CC)) (CM_take : CanM P w K mg base CC 1 "take" ["self", "thing"] (spTake CC)) : FnOk P w K mg base CX0 3 f fd ["self", "thing"] (spLets CC) := by
  have cC := ic.cl
  refine F.ok scChain_lets (fun vs H Q E h => ?_) (fun cdv A outer s H vs Q E hr h => ?_)
  · obtain ⟨c, dx, pr, nr, pd, dt, iA, oA, l, ps, es, ds, cs, rfl, _⟩ := h; rfl
  obtain ⟨c, dx, pr, nr, pd, dt, iA, oA, l, ps, es, ds, cs, rfl, hc, env, pok, hI, hO, nio, m1, m2, m3, m4, m5, m6, ⟨ts, hl, prl⟩, l200, hat, k⟩ := h
  have ll := tab_len prl
  have l3 : (ts.map V.ref).length = ts.length := List.length_map ..
  refine ⟨_, (pss_cons (ps_if (PW.pt (pw_or (pt_not (pt_val (pe_callB (isiK (K := K)) (by rfl) T.fIsinstance bt_isinstance (pa_cons (pv 1) (pa_cons (pg_ty (T := "list") T.fList bt_list) pa_nil))))) (pw_or1 (pt_cmpR op_gt (pe_callB (lenK (K := K)) (by rfl) T.fLen bt_len (pa_cons (pv 1) pa_nil)) (pg_int T.cChain) (nomark _)))))
 (pss_one (ps_ret pe_bl))
 pss_nil)
 (pss_cons (ps_for PassesOwn.never rfl (piLK (K := K) (pv 1)) (pg_name (i := 2) scChain_lets.nd rfl (Or.inl rfl))
 (pss_cons (ps_if (pt_not (pt_val (pc_meth (pv 0) cC CM_is_so (hr.mono (by decide)) (pa_cons (pv 2) pa_nil))))
 (pss_one (ps_ret pe_bl))
 pss_nil)
 (pss_one (ps_expr (pc_meth (pv 0) cC CM_take (hr.mono (by decide)) (pa_cons (pv 2) pa_nil))))))
 (pss_one (ps_ret pe_bl)))), ?_⟩
  walk_at "s"
  refine l_list (fun i σ H' => ∃ (x : Option V) (I O : List Int), σ = [some (.ref c), some (.ref l), x] ∧ (∀ b o, b ≠ iA → b ≠ oA → H b = some o → H' b = some o) ∧ H' iA = some (.dK (kvS I)) ∧ H' oA = some (.dK (kvS O)) ∧ I.length ≤ i ∧ O.length ≤ i ∧ (runOk ps es ds [] [] cs ↔ runOk ps es ds I O (cs.drop i))) hl
    ⟨none, [], [], rfl, fun _ _ _ _ h => h, hI, hO, Nat.le_refl _, Nat.le_refl _, by rw [List.drop_zero]⟩ (fun i σ H' hi ⟨_, _, _, _, q, _⟩ => q _ _ (ne_of hl hI (fun z => by cases z)) (ne_of hl hO (fun z => by cases z)) hl) ?_ ?_
  · rintro i x σ H3 hx ⟨x1, I, O, rfl, sm, hI3, hO3, lI, lO, hrun⟩
    obtain ⟨t, lk, rfl, ht, hli, hrow⟩ := tab_at prl hx
    have nci : c ≠ iA := ne_of hc hI (fun z => by cases z)
    have nco : c ≠ oA := ne_of hc hO (fun z => by cases z)
    have hc3 := sm _ _ nci nco hc
    have hr3 := sm _ _ (ne_of hrow hI (fun z => by cases z)) (ne_of hrow hO (fun z => by cases z)) hrow
    have hi200 : i < cs.length := (List.getElem?_eq_some_iff.mp hli).1
    have env3 := env.off (I := []) (O := []) hI hO m1 m2 m3 m4 m5 m6 sm
    have dr : cs.drop i = lk :: cs.drop (i + 1) := by
      rw [List.drop_eq_getElem_cons hi200]
      have := (List.getElem?_eq_some_iff.mp hli).2
      rw [this]
    rw [dr, runOk_at] at hrun
    walk_at "s"
    refine ⟨c, dx, pr, nr, pd, dt, iA, oA, t, ps, es, ds, I, O, lk, rfl, hc3, env3, pok, hI3, hO3, hr3, hat lk (getElem?_mem' hli), fun b H4 s4 eb => ?_⟩
    have hc4 := s4 _ _ hc3
    have hr4 := s4 _ _ hr3
    cases b with
    | false =>
      walk_at "s"
      refine k _ _ (fun b o n1 n2 h => s4 _ _ (sm _ _ n1 n2 h)) ⟨fun h => Bool.noConfusion h, fun h => absurd (eb.mpr (hrun.mp h).1) (by decide)⟩
    | true =>
      walk_at "s"
      refine ⟨c, dx, pr, nr, pd, dt, iA, oA, t, I, O, lk, rfl, hc4, s4 _ _ hI3, s4 _ _ hO3, nio, by omega, by omega, hr4, fun H5 q1 q2 q3 => ?_⟩
      have z1 := insOf_len I lk
      have z2 := outsOf_len O lk
      refine ⟨_, insOf I lk, outsOf O lk, rfl, fun b o n1 n2 h => by rw [q1 b n1 n2]; exact s4 _ _ (sm _ _ n1 n2 h), q2, q3, by omega, by omega, ?_⟩
      rw [hrun]
      exact ⟨fun h => h.2, fun h => ⟨eb.mp rfl, h⟩⟩
  · rintro σ H3 ⟨x1, I, O, rfl, sm, hI3, hO3, lI, lO, hrun⟩
    have dr : cs.drop (ts.map V.ref).length = [] := List.drop_eq_nil_of_le (by omega)
    rw [dr] at hrun
    walk_at "s"
    exact k _ _ sm ⟨fun _ => hrun.mpr trivial, fun _ => rfl⟩
end
end K33
set_option Elab.async false
set_option linter.all false
set_option maxRecDepth 100000
set_option maxHeartbeats 4000000
/-! K9: Chain made, lets_fixed. -/
namespace K33
open PySem L2
/-! one step of a reading -/
local macro_rules | `(tactic| walk_at "look") => `(tactic| first | assumption | exact upd_same | (refine Same.at' (by assumption) ?_; walk_at "look"))
local macro_rules | `(tactic| walk_at "side") => `(tactic| first | exact .inr ⟨by decide, by decide⟩ | exact .inl ⟨by decide, by decide⟩ | (show (0 : Int) < _; decide) | exact ⟨by decide, by decide⟩ | omega)
local macro_rules | `(tactic| walk_at "tt") => `(tactic| first | assumption | exact decide_eq_true (by assumption) | exact decide_eq_true rfl | (rw [decide_eq_false (by assumption)]; rfl) | rfl | exact decide_eq_true (by omega) | (rw [decide_eq_false (by omega)]; rfl))
local macro_rules | `(tactic| walk_at "ff") => `(tactic| first | assumption | exact decide_eq_false (by assumption) | (rw [decide_eq_true (by assumption)]; rfl) | (rw [decide_eq_true rfl]; rfl) | rfl | exact decide_eq_false (by omega) | (rw [decide_eq_true (by omega)]; rfl))
local macro_rules | `(tactic| walk_at "fld") => `(tactic| fail)
local macro_rules | `(tactic| walk_at "s1") => `(tactic| first
  | with_reducible refine r_seq ?_
  | with_reducible refine r_asg ?_
  | with_reducible refine r_name ?_
  | ((with_reducible refine' r_var ?hv ?_); (case hv => exact rfl))
  | with_reducible refine r_c ?_
  | with_reducible refine r_op ?_
  | with_reducible refine r_un ?_
  | with_reducible refine r_neg ?_
  | with_reducible refine r_I0 ?_
  | ((with_reducible refine' r_I ?hc ?_); (case hc => walk_at "side"))
  | with_reducible refine r_eqI ?_
  | with_reducible refine r_neI ?_
  | with_reducible refine r_eqS ?_
  | with_reducible refine r_neS ?_
  | with_reducible refine r_B ?_
  | with_reducible refine r_test ?_
  | with_reducible refine r_chain ?_
  | with_reducible refine r_and ?_
  | with_reducible refine r_or ?_
  | with_reducible refine r_not ?_
  | with_reducible refine r_andV ?_
  | with_reducible refine r_orV ?_
  | with_reducible refine r_notV ?_
  | with_reducible refine r_nil ?_
  | with_reducible refine r_cons ?_
  | with_reducible refine r_call ?_
  | with_reducible refine r_CB ?_
  | with_reducible refine r_fld ?_
  | with_reducible refine r_tup ?_
  | walk_at "fld"
  | with_reducible refine r_lst ?_
  | with_reducible refine r_if ?_
  | with_reducible refine r_drop ?_
  | with_reducible refine r_ret ?_
  | with_reducible refine r_retN ?_
  | with_reducible refine r_next ?_
  | with_reducible refine r_cont ?_
  | with_reducible refine r_bm ?_
  | with_reducible refine r_gcons ?_
  | with_reducible refine r_gnil ?_
  | with_reducible refine r_for ?_
  | with_reducible refine r_lc ?_
  | with_reducible refine r_yes ?_
  | with_reducible refine r_iEnum ?_
  | with_reducible refine r_iList ?_
  | with_reducible refine r_iTup ?_
  | with_reducible refine r_iZip ?_
  | with_reducible refine r_iRng1 ?_
  | with_reducible refine r_iRng2 ?_
  | with_reducible refine r_din ?_
  | with_reducible refine r_dnotin ?_
  | with_reducible refine r_dget ?_
  | with_reducible refine r_dget2 ?_
  | with_reducible refine r_dput ?_
  | with_reducible refine r_dnewK ?_
  | with_reducible refine r_gsub ?_
  | ((with_reducible refine' r_dinL (Rd.of ?h) ?_); (case h => walk_at "look"))
  | ((with_reducible refine' r_isD (Rd.of ?h) ?_); (case h => walk_at "look"))
  | ((with_reducible refine' r_dget2L (Rd.of ?h) ?_); (case h => walk_at "look"))
  | ((with_reducible refine' r_dgetL (Rd.of ?h) ?e ?_); (case h => walk_at "look"); (case e => first | assumption | rfl))
  | ((with_reducible refine' r_dgetL (rd_frz ?h) ?e ?_); (case h => assumption); (case e => first | assumption | rfl))
  | ((with_reducible refine' r_lt2 ?h1 ?h2 ?_); (case h1 => walk_at "look"); (case h2 => walk_at "look"))
  | with_reducible refine r_sl ?_
  | with_reducible refine r_noPart ?_
  | with_reducible refine r_part ?_
  | with_reducible refine r_exi ?_
  | ((with_reducible refine' r_tyL ?h ?_); (case h => walk_at "look"))
  | with_reducible refine r_isN ?_
  | with_reducible refine r_notN ?_
  | with_reducible refine r_isB ?_
  | with_reducible refine r_notB ?_
  | with_reducible refine r_min2' ?_
  | with_reducible refine r_max2' ?_
  | with_reducible refine r_isi (.base (.int _)) kII ?_
  | with_reducible refine r_isi (.base (.int _)) kIB ?_
  | with_reducible refine r_isi (.base (.str _)) kSS ?_
  | with_reducible refine r_isi (.base (.bl _)) kBB ?_
  | ((with_reducible refine' r_isi (.base (.tup ?h)) kTT ?_); (case h => walk_at "look"))
  | ((with_reducible refine' r_isi (.base (.lst ?h)) kLL ?_); (case h => walk_at "look"))
  | ((with_reducible refine' r_lenS (Or.inr (SqT.of ?h)) ?_); (case h => walk_at "look"))
  | ((with_reducible refine' r_lenS (Or.inl (SqL.of ?h)) ?_); (case h => walk_at "look"))
  | ((with_reducible refine' r_ixT (SqT.of ?h) ?e ?_); (case h => walk_at "look"); (case e => rfl))
  | ((with_reducible refine' r_gtup (SqT.of ?h) ?e ?_); (case h => walk_at "look"); (case e => rfl))
  | ((with_reducible refine r_tlen ?e ?_); (case e => exact Nat.le_of_ble_eq_true rfl))
  | with_reducible refine r_iteT ?_
  | with_reducible refine r_iteF ?_
  | with_reducible refine r_exb2 ?_
  | ((with_reducible refine r_iteP ?hc ?_); (case hc => walk_at "tt"))
  | ((with_reducible refine r_iteN ?hc ?_); (case hc => walk_at "ff")))
local macro_rules | `(tactic| walk_at "s") => `(tactic| repeat (walk_at "s1"))

/-! fields and methods of this class -/
local macro_rules | `(tactic| walk_at "lk") => `(tactic| first | with_reducible exact pfC1_prices _ | with_reducible exact pfC2_prices _ _ | with_reducible exact pfC2_near _ _ | with_reducible exact pfC3_prices _ _ _ | with_reducible exact pfC3_near _ _ _ | with_reducible exact pfC3_paid _ _ _ | with_reducible exact pfC4_prices _ _ _ _ | with_reducible exact pfC4_near _ _ _ _ | with_reducible exact pfC4_paid _ _ _ _ | with_reducible exact pfC4_due_ties _ _ _ _ | with_reducible exact pfC5_prices _ _ _ _ _ | with_reducible exact pfC5_near _ _ _ _ _ | with_reducible exact pfC5_paid _ _ _ _ _ | with_reducible exact pfC5_due_ties _ _ _ _ _ | with_reducible exact pfC5_ins _ _ _ _ _ | with_reducible exact pfC6_prices _ _ _ _ _ _ | with_reducible exact pfC6_near _ _ _ _ _ _ | with_reducible exact pfC6_paid _ _ _ _ _ _ | with_reducible exact pfC6_due_ties _ _ _ _ _ _ | with_reducible exact pfC6_ins _ _ _ _ _ _ | with_reducible exact pfC6_outs _ _ _ _ _ _)
local macro_rules | `(tactic| walk_at "lookC") => `(tactic| first | with_reducible exact flC_prices _ _ _ _ _ _ | with_reducible exact flC_near _ _ _ _ _ _ | with_reducible exact flC_paid _ _ _ _ _ _ | with_reducible exact flC_due_ties _ _ _ _ _ _ | with_reducible exact flC_ins _ _ _ _ _ _ | with_reducible exact flC_outs _ _ _ _ _ _ | walk_at "lk")
local macro_rules | `(tactic| walk_at "noC") => `(tactic| first | with_reducible exact flC_no_is_loose _ _ _ _ _ _ | with_reducible exact flC_no_has_due _ _ _ _ _ _ | with_reducible exact flC_no_is_so _ _ _ _ _ _ | with_reducible exact flC_no_take _ _ _ _ _ _ | with_reducible exact flC_no_lets _ _ _ _ _ _ | with_reducible exact flC_no_whole _ _ _ _ _ _)
local macro_rules | `(tactic| walk_at "atC") => `(tactic| first | with_reducible exact IsC.n_prices (by assumption) | with_reducible exact IsC.n_near (by assumption) | with_reducible exact IsC.n_paid (by assumption) | with_reducible exact IsC.n_due_ties (by assumption) | with_reducible exact IsC.n_ins (by assumption) | with_reducible exact IsC.n_outs (by assumption))
local macro_rules | `(tactic| walk_at "fld") => `(tactic| ((with_reducible refine' r_exf ?h (IsC.cl (by assumption)) ?n ?l ?_); (case h => walk_at "look"); (case n => walk_at "atC"); (case l => walk_at "lookC")))
local macro_rules | `(tactic| walk_at "fld") => `(tactic| ((with_reducible refine' r_methL ?h ?n ?_); (case h => walk_at "look"); (case n => walk_at "noC")))
local macro_rules | `(tactic| walk_at "fld") => `(tactic| with_reducible refine r_meth ?_)
local macro_rules | `(tactic| walk_at "fld") => `(tactic| with_reducible refine r_make ?_)
local macro_rules | `(tactic| walk_at "fld") => `(tactic| with_reducible refine r_fset ?_)

section
variable {P : Program} {w : World} {K : PySem.W.Frag} {mg : Str → Option Value} {base : Heap} {CC : Addr}
def spChainInit (C : Addr) : Sp := fun vs H Q _ => ∃ (c dx a l : Addr) (ps es : List (Int × Int)) (ds : List (Int × Int × Int)), vs = [.ref c, .ref a, .ref l] ∧ H c = some (.ins C dx []) ∧ WebAt H a ps es ∧ WebOk ps es ∧ Tab H l (ds.map I3) ∧ ds.length ≤ 200 ∧
  ∀ H' pr nr pd dt iA oA, SB c H H' → H' c = some (.ins C dx (flC (.ref pr) (.ref nr) (.ref pd) (.ref dt) (.ref iA) (.ref oA))) → ChEnv H' ps es ds pr nr pd dt → H' iA = some (.dK []) → H' oA = some (.dK []) → iA ≠ oA →
    pr ≠ iA → pr ≠ oA → nr ≠ iA → nr ≠ oA → pd ≠ iA → pd ≠ oA → H iA = none → H oA = none → Q .non H'
theorem sb_free {c : Addr} {H H' : Hp} (s : SB c H H') (hc : ∃ o, H' c = some o) {p : Addr} (h : H' p = none) : H p = none := by
  cases q : H p with
  | none => rfl
  | some o =>
    by_cases e : p = c
    · subst e
      obtain ⟨o', ho⟩ := hc
      rw [ho] at h
      cases h
    · rw [s p o e q] at h
      cases h
theorem pl {f : Str} {v : V} {fs : List (Str × V)} {n : Nat} (h : fs.length ≤ n) : (putF f v fs).length ≤ n + 1 := Nat.le_trans (putF_len f v fs) (Nat.succ_le_succ h)
/-- a field is stored: what stands then -/
theorem r_fsetN {H : Hp} {f : Str} {a C dx : Addr} {fs : List (Str × V)} {y : V} {B : Hp → Prop} {n : Nat} (h : H a = some (.ins C dx fs)) (c : Cls K C) (no : NoAttr K C f) (l : fs.length ≤ n) (q : ∀ H2, SB a H H2 → Keep H H2 → H2 a = some (.ins C dx (putF f y fs)) → B H2) (hn : n < 1000 := by decide) :
    ∃ a' C dx fs, V.ref a = .ref a' ∧ H a' = some (.ins C dx fs) ∧ Cls K C ∧ NoAttr K C f ∧ fs.length < 1000 ∧ B (upd H a' (.ins C dx (putF f y fs))) :=
  ⟨a, C, dx, fs, rfl, h, c, no, Nat.lt_of_le_of_lt l hn, q _ SB.upd (SB.upd.keep h) upd_same⟩
theorem ok_chain_init {f : Addr} {fd : FuncData} (F : Fun K "__init__" "Chain.__init__" sChain_init f fd) (T : Txt K mg) (ic : IsC K CC)
    (C_price_book : Can P w K mg base 1 "price_book" ["web"] spPriceBook) (C_near_book : Can P w K mg base 1 "near_book" ["web"] spNearBook) (C_paid_at : Can P w K mg base 1 "paid_at" ["dues"] spPaidAt) : FnOk P w K mg base CX0 2 f fd ["self", "web", "dues"] (spChainInit CC) := by
  have cC := ic.cl
  refine F.ok scChain_init (fun vs H Q E h => ?_) (fun cdv A outer s H vs Q E hr h => ?_)
  · obtain ⟨c, dx, a, l, ps, es, ds, rfl, _⟩ := h; rfl
  obtain ⟨c, dx, a, l, ps, es, ds, rfl, hc, web, ok, ⟨ts, hl, prl⟩, l200, k⟩ := h
  have ll := tab_len prl
  have l3 : (ts.map V.ref).length = ts.length := List.length_map ..
  have k0 : (([] : List (Str × V))).length ≤ 0 := Nat.le_refl 0
  refine ⟨_, (pss_cons (psFK (K := K) (pv 0) (pc_can C_price_book (hr.mono (by decide)) rfl (pa_cons (pv 1) pa_nil)) rfl)
 (pss_cons (psFK (K := K) (pv 0) (pc_can C_near_book (hr.mono (by decide)) rfl (pa_cons (pv 1) pa_nil)) rfl)
 (pss_cons (psFK (K := K) (pv 0) (pc_can C_paid_at (hr.mono (by decide)) rfl (pa_cons (pv 2) pa_nil)) rfl)
 (pss_cons (psFK (K := K) (pv 0) (pe_lc (own := [("one", 3), ("other", 4), ("amount", 5)]) rfl scChain_init.nd (piLK (K := K) (pv 2)) (blkOk_by (own := [("one", 3), ("other", 4), ("amount", 5)]) (N := ["self", "web", "dues", "one", "other", "amount"]) (sc := defScope sChain_init) (by decide +kernel)) (fun _ _ _ _ _ => (pgTK (K := K) (n := 3) rfl (pgs_cons (pg_name (i := 3) scChain_init.nd rfl (Or.inl rfl)) (pgs_cons (pg_name (i := 4) scChain_init.nd rfl (Or.inl rfl)) (pgs_cons (pg_name (i := 5) scChain_init.nd rfl (Or.inl rfl)) pgs_nil))))) (fun _ _ _ _ _ => pts_nil) (fun _ _ _ _ _ => (pe_tup (pa_cons (pv 3) (pa_cons (pv 4) pa_nil))))) rfl)
 (pss_cons (psFK (K := K) (pv 0) pe_dnewK rfl)
 (pss_one (psFK (K := K) (pv 0) pe_dnewK rfl))))))), ?_⟩
  walk_at "s"
  refine ⟨a, ps, es, rfl, web, ok.p, fun pr H1 npr s1 hpr => ?_⟩
  walk_at "s"
  refine r_fsetN (s1 _ _ hc) cC ic.n_prices k0 fun H2 b2 p2 hc2 => ?_
  have sb2 : SB c H H2 := (SB.of s1).trans b2
  walk_at "s"
  refine ⟨a, ps, es, rfl, web.kp (sb2.keep hc), ok, fun nr H3 nnr s3 hnr => ?_⟩
  walk_at "s"
  refine r_fsetN (s3 _ _ hc2) cC ic.n_near (pl k0) fun H4 b4 p4 hc4 => ?_
  have sb4 : SB c H H4 := (sb2.trans (SB.of s3)).trans b4
  walk_at "s"
  refine ⟨l, ds, rfl, Tab.kp (sb4.keep hc) ⟨ts, hl, prl⟩, by omega, fun pd H5 npd s5 hpd => ?_⟩
  walk_at "s"
  refine r_fsetN (s5 _ _ hc4) cC ic.n_paid (pl (pl k0)) fun H6 b6 p6 hc6 => ?_
  have sb6 : SB c H H6 := (sb4.trans (SB.of s5)).trans b6
  have kp6 := sb6.keep hc
  walk_at "s"
  refine k_list (fun i acc G => ∃ us : List Addr, acc = us.map V.ref ∧ Paired (fun t r => G t = some (.tup r)) us (((ds.take i).map pr2).map I2)) (kp6.lst hl) (fun G => ⟨[], rfl, by simpa using Paired.nil⟩) ?_ ?_
  · intro D i x acc H' nD hx sm hD ⟨us, eA, pu⟩
    obtain ⟨t, d, rfl, ht, hdi, hrow⟩ := tab_at prl hx
    have hr3 : H' t = some (.tup [.int d.1, .int d.2.1, .int d.2.2]) := sm _ _ (kp6.tup hrow)
    walk_at "s"
    refine ⟨rfl, ?_⟩
    walk_at "s"
    refine r_new fun q H7 nq s7 e7 => ?_
    have hacc : acc.length ≤ 200 := by
      have := paired_len pu
      rw [List.length_map, List.length_map, List.length_take] at this
      rw [eA, List.length_map]; omega
    refine c_end (fun i acc G D ys zs hG ⟨us, e, p⟩ => ⟨us, e, L2.Paired.mapP p fun t r h => by rw [upd_ne (ne_of h hG (fun z => by cases z))]; exact h⟩) nD (sm.trans s7) (s7 _ _ hD) (by omega) ⟨us ++ [q], by rw [eA, List.map_append]; rfl, ?_⟩
    rw [List.take_add_one, hdi, List.map_append, List.map_append]
    exact paired_snoc (tab_sm s7 pu) e7
  · intro dt acc H7 nD s7 hD ⟨us, eA, pu⟩
    have lt : ds.take (ts.map V.ref).length = ds := List.take_of_length_le (by omega)
    rw [lt] at pu
    rw [eA] at hD
    have tdt : Tab H7 dt ((ds.map pr2).map I2) := ⟨us, hD, pu⟩
    walk_at "s"
    refine r_fsetN (s7 _ _ hc6) cC ic.n_due_ties (pl (pl (pl k0))) fun H8 b8 p8 hc8 => ?_
    have sb8 : SB c H H8 := (sb6.trans (SB.of s7)).trans b8
    walk_at "s"
    refine r_new fun iA H9 niA s9 hiA => ?_
    walk_at "s"
    refine r_fsetN (s9 _ _ hc8) cC ic.n_ins (pl (pl (pl (pl k0)))) fun H10 b10 p10 hc10 => ?_
    have sb10 : SB c H H10 := (sb8.trans (SB.of s9)).trans b10
    walk_at "s"
    refine r_new fun oA H11 noA s11 hoA => ?_
    walk_at "s"
    refine r_fsetN (s11 _ _ hc10) cC ic.n_outs (pl (pl (pl (pl (pl k0))))) fun H12 b12 p12 hc12 => ?_
    have sb12 : SB c H H12 := (sb10.trans (SB.of s11)).trans b12
    have q9 : Keep H8 H12 := (((Same.keep s9).trans p10).trans (Same.keep s11)).trans p12
    have q7 : Keep H6 H12 := ((Same.keep s7).trans p8).trans q9
    have q5 : Keep H4 H12 := ((Same.keep s5).trans p6).trans q7
    have q3 : Keep H2 H12 := ((Same.keep s3).trans p4).trans q5
    have q1 : Keep H1 H12 := p2.trans q3
    have hiA10 := p10.dk hiA
    have g8 : ∀ {x : Addr} {kvs : List (Key × V)}, H8 x = some (.dK kvs) → x ≠ iA := fun h => ne_of_none h niA
    have g10 : ∀ {x : Addr} {kvs : List (Key × V)}, H10 x = some (.dK kvs) → x ≠ oA := fun h => ne_of_none h noA
    have k8_10 : Keep H8 H10 := (Same.keep s9).trans p10
    have z6 : Keep H6 H8 := (Same.keep s7).trans p8
    have z4 : Keep H4 H8 := ((Same.keep s5).trans p6).trans z6
    have z2 : Keep H2 H8 := ((Same.keep s3).trans p4).trans z4
    have pr8 := z2.dk (p2.dk hpr)
    have nr8 : ∃ kvs, H8 nr = some (.dK kvs) := let ⟨ls, _, e, _⟩ := hnr; ⟨_, z4.dk (p4.dk e)⟩
    have pd8 := z6.dk (p6.dk hpd)
    obtain ⟨nkvs, nr8⟩ := nr8
    exact k H12 pr nr pd dt iA oA sb12 hc12 ⟨q1.dk hpr, hnr.kp (p4.trans q5), (p6.trans q7).dk hpd, tdt.kp (p8.trans q9)⟩ (((p10.trans (Same.keep s11)).trans p12).dk hiA) (p12.dk hoA) (g10 hiA10)
      (g8 pr8) (g10 (k8_10.dk pr8)) (g8 nr8) (g10 (k8_10.dk nr8)) (g8 pd8) (g10 (k8_10.dk pd8)) (sb_free sb8 ⟨_, hc8⟩ niA) (sb_free sb10 ⟨_, hc10⟩ noA)
def spLetsFixed : Sp := fun vs H Q _ => ∃ (a t l m n : Addr) (ps es hs : List (Int × Int)) (ds : List (Int × Int × Int)) (cs : List Lk), vs = [.ref a, .ref t] ∧ WebAt H a ps es ∧ WebOk ps es ∧ H t = some (.tup [.ref l, .ref m, .ref n]) ∧
  Tab H l (hs.map I2) ∧ Shape ps hs ∧ Tab H m (ds.map I3) ∧ DuesOk ps es ds ∧ Tab H n (cs.map eC) ∧ cs.length ≤ 200 ∧ (∀ x ∈ cs, ∀ p ∈ x.at, p ∈ ps.map (·.1)) ∧
  ∀ b H', Same H H' → (b = true ↔ ((Cover es hs ∧ dueSum ds = costOf ps hs) ∧ runOk ps es ds [] [] cs)) → Q (.bl b) H'
theorem nw32' : ¬ (HT.sIx 3 0 none = 0 ∧ HT.sIx 3 3 (some 2) = 3) := by decide
theorem ok_lets_fixed {f : Addr} {fd : FuncData} (F : Fun K "lets_fixed" "lets_fixed" slets_fixed f fd) (T : Txt K mg) (ic : IsC K CC)
    (C_look_at_web : Can P w K mg base 5 "look_at_web" ["thing"] spLook) (C_is_paper : Can P w K mg base 4 "is_paper" ["web", "thing"] spIsPaper)
    (C_Chain : CanI P w K mg base CC 2 "Chain" ["self", "web", "dues"] (spChainInit CC)) (CM_lets : CanM P w K mg base CC 3 "lets" ["self", "thing"] (spLets CC)) : FnOk P w K mg base CX0 6 f fd ["web", "thing"] spLetsFixed := by
  have cC := ic.cl
  refine F.ok sclets_fixed (fun vs H Q E h => ?_) (fun cdv A outer s H vs Q E hr h => ?_)
  · obtain ⟨a, t, l, m, n, ps, es, hs, ds, cs, rfl, _⟩ := h; rfl
  obtain ⟨a, t, l, m, n, ps, es, hs, ds, cs, rfl, web, ok, ht, tl, sh, tm, dok, tn, l200, hat, k⟩ := h
  have d1 := dok.len
  have d2 := ok.t.len
  refine ⟨_, (pss_cons (ps_expr (pc_can C_look_at_web (hr.mono (by decide)) rfl (pa_cons (pv 0) pa_nil)))
 (pss_cons (ps_if (PW.pt (pw_or (pt_not (pt_val (pe_callB (isiK (K := K)) (by rfl) T.fIsinstance bt_isinstance (pa_cons (pv 1) (pa_cons (pg_ty (T := "tuple") T.fTuple bt_tuple) pa_nil))))) (pw_or (pt_cmpR op_ne (pe_callB (lenK (K := K)) (by rfl) T.fLen bt_len (pa_cons (pv 1) pa_nil)) pe_int (nomark _)) (pw_or1 (pt_not (pt_val (pc_can C_is_paper (hr.mono (by decide)) rfl (pa_cons (pv 0) (pa_cons (pe_slice (slTK (K := K)) (pv 1) po_none (po_some pe_int)) pa_nil)))))))))
 (pss_one (ps_ret pe_bl))
 pss_nil)
 (pss_one (ps_ret (pc_meth (pc_mk C_Chain (hr.mono (by decide)) rfl (pa_cons (pv 0) (pa_cons (pe_ix (ixTK (K := K)) (pv 1) pe_int (fun _ _ => rfl)) pa_nil))) cC CM_lets (hr.mono (by decide)) (pa_cons (pe_ix (ixTK (K := K)) (pv 1) pe_int (fun _ _ => rfl)) pa_nil)))))), ?_⟩
  walk_at "s"
  refine ⟨a, ps, es, rfl, web, ok, fun H1 s1 => ?_⟩
  have ht1 := s1 _ _ ht
  walk_at "s"
  refine r_slT ht1 nw32' (r_new fun t2 H2 n2 s2 e2 => ?_)
  have s02 := s1.trans s2
  walk_at "s"
  refine ⟨a, t2, l, m, ps, es, hs, ds, rfl, web.sm s02, ok, e2, tl.sm s02, sh, tm.sm s02, dok, fun b H3 s3 eb => ?_⟩
  have s03 := s02.trans s3
  have ht3 := s03 _ _ ht
  cases b with
  | false =>
    walk_at "s"
    exact k _ _ s03 ⟨fun h => Bool.noConfusion h, fun h => eb.mpr h.1⟩
  | true =>
    walk_at "s"
    intro x dx nx ndx nxd
    have sA : Same H3 (upd (upd H3 dx (.own x)) x (.ins CC dx [])) := fun b o e => by
      rw [upd_ne (ne_of_none e nx), upd_ne (ne_of_none e ndx)]; exact e
    have hx : (upd (upd H3 dx (.own x)) x (.ins CC dx [])) x = some (.ins CC dx []) := upd_same
    generalize upd (upd H3 dx (.own x)) x (.ins CC dx []) = H4 at sA hx ⊢
    have s04 := s03.trans sA
    refine ⟨x, dx, a, m, ps, es, ds, rfl, hx, web.sm s04, ok, tm.sm s04, by omega, fun H5 pr nr pd dt iA oA sb hc5 env hI hO nio m1 m2 m3 m4 m5 m6 fI fO => ⟨rfl, ?_⟩⟩
    have s45 : Same H3 H5 := fun b o e => sb _ _ (ne_of_none e nx) (sA _ _ e)
    have s05 := s03.trans s45
    have ht5 := s05 _ _ ht
    walk_at "s"
    refine ⟨x, dx, pr, nr, pd, dt, iA, oA, n, ps, es, ds, cs, rfl, hc5, env, ok.p, hI, hO, nio, m1, m2, m3, m4, m5, m6, tn.sm s05, l200, hat, fun b H6 q6 eb2 => ?_⟩
    refine k _ _ (fun u o e => q6 _ _ (fun z => ?_) (fun z => ?_) (s05 _ _ e)) ?_
    · rw [z] at e
      rw [s04 _ _ e] at fI
      cases fI
    · rw [z] at e
      rw [s04 _ _ e] at fO
      cases fO
    · rw [eb2]
      exact ⟨fun h => ⟨eb.mp rfl, h⟩, fun h => h.2⟩
end
end K33
set_option linter.all false
set_option maxRecDepth 100000
set_option maxHeartbeats 4000000
/-! MC: chains as data. -/
namespace K33
theorem nodup_sub : ∀ {l m : List Int}, l.Nodup → (∀ x ∈ l, x ∈ m) → l.length ≤ m.length
  | [], m, _, _ => Nat.zero_le _
  | x :: l, m, nd, h => by
    obtain ⟨n1, n2⟩ := List.nodup_cons.mp nd
    have hx := h x (by simp)
    have := nodup_sub (l := l) (m := m.erase x) n2 fun y hy => (List.mem_erase_of_ne (fun e => n1 (by rw [← e]; exact hy))).mpr (h y (by simp [hy]))
    rw [List.length_erase_of_mem hx] at this
    have : 0 < m.length := List.length_pos_of_mem hx
    rw [List.length_cons]; omega
def Lk.last : Lk → Int
  | .loose v => v
  | .beside _ v => v
  | .tight _ v => v
def Lk.isB : Lk → Bool
  | .loose _ => false
  | .beside _ _ => true
  | .tight _ _ => false
def insAll (cs : List Lk) : List Int := cs.foldl insOf []
def outsAll (cs : List Lk) : List Int := cs.foldl outsOf []
theorem insAll_snoc (cs : List Lk) (c : Lk) : insAll (cs ++ [c]) = insOf (insAll cs) c := by unfold insAll; rw [List.foldl_append]; rfl
theorem outsAll_snoc (cs : List Lk) (c : Lk) : outsAll (cs ++ [c]) = outsOf (outsAll cs) c := by unfold outsAll; rw [List.foldl_append]; rfl
theorem runOk_app {ps es : List (Int × Int)} {ds : List (Int × Int × Int)} : ∀ {cs bs : List Lk} {I O : List Int}, runOk ps es ds I O (cs ++ bs) ↔ runOk ps es ds I O cs ∧ runOk ps es ds (cs.foldl insOf I) (cs.foldl outsOf O) bs
  | [], bs, I, O => ⟨fun h => ⟨trivial, h⟩, fun h => h.2⟩
  | c :: cs, bs, I, O => by
    show okL ps es ds I O c ∧ runOk ps es ds (insOf I c) (outsOf O c) (cs ++ bs) ↔ (okL ps es ds I O c ∧ runOk ps es ds (insOf I c) (outsOf O c) cs) ∧ _
    rw [runOk_app (cs := cs)]
    exact ⟨fun h => ⟨⟨h.1, h.2.1⟩, h.2.2⟩, fun h => ⟨h.1.1, h.1.2, h.2⟩⟩
theorem runOk_snoc {ps es : List (Int × Int)} {ds : List (Int × Int × Int)} {cs : List Lk} {c : Lk} : runOk ps es ds [] [] (cs ++ [c]) ↔ runOk ps es ds [] [] cs ∧ okL ps es ds (insAll cs) (outsAll cs) c := by
  rw [runOk_app]
  exact ⟨fun h => ⟨h.1, h.2.1⟩, fun h => ⟨h.1, h.2, trivial⟩⟩
theorem insS_nd {I : List Int} (h : I.Nodup) (v : Int) : (insS I v).Nodup := by
  unfold insS
  split
  · exact h
  · rename_i n
    rw [List.nodup_append]
    exact ⟨h, by simp, fun b hb c hc => by
      have : c = v := by simpa using hc
      subst this
      intro z
      subst z
      exact n hb⟩
theorem snoc_induct {α : Type} {P : List α → Prop} (h0 : P []) (h1 : ∀ l x, P l → P (l ++ [x])) (l : List α) : P l := by
  have : ∀ n, ∀ l : List α, l.length = n → P l := by
    intro n
    induction n with
    | zero =>
      intro l h
      rw [List.length_eq_zero_iff] at h
      subst h; exact h0
    | succ n ih =>
      intro l h
      have ne : l ≠ [] := fun e => by subst e; cases h
      rw [← List.dropLast_concat_getLast ne]
      exact h1 _ _ (ih _ (by rw [List.length_dropLast]; omega))
  exact this _ l rfl
theorem insAll_nd (cs : List Lk) : (insAll cs).Nodup := by
  refine snoc_induct (P := fun cs => (insAll cs).Nodup) List.nodup_nil (fun l x ih => ?_) cs
  rw [insAll_snoc]
  cases x with
  | beside u v => exact insS_nd ih v
  | loose v => exact ih
  | tight u v => exact ih
theorem outsAll_nd (cs : List Lk) : (outsAll cs).Nodup := by
  refine snoc_induct (P := fun cs => (outsAll cs).Nodup) List.nodup_nil (fun l x ih => ?_) cs
  rw [outsAll_snoc]
  cases x with
  | beside u v => exact ih
  | loose v => exact insS_nd ih v
  | tight u v => exact insS_nd ih v
theorem insAll_mem (cs : List Lk) (v : Int) : v ∈ insAll cs ↔ ∃ c ∈ cs, c.isB = true ∧ c.last = v := by
  refine snoc_induct (P := fun cs => v ∈ insAll cs ↔ ∃ c ∈ cs, c.isB = true ∧ c.last = v) ⟨fun h => absurd (show v ∈ ([] : List Int) from h) (by simp), fun ⟨c, h, _⟩ => absurd h (by simp)⟩ (fun l x ih => ?_) cs
  rw [insAll_snoc]
  constructor
  · intro h
    have h' : (x.isB = true ∧ x.last = v) ∨ v ∈ insAll l := by
      cases x with
      | beside u w => exact ((insS_mem _ _ _).mp h).elim (fun e => .inl ⟨rfl, e.symm⟩) .inr
      | loose w => exact .inr h
      | tight u w => exact .inr h
    rcases h' with h' | h'
    · exact ⟨x, by simp, h'⟩
    · obtain ⟨c, hc, q⟩ := ih.mp h'
      exact ⟨c, by simp [hc], q⟩
  · rintro ⟨c, hc, q1, q2⟩
    rcases List.mem_append.mp hc with m | m
    · have h' := ih.mpr ⟨c, m, q1, q2⟩
      cases x with
      | beside u w => exact (insS_mem _ _ _).mpr (.inr h')
      | loose w => exact h'
      | tight u w => exact h'
    · have : c = x := by simpa using m
      subst this
      cases c with
      | beside u w => exact (insS_mem _ _ _).mpr (.inl q2.symm)
      | loose w => cases q1
      | tight u w => cases q1
theorem outsAll_mem (cs : List Lk) (v : Int) : v ∈ outsAll cs ↔ ∃ c ∈ cs, c.isB = false ∧ c.last = v := by
  refine snoc_induct (P := fun cs => v ∈ outsAll cs ↔ ∃ c ∈ cs, c.isB = false ∧ c.last = v) ⟨fun h => absurd (show v ∈ ([] : List Int) from h) (by simp), fun ⟨c, h, _⟩ => absurd h (by simp)⟩ (fun l x ih => ?_) cs
  rw [outsAll_snoc]
  constructor
  · intro h
    have h' : (x.isB = false ∧ x.last = v) ∨ v ∈ outsAll l := by
      cases x with
      | beside u w => exact .inr h
      | loose w => exact ((insS_mem _ _ _).mp h).elim (fun e => .inl ⟨rfl, e.symm⟩) .inr
      | tight u w => exact ((insS_mem _ _ _).mp h).elim (fun e => .inl ⟨rfl, e.symm⟩) .inr
    rcases h' with h' | h'
    · exact ⟨x, by simp, h'⟩
    · obtain ⟨c, hc, q⟩ := ih.mp h'
      exact ⟨c, by simp [hc], q⟩
  · rintro ⟨c, hc, q1, q2⟩
    rcases List.mem_append.mp hc with m | m
    · have h' := ih.mpr ⟨c, m, q1, q2⟩
      cases x with
      | beside u w => exact h'
      | loose w => exact (insS_mem _ _ _).mpr (.inr h')
      | tight u w => exact (insS_mem _ _ _).mpr (.inr h')
    · have : c = x := by simpa using m
      subst this
      cases c with
      | beside u w => cases q1
      | loose w => exact (insS_mem _ _ _).mpr (.inl q2.symm)
      | tight u w => exact (insS_mem _ _ _).mpr (.inl q2.symm)
theorem insAll_app {cs r : List Lk} {v : Int} (h : v ∈ insAll cs) : v ∈ insAll (cs ++ r) := by
  obtain ⟨c, hc, q⟩ := (insAll_mem cs v).mp h
  exact (insAll_mem _ v).mpr ⟨c, by simp [hc], q⟩
theorem outsAll_app {cs r : List Lk} {v : Int} (h : v ∈ outsAll cs) : v ∈ outsAll (cs ++ r) := by
  obtain ⟨c, hc, q⟩ := (outsAll_mem cs v).mp h
  exact (outsAll_mem _ v).mpr ⟨c, by simp [hc], q⟩
theorem Lk.last_at (c : Lk) : c.last ∈ c.at := by cases c <;> simp [Lk.last, Lk.at]
/-- a chain under way: each thing stands, none comes twice -/
structure WS (ps es : List (Int × Int)) (ds : List (Int × Int × Int)) (cs : List Lk) : Prop where
  run : runOk ps es ds [] [] cs
  at_ : ∀ x ∈ cs, ∀ p ∈ x.at, p ∈ ps.map (·.1)
  len : cs.length = (insAll cs).length + (outsAll cs).length
theorem WS.nil (ps es : List (Int × Int)) (ds : List (Int × Int × Int)) : WS ps es ds [] := ⟨trivial, fun x h => absurd h (by simp), rfl⟩
theorem WS.push {ps es : List (Int × Int)} {ds : List (Int × Int × Int)} {cs : List Lk} (h : WS ps es ds cs) {c : Lk} (ok : okL ps es ds (insAll cs) (outsAll cs) c) (at_ : ∀ p ∈ c.at, p ∈ ps.map (·.1)) (n1 : c.isB = true → c.last ∉ insAll cs) (n2 : c.isB = false → c.last ∉ outsAll cs) : WS ps es ds (cs ++ [c]) := by
  refine ⟨runOk_snoc.mpr ⟨h.run, ok⟩, fun x hx => ?_, ?_⟩
  · rcases List.mem_append.mp hx with m | m
    · exact h.at_ x m
    · have : x = c := by simpa using m
      subst this
      exact at_
  · rw [insAll_snoc, outsAll_snoc, List.length_append, h.len]
    cases c with
    | beside u v =>
      have n1 : v ∉ insAll cs := n1 rfl
      show _ = (insS _ v).length + (outsAll cs).length
      unfold insS
      rw [if_neg n1, List.length_append]
      show _ + 1 = _ + 1 + _
      omega
    | loose v =>
      have n2 : v ∉ outsAll cs := n2 rfl
      show _ = (insAll cs).length + (insS _ v).length
      unfold insS
      rw [if_neg n2, List.length_append]
      show _ + 1 = _ + (_ + 1)
      omega
    | tight u v =>
      have n2 : v ∉ outsAll cs := n2 rfl
      show _ = (insAll cs).length + (insS _ v).length
      unfold insS
      rw [if_neg n2, List.length_append]
      show _ + 1 = _ + (_ + 1)
      omega
theorem WS.ins_le {ps es : List (Int × Int)} {ds : List (Int × Int × Int)} {cs : List Lk} (h : WS ps es ds cs) : (insAll cs).length ≤ ps.length := by
  have := nodup_sub (insAll_nd cs) (m := ps.map (·.1)) fun v hv => by
    obtain ⟨c, hc, _, e⟩ := (insAll_mem cs v).mp hv
    rw [← e]
    exact h.at_ c hc _ c.last_at
  rwa [List.length_map] at this
theorem WS.outs_le {ps es : List (Int × Int)} {ds : List (Int × Int × Int)} {cs : List Lk} (h : WS ps es ds cs) : (outsAll cs).length ≤ ps.length := by
  have := nodup_sub (outsAll_nd cs) (m := ps.map (·.1)) fun v hv => by
    obtain ⟨c, hc, _, e⟩ := (outsAll_mem cs v).mp hv
    rw [← e]
    exact h.at_ c hc _ c.last_at
  rwa [List.length_map] at this
/-- what has to stand for a thing that has been looked at, and one that is near -/
def Good (ds : List (Int × Int × Int)) (cs : List Lk) (c : Lk) (q : Int) : Prop := if c.isB = true then (mn c.last q, mx c.last q) ∈ ds.map pr2 → q ∈ outsAll cs else q ∈ insAll cs
theorem Good.app {ds : List (Int × Int × Int)} {cs : List Lk} {c : Lk} {q : Int} (h : Good ds cs c q) (r : List Lk) : Good ds (cs ++ r) c q := by
  unfold Good at h ⊢
  split
  · rename_i e
    rw [if_pos e] at h
    exact fun m => outsAll_app (h m)
  · rename_i e
    rw [if_neg e] at h
    exact insAll_app h
def Done (es : List (Int × Int)) (ds : List (Int × Int × Int)) (cs : List Lk) (n : Nat) : Prop := ∀ i, i < n → ∀ c, cs[i]? = some c → ∀ q, Tied es c.last q → Good ds cs c q
theorem Done.app {es : List (Int × Int)} {ds : List (Int × Int × Int)} {cs : List Lk} {n : Nat} (h : Done es ds cs n) (hn : n ≤ cs.length) (r : List Lk) : Done es ds (cs ++ r) n := by
  intro i hi c hc q hq
  rw [List.getElem?_append_left (by omega)] at hc
  exact (h i hi c hc q hq).app r
def bsOf (cs : List Lk) : List Int := (cs.filter fun c => c.isB).map Lk.last
def osOf (cs : List Lk) : List Int := (cs.filter fun c => !c.isB).map Lk.last
theorem bsOf_mem (cs : List Lk) (v : Int) : v ∈ bsOf cs ↔ v ∈ insAll cs := by
  rw [insAll_mem]
  unfold bsOf
  rw [List.mem_map]
  exact ⟨fun ⟨c, h, e⟩ => ⟨c, (List.mem_filter.mp h).1, (List.mem_filter.mp h).2, e⟩, fun ⟨c, h, b, e⟩ => ⟨c, List.mem_filter.mpr ⟨h, b⟩, e⟩⟩
theorem osOf_mem (cs : List Lk) (v : Int) : v ∈ osOf cs ↔ v ∈ outsAll cs := by
  rw [outsAll_mem]
  unfold osOf
  rw [List.mem_map]
  exact ⟨fun ⟨c, h, e⟩ => ⟨c, (List.mem_filter.mp h).1, by simpa using (List.mem_filter.mp h).2, e⟩, fun ⟨c, h, b, e⟩ => ⟨c, List.mem_filter.mpr ⟨h, by rw [b]; rfl⟩, e⟩⟩
theorem bs_os (cs : List Lk) : (bsOf cs).length + (osOf cs).length = cs.length := by
  unfold bsOf osOf
  rw [List.length_map, List.length_map]
  induction cs with
  | nil => rfl
  | cons c cs ih =>
    rw [List.filter_cons, List.filter_cons]
    cases h : c.isB
    · rw [if_neg (by decide), if_pos (by decide), List.length_cons, List.length_cons]; omega
    · rw [if_pos rfl, if_neg (by decide), List.length_cons, List.length_cons]; omega
/-- a whole chain -/
structure Whole (ps es : List (Int × Int)) (ds : List (Int × Int × Int)) (cs : List Lk) : Prop where
  run : runOk ps es ds [] [] cs
  len : cs.length ≤ 2 * ps.length
  lenB : (bsOf cs).length ≤ ps.length
  lenO : (osOf cs).length ≤ ps.length
  at_ : ∀ x ∈ cs, ∀ p ∈ x.at, p ∈ ps.map (·.1)
  lo : ∀ p ∈ ps.map (·.1), paidOf ds p < 2 * hv ps p → p ∈ outsAll cs
  out : ∀ p ∈ outsAll cs, ∀ q, Tied es p q → q ∈ insAll cs
  ins : ∀ p ∈ insAll cs, ∀ q, Tied es p q → (mn p q, mx p q) ∈ ds.map pr2 → q ∈ outsAll cs
theorem WS.whole {ps es : List (Int × Int)} {ds : List (Int × Int × Int)} {cs : List Lk} (h : WS ps es ds cs) (lo : ∀ p ∈ ps.map (·.1), paidOf ds p < 2 * hv ps p → p ∈ outsAll cs) (d : Done es ds cs cs.length) : Whole ps es ds cs := by
  have a := h.ins_le
  have b := h.outs_le
  have c := h.len
  have x1 := bs_os cs
  have x2 := nodup_sub (insAll_nd cs) fun v hv => (bsOf_mem cs v).mpr hv
  have x3 := nodup_sub (outsAll_nd cs) fun v hv => (osOf_mem cs v).mpr hv
  refine ⟨h.run, by omega, by omega, by omega, h.at_, lo, fun p hp q hq => ?_, fun p hp q hq hd => ?_⟩
  · obtain ⟨c, hc, b, e⟩ := (outsAll_mem cs p).mp hp
    obtain ⟨i, hi⟩ := List.getElem?_of_mem hc
    have g := d i (List.getElem?_eq_some_iff.mp hi).1 c hi q (by rw [e]; exact hq)
    unfold Good at g
    rwa [if_neg (by rw [b]; decide)] at g
  · obtain ⟨c, hc, b, e⟩ := (insAll_mem cs p).mp hp
    obtain ⟨i, hi⟩ := List.getElem?_of_mem hc
    have g := d i (List.getElem?_eq_some_iff.mp hi).1 c hi q (by rw [e]; exact hq)
    unfold Good at g
    rw [if_pos b, e] at g
    exact g hd
/-- the loose ones -/
def loosesOf (ps : List (Int × Int)) (ds : List (Int × Int × Int)) (l : List (Int × Int)) : List Lk := (l.filter fun p => decide (paidOf ds p.1 < 2 * hv ps p.1)).map fun p => .loose p.1
theorem loosesOf_snoc {ps : List (Int × Int)} {ds : List (Int × Int × Int)} {l : List (Int × Int)} {i : Nat} {p : Int × Int} (h : l[i]? = some p) : loosesOf ps ds (l.take (i + 1)) = loosesOf ps ds (l.take i) ++ (if paidOf ds p.1 < 2 * hv ps p.1 then [.loose p.1] else []) := by
  unfold loosesOf
  rw [List.take_add_one, h, List.filter_append, List.map_append]
  congr 1
  show List.map _ (List.filter _ [p]) = _
  by_cases c : paidOf ds p.1 < 2 * hv ps p.1
  · rw [if_pos c, List.filter_cons, if_pos (decide_eq_true c)]; rfl
  · rw [if_neg c, List.filter_cons, if_neg (by rw [decide_eq_false c]; decide)]; rfl
theorem loosesOf_len (ps : List (Int × Int)) (ds : List (Int × Int × Int)) (l : List (Int × Int)) : (loosesOf ps ds l).length ≤ l.length := by
  unfold loosesOf
  rw [List.length_map]
  exact List.length_filter_le _ _
theorem looses_ws {ps es : List (Int × Int)} {ds : List (Int × Int × Int)} (nd : (ps.map (·.1)).Nodup) : ∀ i, i ≤ ps.length → WS ps es ds (loosesOf ps ds (ps.take i)) ∧ ∀ v ∈ outsAll (loosesOf ps ds (ps.take i)), v ∈ (ps.take i).map (·.1)
  | 0, _ => ⟨WS.nil _ _ _, fun v h => by cases h⟩
  | i + 1, hi => by
    obtain ⟨a, b⟩ := looses_ws (es := es) (ds := ds) nd i (by omega)
    have hp : ps[i]? = some ps[i] := List.getElem?_eq_getElem (by omega)
    have hk : (ps.map (·.1))[i]? = some ps[i].1 := by rw [List.getElem?_map, hp]; rfl
    have tk : (ps.take (i + 1)).map (·.1) = (ps.take i).map (·.1) ++ [ps[i].1] := by rw [List.take_add_one, hp, List.map_append]; rfl
    rw [loosesOf_snoc hp, tk]
    have sub : ∀ v ∈ outsAll (loosesOf ps ds (ps.take i)), v ∈ (ps.take i).map (·.1) ++ [ps[i].1] := fun v hv => List.mem_append.mpr (.inl (b v hv))
    by_cases c : paidOf ds ps[i].1 < 2 * hv ps ps[i].1
    · rw [if_pos c]
      refine ⟨a.push c (fun p hp' => ?_) (fun z => by cases z) (fun _ m => ?_), fun v hv => ?_⟩
      · have : p = ps[i].1 := by simpa [Lk.at] using hp'
        rw [this]
        exact List.mem_of_getElem? hk
      · exact nd_take nd hk (by rw [← List.map_take]; exact b _ m)
      · rw [outsAll_snoc] at hv
        rcases (insS_mem _ _ _).mp hv with e | e
        · rw [e]; simp
        · exact sub v e
    · rw [if_neg c, List.append_nil]
      exact ⟨a, sub⟩
theorem looses_lo {ps : List (Int × Int)} {ds : List (Int × Int × Int)} : ∀ p ∈ ps.map (·.1), paidOf ds p < 2 * hv ps p → p ∈ outsAll (loosesOf ps ds ps) := by
  intro p hp h
  obtain ⟨q, hq, e⟩ := List.mem_map.mp hp
  subst e
  exact (outsAll_mem _ _).mpr ⟨.loose q.1, List.mem_map.mpr ⟨q, List.mem_filter.mpr ⟨hq, decide_eq_true h⟩, rfl⟩, rfl, rfl⟩
end K33
set_option linter.all false
set_option maxRecDepth 100000
set_option maxHeartbeats 4000000
/-! MA: flows as data (no program in sight). -/
namespace K33
/-- the arc that leads back -/
def par (a : Nat) : Nat := if a % 2 = 0 then a + 1 else a - 1
theorem par_par (a : Nat) : par (par a) = a := by
  unfold par
  by_cases h : a % 2 = 0
  · rw [if_pos h, if_neg (by omega)]; omega
  · rw [if_neg h, if_pos (by omega)]; omega
theorem par_ne (a : Nat) : par a ≠ a := by
  unfold par
  split <;> omega
theorem par_lt {a m : Nat} (he : m % 2 = 0) (h : a < m) : par a < m := by
  unfold par
  split <;> omega
theorem par_int (a : Nat) : ((par a : Nat) : Int) = (a : Int) + 1 - 2 * ((a : Int) % 2) := by
  unfold par
  split <;> omega
/-- where an arc begins -/
def tl (hd : List Nat) (a : Nat) : Nat := hd.getD (par a) 0
def hh (hd : List Nat) (a : Nat) : Nat := hd.getD a 0
def rg (rm : List Int) (a : Nat) : Int := rm.getD a 0
theorem tl_par (hd : List Nat) (a : Nat) : tl hd (par a) = hh hd a := by unfold tl hh; rw [par_par]
theorem hh_par (hd : List Nat) (a : Nat) : hh hd (par a) = tl hd a := rfl
/-! sums over a range -/
def sumR (f : Nat → Int) : Nat → Int
  | 0 => 0
  | n + 1 => sumR f n + f n
theorem sumR_congr {f g : Nat → Int} : ∀ {n : Nat}, (∀ a, a < n → f a = g a) → sumR f n = sumR g n
  | 0, _ => rfl
  | n + 1, h => by
    unfold sumR
    rw [sumR_congr (n := n) (fun a ha => h a (by omega)), h n (by omega)]
theorem sumR_diff {f g : Nat → Int} {k : Nat} : ∀ {n : Nat}, k < n → (∀ a, a < n → a ≠ k → f a = g a) → sumR f n = sumR g n + (f k - g k)
  | 0, h, _ => by omega
  | n + 1, h, e => by
    unfold sumR
    by_cases c : k = n
    · subst c
      rw [sumR_congr (f := f) (g := g) (n := k) (fun a ha => e a (by omega) (by omega))]
      omega
    · rw [sumR_diff (n := n) (by omega) (fun a ha hk => e a (by omega) hk), e n (by omega) (by omega)]
      omega
theorem sumR_add {f g : Nat → Int} : ∀ {n : Nat}, sumR (fun a => f a + g a) n = sumR f n + sumR g n
  | 0 => rfl
  | n + 1 => by
    unfold sumR
    rw [sumR_add (n := n)]
    omega
theorem sumR_zero {f : Nat → Int} : ∀ {n : Nat}, (∀ a, a < n → f a = 0) → sumR f n = 0
  | 0, _ => rfl
  | n + 1, h => by
    unfold sumR
    rw [sumR_zero (n := n) (fun a ha => h a (by omega)), h n (by omega)]
    rfl
theorem sumR_nonneg {f : Nat → Int} : ∀ {n : Nat}, (∀ a, a < n → 0 ≤ f a) → 0 ≤ sumR f n
  | 0, _ => Int.le_refl 0
  | n + 1, h => by
    have h1 := sumR_nonneg (n := n) (fun a ha => h a (by omega))
    have h2 := h n (by omega)
    unfold sumR
    omega
theorem sumR_split {f : Nat → Int} : ∀ {n m : Nat}, sumR f (n + m) = sumR f n + sumR (fun a => f (n + a)) m
  | n, 0 => by show sumR f n = sumR f n + 0; omega
  | n, m + 1 => by
    show sumR f (n + m) + f (n + m) = sumR f n + (sumR (fun a => f (n + a)) m + f (n + m))
    rw [sumR_split (n := n) (m := m)]
    omega
theorem sumR_two {f : Nat → Int} : ∀ {n : Nat}, sumR f (2 * n) = sumR (fun j => f (2 * j) + f (2 * j + 1)) n
  | 0 => rfl
  | n + 1 => by
    show sumR f (2 * n) + f (2 * n) + f (2 * n + 1) = _
    rw [sumR_two (n := n)]
    show _ = sumR (fun j => f (2 * j) + f (2 * j + 1)) n + (f (2 * n) + f (2 * n + 1))
    omega
theorem sumR_one {f : Nat → Int} {k n : Nat} (h : k < n) (e : ∀ a, a < n → a ≠ k → f a = 0) : sumR f n = f k := by
  have := sumR_diff (f := f) (g := fun _ => 0) h (fun a ha hk => e a ha hk)
  rw [this, sumR_zero (f := fun _ => 0) (fun _ _ => rfl)]
  omega
/-- the room that leaves a node -/
def S (hd : List Nat) (rm : List Int) (v : Nat) : Int := sumR (fun a => if tl hd a = v then rg rm a else 0) rm.length
/-- so much more goes along an arc -/
def push (rm : List Int) (a : Nat) (m : Int) : List Int := (rm.set a (rg rm a - m)).set (par a) (rg rm (par a) + m)
theorem push_len (rm : List Int) (a : Nat) (m : Int) : (push rm a m).length = rm.length := by unfold push; rw [List.length_set, List.length_set]
theorem rg_set {rm : List Int} {a b : Nat} {x : Int} (h : a < rm.length) : rg (rm.set a x) b = if b = a then x else rg rm b := by
  unfold rg
  rw [List.getD_eq_getElem?_getD, List.getD_eq_getElem?_getD]
  by_cases e : b = a
  · subst e
    rw [List.getElem?_set_self h, if_pos rfl]; rfl
  · rw [List.getElem?_set_ne (fun q => e q.symm), if_neg e]
theorem rg_push {rm : List Int} {a b : Nat} {m : Int} (he : rm.length % 2 = 0) (h : a < rm.length) : rg (push rm a m) b = if b = par a then rg rm (par a) + m else if b = a then rg rm a - m else rg rm b := by
  unfold push
  rw [rg_set (by rw [List.length_set]; exact par_lt he h), rg_set h]
theorem S_push {hd : List Nat} {rm : List Int} {a : Nat} {m : Int} (he : rm.length % 2 = 0) (h : a < rm.length) (v : Nat) : S hd (push rm a m) v = S hd rm v - (if tl hd a = v then m else 0) + (if hh hd a = v then m else 0) := by
  unfold S
  rw [push_len]
  have hp := par_lt he h
  have e1 : sumR (fun b => if tl hd b = v then rg (push rm a m) b else 0) rm.length = sumR (fun b => if tl hd b = v then (if b = a then rg rm a - m else rg rm b) else 0) rm.length + ((if tl hd (par a) = v then rg rm (par a) + m else 0) - (if tl hd (par a) = v then rg rm (par a) else 0)) := by
    rw [sumR_diff (g := fun b => if tl hd b = v then (if b = a then rg rm a - m else rg rm b) else 0) hp (fun b hb hk => ?_)]
    · have n := par_ne a
      simp only [rg_push he h, if_true, if_neg n]
    · simp only [rg_push he h, if_neg hk]
  have e2 : sumR (fun b => if tl hd b = v then (if b = a then rg rm a - m else rg rm b) else 0) rm.length = sumR (fun b => if tl hd b = v then rg rm b else 0) rm.length + ((if tl hd a = v then rg rm a - m else 0) - (if tl hd a = v then rg rm a else 0)) := by
    rw [sumR_diff (g := fun b => if tl hd b = v then rg rm b else 0) h (fun b hb hk => ?_)]
    · simp only [if_true]
    · simp only [if_neg hk]
  rw [e1, e2, tl_par]
  split <;> split <;> omega
def pushAll (rm : List Int) (as : List Nat) (m : Int) : List Int := as.foldl (fun r a => push r a m) rm
theorem pushAll_len (as : List Nat) (m : Int) : ∀ rm : List Int, (pushAll rm as m).length = rm.length := by
  induction as with
  | nil => intro rm; rfl
  | cons a as ih =>
    intro rm
    show (pushAll (push rm a m) as m).length = _
    rw [ih, push_len]
theorem pushAll_snoc (rm : List Int) (as : List Nat) (a : Nat) (m : Int) : pushAll rm (as ++ [a]) m = push (pushAll rm as m) a m := by unfold pushAll; rw [List.foldl_append]; rfl
/-- arcs that lead from s to e, from the last one back -/
def Way (hd : List Nat) : Nat → List Nat → Nat → Prop
  | e, [], s => e = s
  | e, a :: as, s => hh hd a = e ∧ Way hd (tl hd a) as s
theorem Way.snoc {hd : List Nat} : ∀ {as : List Nat} {e u a : Nat}, Way hd e as u → hh hd a = u → Way hd e (as ++ [a]) (tl hd a)
  | [], e, u, a, h, h2 => by
    have h : e = u := h
    exact ⟨h2.trans h.symm, rfl⟩
  | b :: as, e, u, a, h, h2 => ⟨h.1, Way.snoc h.2 h2⟩
theorem S_pushAll {hd : List Nat} {m : Int} : ∀ {as : List Nat} {rm : List Int} {e s : Nat}, rm.length % 2 = 0 → (∀ a ∈ as, a < rm.length) → Way hd e as s → ∀ v, S hd (pushAll rm as m) v = S hd rm v - (if s = v then m else 0) + (if e = v then m else 0)
  | [], rm, e, s, he, hl, w, v => by
    have w : e = s := w
    subst w
    show S hd rm v = _
    omega
  | a :: as, rm, e, s, he, hl, w, v => by
    obtain ⟨w1, w2⟩ := w
    have ha := hl a (by simp)
    have ih := S_pushAll (as := as) (rm := push rm a m) (e := tl hd a) (s := s) (m := m) (by rw [push_len]; exact he) (fun b hb => by rw [push_len]; exact hl b (by simp [hb])) w2 v
    show S hd (pushAll (push rm a m) as m) v = _
    rw [ih, S_push he ha, w1]
    omega
theorem pair_push {rm : List Int} {a : Nat} {m : Int} (he : rm.length % 2 = 0) (h : a < rm.length) (b : Nat) : rg (push rm a m) b + rg (push rm a m) (par b) = rg rm b + rg rm (par b) := by
  rw [rg_push he h, rg_push he h]
  have n := par_ne a
  by_cases e : b = a
  · subst e
    rw [if_neg (fun q => n q.symm), if_pos rfl, if_pos rfl]
    omega
  · by_cases e2 : b = par a
    · subst e2
      rw [if_pos rfl, par_par, if_neg (fun q => n q.symm), if_pos rfl]
      omega
    · have e3 : ¬ par b = par a := fun q => e (by rw [← par_par b, q, par_par])
      have e4 : ¬ par b = a := fun q => e2 (by rw [← q, par_par])
      rw [if_neg e2, if_neg e, if_neg e3, if_neg e4]
theorem pair_pushAll {m : Int} : ∀ {as : List Nat} {rm : List Int}, rm.length % 2 = 0 → (∀ a ∈ as, a < rm.length) → ∀ b, rg (pushAll rm as m) b + rg (pushAll rm as m) (par b) = rg rm b + rg rm (par b)
  | [], rm, he, hl, b => rfl
  | a :: as, rm, he, hl, b => by
    have ih := pair_pushAll (as := as) (rm := push rm a m) (m := m) (by rw [push_len]; exact he) (fun b hb => by rw [push_len]; exact hl b (by simp [hb])) b
    show rg (pushAll (push rm a m) as m) b + rg (pushAll (push rm a m) as m) (par b) = _
    rw [ih, pair_push he (hl a (by simp))]
theorem low_pushAll {m : Int} (hm : 0 ≤ m) : ∀ {as : List Nat} {rm : List Int}, rm.length % 2 = 0 → (∀ a ∈ as, a < rm.length) → as.Nodup → ∀ b, rg rm b - (if b ∈ as then m else 0) ≤ rg (pushAll rm as m) b
  | [], rm, he, hl, nd, b => by
    show rg rm b - (if b ∈ [] then m else 0) ≤ rg rm b
    simp
  | a :: as, rm, he, hl, nd, b => by
    obtain ⟨n1, n2⟩ := List.nodup_cons.mp nd
    have ha := hl a (by simp)
    have ih := low_pushAll hm (as := as) (rm := push rm a m) (by rw [push_len]; exact he) (fun b hb => by rw [push_len]; exact hl b (by simp [hb])) n2 b
    show _ ≤ rg (pushAll (push rm a m) as m) b
    rw [rg_push he ha] at ih
    have n := par_ne a
    by_cases e : b = a
    · subst e
      rw [if_neg (fun q => n q.symm), if_pos rfl, if_neg n1] at ih
      rw [if_pos (by simp)]
      omega
    · have e5 : (if b ∈ a :: as then m else 0) = (if b ∈ as then m else 0) := by simp [e]
      rw [e5]
      by_cases e2 : b = par a
      · subst e2
        rw [if_pos rfl] at ih
        omega
      · rw [if_neg e2, if_neg e] at ih
        exact ih
theorem nonneg_pushAll {m : Int} {as : List Nat} {rm : List Int} (hm : 0 ≤ m) (he : rm.length % 2 = 0) (hl : ∀ a ∈ as, a < rm.length) (nd : as.Nodup) (h0 : ∀ b, 0 ≤ rg rm b) (ha : ∀ a ∈ as, m ≤ rg rm a) : ∀ b, 0 ≤ rg (pushAll rm as m) b := fun b => by
  have h1 := low_pushAll hm he hl nd b
  have h2 := h0 b
  by_cases e : b ∈ as
  · have h3 := ha b e
    rw [if_pos e] at h1
    omega
  · rw [if_neg e] at h1
    omega
/-- what is met from a node, in the order in which it is, each with the arc by which -/
structure Met (hd : List Nat) (rm : List Int) (nodes start : Nat) (ws : List (Nat × Option Nat)) : Prop where
  nd : (ws.map (·.1)).Nodup
  first : ws[0]? = some (start, none)
  lt : ∀ w ∈ ws, w.1 < nodes
  arcs : ∀ (i : Nat) v o, ws[i]? = some (v, o) → 0 < i → ∃ a, o = some a ∧ a < hd.length ∧ 0 < rg rm a ∧ hh hd a = v ∧ ∃ j u, j < i ∧ ws[j]? = some (tl hd a, u)
  closed : ∀ v ∈ ws.map (·.1), ∀ a, a < hd.length → tl hd a = v → 0 < rg rm a → hh hd a ∈ ws.map (·.1)
/-- what is met lies in every set that nothing leads out of -/
theorem Met.least {hd : List Nat} {rm : List Int} {nodes start : Nat} {ws : List (Nat × Option Nat)} (m : Met hd rm nodes start ws) (R : Nat → Prop) (h0 : R start) (hc : ∀ a, a < hd.length → R (tl hd a) → 0 < rg rm a → R (hh hd a)) : ∀ (n i : Nat) v o, i ≤ n → ws[i]? = some (v, o) → R v := by
  intro n
  induction n with
  | zero =>
    intro i v o hi h
    have : i = 0 := by omega
    subst this
    rw [m.first] at h
    cases h
    exact h0
  | succ n ih =>
    intro i v o hi h
    by_cases c : i ≤ n
    · exact ih i v o c h
    · obtain ⟨a, _, ha, hr, hv, j, u, hj, hw⟩ := m.arcs i v o h (by omega)
      rw [← hv]
      exact hc a ha (ih j _ u (by omega) hw) hr
theorem Met.sub {hd : List Nat} {rm : List Int} {nodes start : Nat} {ws ws' : List (Nat × Option Nat)} (m : Met hd rm nodes start ws) (m' : Met hd rm nodes start ws') : ∀ v ∈ ws.map (·.1), v ∈ ws'.map (·.1) := fun v hv => by
  obtain ⟨w, hw, e⟩ := List.mem_map.mp hv
  obtain ⟨i, hi⟩ := List.getElem?_of_mem hw
  have := m.least (fun v => v ∈ ws'.map (·.1)) (List.mem_map.mpr ⟨_, List.mem_of_getElem? m'.first, rfl⟩) (fun a ha ht hr => m'.closed _ ht a ha rfl hr) i i w.1 w.2 (Nat.le_refl _) hi
  rw [← e]
  exact this
end K33
set_option Elab.async false
set_option linter.all false
set_option maxRecDepth 100000
set_option maxHeartbeats 4000000
/-! K10: flows: made, arcs put. -/
namespace K33
open PySem L2
/-! one step of a reading -/
local macro_rules | `(tactic| walk_at "look") => `(tactic| first | assumption | exact upd_same | (refine Same.at' (by assumption) ?_; walk_at "look"))
local macro_rules | `(tactic| walk_at "side") => `(tactic| first | exact .inr ⟨by decide, by decide⟩ | exact .inl ⟨by decide, by decide⟩ | (show (0 : Int) < _; decide) | exact ⟨by decide, by decide⟩ | omega)
local macro_rules | `(tactic| walk_at "tt") => `(tactic| first | assumption | exact decide_eq_true (by assumption) | exact decide_eq_true rfl | (rw [decide_eq_false (by assumption)]; rfl) | rfl | exact decide_eq_true (by omega) | (rw [decide_eq_false (by omega)]; rfl))
local macro_rules | `(tactic| walk_at "ff") => `(tactic| first | assumption | exact decide_eq_false (by assumption) | (rw [decide_eq_true (by assumption)]; rfl) | (rw [decide_eq_true rfl]; rfl) | rfl | exact decide_eq_false (by omega) | (rw [decide_eq_true (by omega)]; rfl))
local macro_rules | `(tactic| walk_at "fld") => `(tactic| fail)
local macro_rules | `(tactic| walk_at "s1") => `(tactic| first
  | with_reducible refine r_seq ?_
  | with_reducible refine r_asg ?_
  | with_reducible refine r_name ?_
  | ((with_reducible refine' r_var ?hv ?_); (case hv => exact rfl))
  | with_reducible refine r_c ?_
  | with_reducible refine r_op ?_
  | with_reducible refine r_un ?_
  | with_reducible refine r_neg ?_
  | with_reducible refine r_I0 ?_
  | ((with_reducible refine' r_I ?hc ?_); (case hc => walk_at "side"))
  | with_reducible refine r_eqI ?_
  | with_reducible refine r_neI ?_
  | with_reducible refine r_eqS ?_
  | with_reducible refine r_neS ?_
  | with_reducible refine r_B ?_
  | with_reducible refine r_test ?_
  | with_reducible refine r_chain ?_
  | with_reducible refine r_and ?_
  | with_reducible refine r_or ?_
  | with_reducible refine r_not ?_
  | with_reducible refine r_andV ?_
  | with_reducible refine r_orV ?_
  | with_reducible refine r_notV ?_
  | with_reducible refine r_nil ?_
  | with_reducible refine r_cons ?_
  | with_reducible refine r_call ?_
  | with_reducible refine r_CB ?_
  | with_reducible refine r_fld ?_
  | with_reducible refine r_tup ?_
  | walk_at "fld"
  | with_reducible refine r_lst ?_
  | with_reducible refine r_if ?_
  | with_reducible refine r_drop ?_
  | with_reducible refine r_ret ?_
  | with_reducible refine r_retN ?_
  | with_reducible refine r_next ?_
  | with_reducible refine r_cont ?_
  | with_reducible refine r_bm ?_
  | with_reducible refine r_gcons ?_
  | with_reducible refine r_gnil ?_
  | with_reducible refine r_for ?_
  | with_reducible refine r_lc ?_
  | with_reducible refine r_yes ?_
  | with_reducible refine r_iEnum ?_
  | with_reducible refine r_iList ?_
  | with_reducible refine r_iTup ?_
  | with_reducible refine r_iZip ?_
  | with_reducible refine r_iRng1 ?_
  | with_reducible refine r_iRng2 ?_
  | with_reducible refine r_din ?_
  | with_reducible refine r_dnotin ?_
  | with_reducible refine r_dget ?_
  | with_reducible refine r_dget2 ?_
  | with_reducible refine r_dput ?_
  | with_reducible refine r_dnewK ?_
  | with_reducible refine r_gsub ?_
  | ((with_reducible refine' r_dinL (Rd.of ?h) ?_); (case h => walk_at "look"))
  | ((with_reducible refine' r_isD (Rd.of ?h) ?_); (case h => walk_at "look"))
  | ((with_reducible refine' r_dget2L (Rd.of ?h) ?_); (case h => walk_at "look"))
  | ((with_reducible refine' r_dgetL (Rd.of ?h) ?e ?_); (case h => walk_at "look"); (case e => first | assumption | rfl))
  | ((with_reducible refine' r_dgetL (rd_frz ?h) ?e ?_); (case h => assumption); (case e => first | assumption | rfl))
  | ((with_reducible refine' r_lt2 ?h1 ?h2 ?_); (case h1 => walk_at "look"); (case h2 => walk_at "look"))
  | with_reducible refine r_sl ?_
  | with_reducible refine r_noPart ?_
  | with_reducible refine r_part ?_
  | with_reducible refine r_exi ?_
  | ((with_reducible refine' r_tyL ?h ?_); (case h => walk_at "look"))
  | with_reducible refine r_isN ?_
  | with_reducible refine r_notN ?_
  | with_reducible refine r_isB ?_
  | with_reducible refine r_notB ?_
  | with_reducible refine r_min2' ?_
  | with_reducible refine r_max2' ?_
  | with_reducible refine r_isi (.base (.int _)) kII ?_
  | with_reducible refine r_isi (.base (.int _)) kIB ?_
  | with_reducible refine r_isi (.base (.str _)) kSS ?_
  | with_reducible refine r_isi (.base (.bl _)) kBB ?_
  | ((with_reducible refine' r_isi (.base (.tup ?h)) kTT ?_); (case h => walk_at "look"))
  | ((with_reducible refine' r_isi (.base (.lst ?h)) kLL ?_); (case h => walk_at "look"))
  | ((with_reducible refine' r_lenS (Or.inr (SqT.of ?h)) ?_); (case h => walk_at "look"))
  | ((with_reducible refine' r_lenS (Or.inl (SqL.of ?h)) ?_); (case h => walk_at "look"))
  | ((with_reducible refine' r_ixT (SqT.of ?h) ?e ?_); (case h => walk_at "look"); (case e => rfl))
  | ((with_reducible refine' r_gtup (SqT.of ?h) ?e ?_); (case h => walk_at "look"); (case e => rfl))
  | ((with_reducible refine r_tlen ?e ?_); (case e => exact Nat.le_of_ble_eq_true rfl))
  | with_reducible refine r_iteT ?_
  | with_reducible refine r_iteF ?_
  | with_reducible refine r_exb2 ?_
  | ((with_reducible refine r_iteP ?hc ?_); (case hc => walk_at "tt"))
  | ((with_reducible refine r_iteN ?hc ?_); (case hc => walk_at "ff")))
local macro_rules | `(tactic| walk_at "s") => `(tactic| repeat (walk_at "s1"))

/-! fields and methods of this class -/
local macro_rules | `(tactic| walk_at "lk") => `(tactic| first | with_reducible exact pfF1_leaving _ | with_reducible exact pfF2_leaving _ _ | with_reducible exact pfF2_heads _ _ | with_reducible exact pfF3_leaving _ _ _ | with_reducible exact pfF3_heads _ _ _ | with_reducible exact pfF3_rooms _ _ _)
local macro_rules | `(tactic| walk_at "lookF") => `(tactic| first | with_reducible exact flF_leaving _ _ _ | with_reducible exact flF_heads _ _ _ | with_reducible exact flF_rooms _ _ _ | walk_at "lk")
local macro_rules | `(tactic| walk_at "noF") => `(tactic| first | with_reducible exact flF_no_put _ _ _ | with_reducible exact flF_no_along _ _ _ | with_reducible exact flF_no_met_from _ _ _ | with_reducible exact flF_no_way_to _ _ _ | with_reducible exact flF_no_fill _ _ _)
local macro_rules | `(tactic| walk_at "atF") => `(tactic| first | with_reducible exact IsF.n_leaving (by assumption) | with_reducible exact IsF.n_heads (by assumption) | with_reducible exact IsF.n_rooms (by assumption))
local macro_rules | `(tactic| walk_at "fld") => `(tactic| ((with_reducible refine' r_exf ?h (IsF.cl (by assumption)) ?n ?l ?_); (case h => walk_at "look"); (case n => walk_at "atF"); (case l => walk_at "lookF")))
local macro_rules | `(tactic| walk_at "fld") => `(tactic| ((with_reducible refine' r_methL ?h ?n ?_); (case h => walk_at "look"); (case n => walk_at "noF")))
local macro_rules | `(tactic| walk_at "fld") => `(tactic| with_reducible refine r_meth ?_)
local macro_rules | `(tactic| walk_at "fld") => `(tactic| with_reducible refine r_make ?_)
local macro_rules | `(tactic| walk_at "fld") => `(tactic| with_reducible refine r_fset ?_)

abbrev nV (n : Nat) : V := V.int (n : Nat)
structure FlowAt (CF : Addr) (H : Hp) (f : Addr) (nodes : Nat) (hd : List Nat) (rm : List Int) (aL aH aR : Addr) (Ls : List Addr) : Prop where
  obj : ∃ dx, H f = some (.ins CF dx (flF (.ref aL) (.ref aH) (.ref aR)))
  lL : H aL = some (.lst (Ls.map V.ref))
  nL : Ls.length = nodes
  lH : H aH = some (.lst (hd.map nV))
  lR : H aR = some (.lst (rm.map V.int))
  len : rm.length = hd.length
  even : hd.length % 2 = 0
  lv : ∀ (v : Nat) l, Ls[v]? = some l → ∃ as : List Nat, H l = some (.lst (as.map nV)) ∧ (∀ a, a ∈ as ↔ a < hd.length ∧ tl hd a = v) ∧ as.length ≤ hd.length
  nd : Ls.Nodup
  nH : aH ∉ Ls
  nR : aR ∉ Ls
  nLL : aL ∉ Ls
  HR : aH ≠ aR
  LH : aL ≠ aH
  LR : aL ≠ aR
theorem FlowAt.sm {CF : Addr} {H H' : Hp} {f : Addr} {nodes : Nat} {hd : List Nat} {rm : List Int} {aL aH aR : Addr} {Ls : List Addr} (s : Same H H') (h : FlowAt CF H f nodes hd rm aL aH aR Ls) : FlowAt CF H' f nodes hd rm aL aH aR Ls :=
  ⟨let ⟨dx, e⟩ := h.obj; ⟨dx, s _ _ e⟩, s _ _ h.lL, h.nL, s _ _ h.lH, s _ _ h.lR, h.len, h.even, fun v l hl => let ⟨as, a, b, c⟩ := h.lv v l hl; ⟨as, s _ _ a, b, c⟩, h.nd, h.nH, h.nR, h.nLL, h.HR, h.LH, h.LR⟩
theorem getD_of {α : Type} {l : List α} {i : Nat} {x d : α} (h : l[i]? = some x) : l.getD i d = x := by rw [List.getD_eq_getElem?_getD, h]; rfl
theorem rg_at {rm : List Int} {a : Nat} (h : a < rm.length) : (rm.map V.int)[a]? = some (.int (rg rm a)) := by
  rw [List.getElem?_map, List.getElem?_eq_getElem h]
  unfold rg
  rw [getD_of (List.getElem?_eq_getElem h)]; rfl
theorem hh_at {hd : List Nat} {a : Nat} (h : a < hd.length) : (hd.map nV)[a]? = some (nV (hh hd a)) := by
  rw [List.getElem?_map, List.getElem?_eq_getElem h]
  unfold hh
  rw [getD_of (List.getElem?_eq_getElem h)]; rfl
theorem tl_snoc {hd : List Nat} (he : hd.length % 2 = 0) (h t a : Nat) : tl (hd ++ [h, t]) a = if a < hd.length then tl hd a else if a = hd.length then t else if a = hd.length + 1 then h else 0 := by
  unfold tl
  rw [List.getD_eq_getElem?_getD]
  by_cases c : a < hd.length
  · rw [if_pos c, List.getElem?_append_left (par_lt he c), List.getD_eq_getElem?_getD]
  · rw [if_neg c, List.getElem?_append_right (by unfold par; split <;> omega)]
    by_cases c2 : a = hd.length
    · rw [if_pos c2]
      have : par a - hd.length = 1 := by unfold par; rw [if_pos (by omega)]; omega
      rw [this]; rfl
    · rw [if_neg c2]
      by_cases c3 : a = hd.length + 1
      · rw [if_pos c3]
        have : par a - hd.length = 0 := by unfold par; rw [if_neg (by omega)]; omega
        rw [this]; rfl
      · rw [if_neg c3, List.getElem?_eq_none]
        · rfl
        · show 2 ≤ par a - hd.length
          unfold par
          split <;> omega
section
variable {P : Program} {w : World} {K : PySem.W.Frag} {mg : Str → Option Value} {base : Heap} {CF : Addr}
def spPartner : Sp := fun vs H Q _ => ∃ a : Nat, vs = [nV a] ∧ Q (nV (par a)) H
theorem ok_partner {f : Addr} {fd : FuncData} (F : Fun K "partner" "partner" spartner f fd) (T : Txt K mg) : FnOk P w K mg base CX0 1 f fd ["arc"] spPartner := by
  refine F.ok scpartner (fun vs H Q E h => ?_) (fun cdv A outer s H vs Q E hr h => ?_)
  · obtain ⟨a, rfl, _⟩ := h; rfl
  obtain ⟨a, rfl, k⟩ := h
  refine ⟨_, (pss_one (ps_ret (pe_op op_sub (pe_op op_add (pv 0) pe_int) (pe_op op_mul pe_int (pe_op op_mod (pv 0) pe_int))))), ?_⟩
  walk_at "s"
  rw [← par_int]
  exact k
def spFlowInit (CF : Addr) : Sp := fun vs H Q _ => ∃ (f dx : Addr) (n : Nat), vs = [.ref f, nV n] ∧ H f = some (.ins CF dx []) ∧ n ≤ 1000 ∧
  ∀ H' aL aH aR Ls, SB f H H' → FlowAt CF H' f n [] [] aL aH aR Ls → (∀ x, x = aL ∨ x = aH ∨ x = aR ∨ x ∈ Ls → H x = none) → Q .non H'
theorem ok_flow_init {f : Addr} {fd : FuncData} (F : Fun K "__init__" "Flow.__init__" sFlow_init f fd) (T : Txt K mg) (ic : IsF K CF) : FnOk P w K mg base CX0 1 f fd ["self", "many"] (spFlowInit CF) := by
  have cF := ic.cl
  refine F.ok scFlow_init (fun vs H Q E h => ?_) (fun cdv A outer s H vs Q E hr h => ?_)
  · obtain ⟨f, dx, n, rfl, _⟩ := h; rfl
  obtain ⟨f, dx, n, rfl, hf, n1000, k⟩ := h
  have k0 : (([] : List (Str × V))).length ≤ 0 := Nat.le_refl 0
  refine ⟨_, (pss_cons (psFK (K := K) (pv 0) (pe_lc (own := [("node", 2)]) rfl scFlow_init.nd (pi_range1 rfl T.fRange (pa_cons (pv 1) pa_nil)) (blkOk_by (own := [("node", 2)]) (N := ["self", "many", "node"]) (sc := defScope sFlow_init) (by decide +kernel)) (fun _ _ _ _ _ => (pg_name (i := 2) scFlow_init.nd rfl (Or.inl rfl))) (fun _ _ _ _ _ => pts_nil) (fun _ _ _ _ _ => (pe_lst pa_nil))) rfl)
 (pss_cons (psFK (K := K) (pv 0) (pe_lst pa_nil) rfl)
 (pss_one (psFK (K := K) (pv 0) (pe_lst pa_nil) rfl)))), ?_⟩
  walk_at "s"
  refine k_rng1D (fun D i acc G => ∃ Ls : List Addr, acc = Ls.map V.ref ∧ Ls.length = i ∧ Ls.Nodup ∧ ∀ l ∈ Ls, G l = some (.lst []) ∧ H l = none ∧ l ≠ D) (by omega) (fun D G => ⟨[], rfl, rfl, List.nodup_nil, fun l h => by cases h⟩) ?_ ?_
  · intro D i acc H' nD hi sm hD ⟨Ls, eA, hl, nd, hall⟩
    walk_at "s"
    refine ⟨rfl, ?_⟩
    walk_at "s"
    refine r_new fun q H7 nq s7 e7 => ?_
    have hD7 := s7 _ _ hD
    have nqD : q ≠ D := fun e => by rw [e, hD] at nq; cases nq
    have nql : q ∉ Ls := fun m => by have := (hall q m).1; rw [nq] at this; cases this
    refine c_endD nD (sm.trans s7) hD7 (by rw [eA, List.length_map]; omega) ⟨Ls ++ [q], by rw [eA, List.map_append]; rfl, by rw [List.length_append, hl]; rfl, ?_, fun l hm => ?_⟩
    · rw [List.nodup_append]
      exact ⟨nd, by simp, fun b hb c hc => by
        have : c = q := by simpa using hc
        subst this
        intro z
        subst z
        exact nql hb⟩
    · rcases List.mem_append.mp hm with m | m
      · obtain ⟨q1, q2, q3⟩ := hall l m
        exact ⟨by rw [upd_ne q3]; exact s7 _ _ q1, q2, q3⟩
      · have : l = q := by simpa using m
        subst this
        exact ⟨by rw [upd_ne nqD]; exact e7, sm.free nq, nqD⟩
  · intro aL acc H1 nL s1 hD ⟨Ls, eA, hl, nd, hall⟩
    rw [eA] at hD
    walk_at "s"
    refine r_fsetN (s1 _ _ hf) cF ic.n_leaving k0 fun H2 b2 p2 hf2 => ?_
    have sb2 : SB f H H2 := (SB.of s1).trans b2
    walk_at "s"
    refine r_new fun aH H3 nH s3 e3 => ?_
    walk_at "s"
    refine r_fsetN (s3 _ _ hf2) cF ic.n_heads (pl k0) fun H4 b4 p4 hf4 => ?_
    have sb4 : SB f H H4 := (sb2.trans (SB.of s3)).trans b4
    walk_at "s"
    refine r_new fun aR H5 nR s5 e5 => ?_
    walk_at "s"
    refine r_fsetN (s5 _ _ hf4) cF ic.n_rooms (pl (pl k0)) fun H6 b6 p6 hf6 => ?_
    have sb6 : SB f H H6 := (sb4.trans (SB.of s5)).trans b6
    have q4 : Keep H4 H6 := (Same.keep s5).trans p6
    have q2 : Keep H2 H6 := ((Same.keep s3).trans p4).trans q4
    have q1 : Keep H1 H6 := p2.trans q2
    have z2 : Keep H2 H4 := (Same.keep s3).trans p4
    have l2 : ∀ {x : Addr} {xs : List V}, H2 x = some (.lst xs) → x ≠ aH := fun h => ne_of_none h nH
    have l4 : ∀ {x : Addr} {xs : List V}, H4 x = some (.lst xs) → x ≠ aR := fun h => ne_of_none h nR
    have hL2 := p2.lst hD
    have hl2 : ∀ l ∈ Ls, H2 l = some (.lst []) := fun l m => p2.lst (hall l m).1
    refine k H6 aL aH aR Ls sb6 ⟨⟨dx, hf6⟩, q1.lst hD, by omega, (p4.trans q4).lst e3, p6.lst e5, rfl, rfl, fun v l hv => ⟨[], q1.lst (hall l (List.mem_of_getElem? hv)).1, fun a => ?_, Nat.le_refl 0⟩, nd, fun m => l2 (hl2 _ m) rfl, fun m => l4 (z2.lst (hl2 _ m)) rfl, fun m => (hall aL m).2.2 rfl, l4 (p4.lst e3), l2 hL2, l4 (z2.lst hL2)⟩ ?_
    · constructor
      · intro h; cases h
      · intro h; exact absurd h.1 (Nat.not_lt_zero _)
    · rintro x (h | h | h | h)
      · rw [h]; exact nL
      · rw [h]; exact sb_free sb2 ⟨_, hf2⟩ nH
      · rw [h]; exact sb_free sb4 ⟨_, hf4⟩ nR
      · exact (hall x h).2.1
/-- put: two arcs more -/
def spPut (CF : Addr) : Sp := fun vs H Q _ => ∃ (f : Addr) (t h : Nat) (r : Int) (nodes : Nat) (hd : List Nat) (rm : List Int) (aL aH aR : Addr) (Ls : List Addr), vs = [.ref f, nV t, nV h, .int r] ∧ FlowAt CF H f nodes hd rm aL aH aR Ls ∧ t < nodes ∧ h < nodes ∧ t ≠ h ∧ hd.length ≤ 5000 ∧
  ∀ H', FlowAt CF H' f nodes (hd ++ [h, t]) (rm ++ [r, 0]) aL aH aR Ls → (∀ b o, b ≠ aH → b ≠ aR → b ∉ Ls → H b = some o → H' b = some o) → Q (nV hd.length) H'
theorem ok_put {f : Addr} {fd : FuncData} (F : Fun K "put" "Flow.put" sFlow_put f fd) (T : Txt K mg) (ic : IsF K CF) : FnOk P w K mg base CX0 1 f fd ["self", "tail", "head", "room"] (spPut CF) := by
  have cF := ic.cl
  refine F.ok scFlow_put (fun vs H Q E h => ?_) (fun cdv A outer s H vs Q E hr h => ?_)
  · obtain ⟨f, t, h, r, nodes, hd, rm, aL, aH, aR, Ls, rfl, _⟩ := h; rfl
  obtain ⟨f, t, h, r, nodes, hd, rm, aL, aH, aR, Ls, rfl, fl, ht, hh', nth, l5000, k⟩ := h
  obtain ⟨dx, hf⟩ := fl.obj
  have ht' : t < Ls.length := by rw [fl.nL]; exact ht
  have hh'' : h < Ls.length := by rw [fl.nL]; exact hh'
  have et : Ls[t]? = some Ls[t] := List.getElem?_eq_getElem ht'
  have eh : Ls[h]? = some Ls[h] := List.getElem?_eq_getElem hh''
  obtain ⟨ast, hat, memt, lent⟩ := fl.lv t _ et
  obtain ⟨ash, hah, memh, lenh⟩ := fl.lv h _ eh
  have mt := List.mem_of_getElem? et
  have mh := List.mem_of_getElem? eh
  have nll : Ls[h] ≠ Ls[t] := fun e => nth (nd_ix fl.nd et (by rw [eh, e]))
  have l1 : (hd.map nV).length = hd.length := List.length_map ..
  have lH := fl.lH
  have lL := fl.lL
  have gt : (Ls.map V.ref)[t]? = some (.ref Ls[t]) := by rw [List.getElem?_map, et]; rfl
  have gh : (Ls.map V.ref)[h]? = some (.ref Ls[h]) := by rw [List.getElem?_map, eh]; rfl
  have lR := fl.lR
  have even := fl.even
  refine ⟨_, (pss_cons (ps_set (i := 4) scFlow_put.nd rfl (Or.inl rfl) (pe_callB (lenK (K := K)) (by rfl) T.fLen bt_len (pa_cons (peFK (K := K) (pv 0) rfl) pa_nil)))
 (pss_cons (ps_expr (peMK (K := K) PySem.F.plainAttrs_list PySem.F.slot_list_append PySem.F.type_list_append mt_append (pe_ix (ixLK (K := K)) (peFK (K := K) (pv 0) rfl) (pv 1) (fun _ _ => rfl)) (pa_cons (pv 4) pa_nil)))
 (pss_cons (ps_expr (peMK (K := K) PySem.F.plainAttrs_list PySem.F.slot_list_append PySem.F.type_list_append mt_append (pe_ix (ixLK (K := K)) (peFK (K := K) (pv 0) rfl) (pv 2) (fun _ _ => rfl)) (pa_cons (pe_op op_add (pv 4) pe_int) pa_nil)))
 (pss_cons (ps_expr (peMK (K := K) PySem.F.plainAttrs_list PySem.F.slot_list_extend PySem.F.type_list_extend mt_extend (peFK (K := K) (pv 0) rfl) (pa_cons (pe_lst (pa_cons (pv 2) (pa_cons (pv 1) pa_nil))) pa_nil)))
 (pss_cons (ps_expr (peMK (K := K) PySem.F.plainAttrs_list PySem.F.slot_list_extend PySem.F.type_list_extend mt_extend (peFK (K := K) (pv 0) rfl) (pa_cons (pe_lst (pa_cons (pv 3) (pa_cons pe_int pa_nil))) pa_nil)))
 (pss_one (ps_ret (pv 4)))))))), ?_⟩
  walk_at "s"
  rw [l1]
  refine r_ixI lL rfl gt ?_
  walk_at "s"
  refine r_appendN hat (by rw [List.length_map]; omega) fun H1 q1 e1 => ?_
  have hf1 : H1 f = _ := (q1 f (ne_of hf hat (fun z => by cases z))).trans hf
  have lL1 : H1 aL = _ := (q1 aL (fun z => fl.nLL (by rw [z]; exact mt))).trans lL
  have hah1 : H1 Ls[h] = _ := (q1 _ nll).trans hah
  walk_at "s"
  refine r_ixI lL1 rfl gh ?_
  walk_at "s"
  refine r_appendN hah1 (by rw [List.length_map]; omega) fun H2 q2 e2 => ?_
  have hf2 : H2 f = _ := (q2 f (ne_of hf1 hah1 (fun z => by cases z))).trans hf1
  have lH2 : H2 aH = _ := (q2 aH (fun z => fl.nH (by rw [z]; exact mh))).trans ((q1 aH (fun z => fl.nH (by rw [z]; exact mt))).trans lH)
  have lR2 : H2 aR = _ := (q2 aR (fun z => fl.nR (by rw [z]; exact mh))).trans ((q1 aR (fun z => fl.nR (by rw [z]; exact mt))).trans lR)
  have lL2 : H2 aL = _ := (q2 aL (fun z => fl.nLL (by rw [z]; exact mh))).trans lL1
  walk_at "s"
  refine r_new fun p H3 np s3 e3 => ?_
  walk_at "s"
  refine r_extendN (s3 _ _ lH2) e3 (by rw [l1]; show hd.length + 2 < _; omega) fun H4 q4 e4 => ?_
  have hf4 : H4 f = _ := (q4 f (ne_of hf2 lH2 (fun z => by cases z))).trans (s3 _ _ hf2)
  have lR4 : H4 aR = _ := (q4 aR fl.HR.symm).trans (s3 _ _ lR2)
  walk_at "s"
  refine r_new fun p2 H5 np2 s5 e5 => ?_
  walk_at "s"
  refine r_extendN (s5 _ _ lR4) e5 (by rw [List.length_map, fl.len]; show hd.length + 2 < _; omega) fun H6 q6 e6 => ?_
  walk_at "s"
  have oth : ∀ b o, b ≠ aH → b ≠ aR → H2 b = some o → H6 b = some o := fun b o n1 n2 e => by
    rw [q6 b n2]
    refine s5 _ _ ?_
    rw [q4 b n1]
    exact s3 _ _ e
  have lb2 : ∀ l ∈ Ls, l ≠ aH ∧ l ≠ aR := fun l m => ⟨fun z => fl.nH (by rw [← z]; exact m), fun z => fl.nR (by rw [← z]; exact m)⟩
  have lenHD : (hd ++ [h, t]).length = hd.length + 2 := by rw [List.length_append]; rfl
  have fin := k H6 ⟨⟨dx, oth _ _ (ne_of hf2 lH2 (fun z => by cases z)) (ne_of hf2 lR2 (fun z => by cases z)) hf2⟩, oth _ _ fl.LH fl.LR lL2, fl.nL, ?_, ?_, by rw [lenHD, List.length_append, fl.len]; rfl, by rw [lenHD]; omega, fun v l hv => ?_, fl.nd, fl.nH, fl.nR, fl.nLL, fl.HR, fl.LH, fl.LR⟩ (fun b o n1 n2 n3 e => oth _ _ n1 n2 (by
    rw [q2 b (fun z => n3 (by rw [z]; exact mh)), q1 b (fun z => n3 (by rw [z]; exact mt))]
    exact e))
  · exact fin
  · rw [q6 aH fl.HR]
    rw [s5 _ _ e4, List.map_append]
    rfl
  · rw [e6, List.map_append]
    rfl
  · have hl2 := lb2 l (List.mem_of_getElem? hv)
    by_cases ev : v = t
    · subst ev
      rw [et] at hv
      cases hv
      refine ⟨ast ++ [hd.length], oth _ _ hl2.1 hl2.2 ?_, fun a => ?_, by rw [List.length_append, lenHD]; show ast.length + 1 ≤ _; omega⟩
      · rw [q2 _ nll.symm, e1, List.map_append]
        rfl
      · rw [List.mem_append, memt, tl_snoc even, lenHD]
        constructor
        · rintro (⟨z1, z2⟩ | z)
          · rw [if_pos z1]; exact ⟨by omega, z2⟩
          · have z : a = hd.length := by simpa using z
            rw [if_neg (by omega), if_pos z]; exact ⟨by omega, rfl⟩
        · rintro ⟨z1, z2⟩
          by_cases c : a < hd.length
          · rw [if_pos c] at z2; exact .inl ⟨c, z2⟩
          · rw [if_neg c] at z2
            by_cases c2 : a = hd.length
            · exact .inr (by simp [c2])
            · rw [if_neg c2, if_pos (by omega)] at z2
              exact absurd z2.symm nth
    · by_cases ev2 : v = h
      · subst ev2
        rw [eh] at hv
        cases hv
        refine ⟨ash ++ [hd.length + 1], oth _ _ hl2.1 hl2.2 ?_, fun a => ?_, by rw [List.length_append, lenHD]; show ash.length + 1 ≤ _; omega⟩
        · rw [e2, List.map_append]
          rfl
        · rw [List.mem_append, memh, tl_snoc even, lenHD]
          constructor
          · rintro (⟨z1, z2⟩ | z)
            · rw [if_pos z1]; exact ⟨by omega, z2⟩
            · have z : a = hd.length + 1 := by simpa using z
              rw [if_neg (by omega), if_neg (by omega), if_pos z]; exact ⟨by omega, rfl⟩
          · rintro ⟨z1, z2⟩
            by_cases c : a < hd.length
            · rw [if_pos c] at z2; exact .inl ⟨c, z2⟩
            · rw [if_neg c] at z2
              by_cases c2 : a = hd.length
              · rw [if_pos c2] at z2; exact absurd z2 nth
              · exact .inr (by simp; omega)
      · obtain ⟨as, a1, a2, a3⟩ := fl.lv v l hv
        have n1 : l ≠ Ls[t] := fun z => ev (nd_ix fl.nd hv (by rw [et, z]))
        have n2 : l ≠ Ls[h] := fun z => ev2 (nd_ix fl.nd hv (by rw [eh, z]))
        refine ⟨as, oth _ _ hl2.1 hl2.2 (by rw [q2 _ n2, q1 _ n1]; exact a1), fun a => ?_, by omega⟩
        rw [a2, tl_snoc even, lenHD]
        constructor
        · rintro ⟨z1, z2⟩
          rw [if_pos z1]; exact ⟨by omega, z2⟩
        · rintro ⟨z1, z2⟩
          by_cases c : a < hd.length
          · rw [if_pos c] at z2; exact ⟨c, z2⟩
          · rw [if_neg c] at z2
            by_cases c2 : a = hd.length
            · rw [if_pos c2] at z2; exact absurd z2.symm ev
            · rw [if_neg c2, if_pos (by omega)] at z2; exact absurd z2.symm ev2
def spAlong (CF : Addr) : Sp := fun vs H Q _ => ∃ (f dx : Addr) (a : Nat) (rm : List Int) (aL aH aR : Addr), vs = [.ref f, nV a] ∧ H f = some (.ins CF dx (flF (.ref aL) (.ref aH) (.ref aR))) ∧ H aR = some (.lst (rm.map V.int)) ∧ a + 1 < rm.length ∧ Q (.int (rg rm (a + 1))) H
theorem ok_along {f : Addr} {fd : FuncData} (F : Fun K "along" "Flow.along" sFlow_along f fd) (T : Txt K mg) (ic : IsF K CF) : FnOk P w K mg base CX0 1 f fd ["self", "arc"] (spAlong CF) := by
  have cF := ic.cl
  refine F.ok scFlow_along (fun vs H Q E h => ?_) (fun cdv A outer s H vs Q E hr h => ?_)
  · obtain ⟨f, dx, a, rm, aL, aH, aR, rfl, _⟩ := h; rfl
  obtain ⟨f, dx, a, rm, aL, aH, aR, rfl, hf, hR, ha, k⟩ := h
  refine ⟨_, (pss_one (ps_ret (pe_ix (ixLK (K := K)) (peFK (K := K) (pv 0) rfl) (pe_op op_add (pv 1) pe_int) (fun _ _ => rfl)))), ?_⟩
  walk_at "s"
  exact r_ixI hR (i := a + 1) (by omega) (rg_at ha) k
end
end K33
set_option Elab.async false
set_option linter.all false
set_option maxRecDepth 100000
set_option maxHeartbeats 4000000
/-! K11: flows: what is met, ways, filled. -/
namespace K33
open PySem L2
/-! one step of a reading -/
local macro_rules | `(tactic| walk_at "look") => `(tactic| first | assumption | exact upd_same | (refine Same.at' (by assumption) ?_; walk_at "look"))
local macro_rules | `(tactic| walk_at "side") => `(tactic| first | exact .inr ⟨by decide, by decide⟩ | exact .inl ⟨by decide, by decide⟩ | (show (0 : Int) < _; decide) | exact ⟨by decide, by decide⟩ | omega)
local macro_rules | `(tactic| walk_at "tt") => `(tactic| first | assumption | exact decide_eq_true (by assumption) | exact decide_eq_true rfl | (rw [decide_eq_false (by assumption)]; rfl) | rfl | exact decide_eq_true (by omega) | (rw [decide_eq_false (by omega)]; rfl))
local macro_rules | `(tactic| walk_at "ff") => `(tactic| first | assumption | exact decide_eq_false (by assumption) | (rw [decide_eq_true (by assumption)]; rfl) | (rw [decide_eq_true rfl]; rfl) | rfl | exact decide_eq_false (by omega) | (rw [decide_eq_true (by omega)]; rfl))
local macro_rules | `(tactic| walk_at "fld") => `(tactic| fail)
local macro_rules | `(tactic| walk_at "s1") => `(tactic| first
  | with_reducible refine r_seq ?_
  | with_reducible refine r_asg ?_
  | with_reducible refine r_name ?_
  | ((with_reducible refine' r_var ?hv ?_); (case hv => exact rfl))
  | with_reducible refine r_c ?_
  | with_reducible refine r_op ?_
  | with_reducible refine r_un ?_
  | with_reducible refine r_neg ?_
  | with_reducible refine r_I0 ?_
  | ((with_reducible refine' r_I ?hc ?_); (case hc => walk_at "side"))
  | with_reducible refine r_eqI ?_
  | with_reducible refine r_neI ?_
  | with_reducible refine r_eqS ?_
  | with_reducible refine r_neS ?_
  | with_reducible refine r_B ?_
  | with_reducible refine r_test ?_
  | with_reducible refine r_chain ?_
  | with_reducible refine r_and ?_
  | with_reducible refine r_or ?_
  | with_reducible refine r_not ?_
  | with_reducible refine r_andV ?_
  | with_reducible refine r_orV ?_
  | with_reducible refine r_notV ?_
  | with_reducible refine r_nil ?_
  | with_reducible refine r_cons ?_
  | with_reducible refine r_call ?_
  | with_reducible refine r_CB ?_
  | with_reducible refine r_fld ?_
  | with_reducible refine r_tup ?_
  | walk_at "fld"
  | with_reducible refine r_lst ?_
  | with_reducible refine r_if ?_
  | with_reducible refine r_drop ?_
  | with_reducible refine r_ret ?_
  | with_reducible refine r_retN ?_
  | with_reducible refine r_next ?_
  | with_reducible refine r_cont ?_
  | with_reducible refine r_bm ?_
  | with_reducible refine r_gcons ?_
  | with_reducible refine r_gnil ?_
  | with_reducible refine r_for ?_
  | with_reducible refine r_lc ?_
  | with_reducible refine r_yes ?_
  | with_reducible refine r_iEnum ?_
  | with_reducible refine r_iList ?_
  | with_reducible refine r_iTup ?_
  | with_reducible refine r_iZip ?_
  | with_reducible refine r_iRng1 ?_
  | with_reducible refine r_iRng2 ?_
  | with_reducible refine r_din ?_
  | with_reducible refine r_dnotin ?_
  | with_reducible refine r_dget ?_
  | with_reducible refine r_dget2 ?_
  | with_reducible refine r_dput ?_
  | with_reducible refine r_dnewK ?_
  | with_reducible refine r_gsub ?_
  | ((with_reducible refine' r_dinL (Rd.of ?h) ?_); (case h => walk_at "look"))
  | ((with_reducible refine' r_isD (Rd.of ?h) ?_); (case h => walk_at "look"))
  | ((with_reducible refine' r_dget2L (Rd.of ?h) ?_); (case h => walk_at "look"))
  | ((with_reducible refine' r_dgetL (Rd.of ?h) ?e ?_); (case h => walk_at "look"); (case e => first | assumption | rfl))
  | ((with_reducible refine' r_dgetL (rd_frz ?h) ?e ?_); (case h => assumption); (case e => first | assumption | rfl))
  | ((with_reducible refine' r_lt2 ?h1 ?h2 ?_); (case h1 => walk_at "look"); (case h2 => walk_at "look"))
  | with_reducible refine r_sl ?_
  | with_reducible refine r_noPart ?_
  | with_reducible refine r_part ?_
  | with_reducible refine r_exi ?_
  | ((with_reducible refine' r_tyL ?h ?_); (case h => walk_at "look"))
  | with_reducible refine r_isN ?_
  | with_reducible refine r_notN ?_
  | with_reducible refine r_isB ?_
  | with_reducible refine r_notB ?_
  | with_reducible refine r_min2' ?_
  | with_reducible refine r_max2' ?_
  | with_reducible refine r_isi (.base (.int _)) kII ?_
  | with_reducible refine r_isi (.base (.int _)) kIB ?_
  | with_reducible refine r_isi (.base (.str _)) kSS ?_
  | with_reducible refine r_isi (.base (.bl _)) kBB ?_
  | ((with_reducible refine' r_isi (.base (.tup ?h)) kTT ?_); (case h => walk_at "look"))
  | ((with_reducible refine' r_isi (.base (.lst ?h)) kLL ?_); (case h => walk_at "look"))
  | ((with_reducible refine' r_lenS (Or.inr (SqT.of ?h)) ?_); (case h => walk_at "look"))
  | ((with_reducible refine' r_lenS (Or.inl (SqL.of ?h)) ?_); (case h => walk_at "look"))
  | ((with_reducible refine' r_ixT (SqT.of ?h) ?e ?_); (case h => walk_at "look"); (case e => rfl))
  | ((with_reducible refine' r_gtup (SqT.of ?h) ?e ?_); (case h => walk_at "look"); (case e => rfl))
  | ((with_reducible refine r_tlen ?e ?_); (case e => exact Nat.le_of_ble_eq_true rfl))
  | with_reducible refine r_iteT ?_
  | with_reducible refine r_iteF ?_
  | with_reducible refine r_exb2 ?_
  | ((with_reducible refine r_iteP ?hc ?_); (case hc => walk_at "tt"))
  | ((with_reducible refine r_iteN ?hc ?_); (case hc => walk_at "ff")))
local macro_rules | `(tactic| walk_at "s") => `(tactic| repeat (walk_at "s1"))

/-! fields and methods of this class -/
local macro_rules | `(tactic| walk_at "lk") => `(tactic| first | with_reducible exact pfF1_leaving _ | with_reducible exact pfF2_leaving _ _ | with_reducible exact pfF2_heads _ _ | with_reducible exact pfF3_leaving _ _ _ | with_reducible exact pfF3_heads _ _ _ | with_reducible exact pfF3_rooms _ _ _)
local macro_rules | `(tactic| walk_at "lookF") => `(tactic| first | with_reducible exact flF_leaving _ _ _ | with_reducible exact flF_heads _ _ _ | with_reducible exact flF_rooms _ _ _ | walk_at "lk")
local macro_rules | `(tactic| walk_at "noF") => `(tactic| first | with_reducible exact flF_no_put _ _ _ | with_reducible exact flF_no_along _ _ _ | with_reducible exact flF_no_met_from _ _ _ | with_reducible exact flF_no_way_to _ _ _ | with_reducible exact flF_no_fill _ _ _)
local macro_rules | `(tactic| walk_at "atF") => `(tactic| first | with_reducible exact IsF.n_leaving (by assumption) | with_reducible exact IsF.n_heads (by assumption) | with_reducible exact IsF.n_rooms (by assumption))
local macro_rules | `(tactic| walk_at "fld") => `(tactic| ((with_reducible refine' r_exf ?h (IsF.cl (by assumption)) ?n ?l ?_); (case h => walk_at "look"); (case n => walk_at "atF"); (case l => walk_at "lookF")))
local macro_rules | `(tactic| walk_at "fld") => `(tactic| ((with_reducible refine' r_methL ?h ?n ?_); (case h => walk_at "look"); (case n => walk_at "noF")))
local macro_rules | `(tactic| walk_at "fld") => `(tactic| with_reducible refine r_meth ?_)
local macro_rules | `(tactic| walk_at "fld") => `(tactic| with_reducible refine r_make ?_)
local macro_rules | `(tactic| walk_at "fld") => `(tactic| with_reducible refine r_fset ?_)

def oV : Option Nat → V
  | none => .non
  | some a => nV a
def encW (x : Nat × Option Nat) : Int × V := ((x.1 : Nat), oV x.2)
theorem encW_keys (ws : List (Nat × Option Nat)) : (ws.map encW).map (·.1) = ws.map fun x => ((x.1 : Nat) : Int) := by rw [List.map_map]; rfl
theorem encW_mem (ws : List (Nat × Option Nat)) (v : Nat) : ((v : Nat) : Int) ∈ (ws.map encW).map (·.1) ↔ v ∈ ws.map (·.1) := by
  rw [encW_keys]
  constructor
  · intro h
    obtain ⟨x, hx, e⟩ := List.mem_map.mp h
    exact List.mem_map.mpr ⟨x, hx, Int.ofNat.inj e⟩
  · intro h
    obtain ⟨x, hx, e⟩ := List.mem_map.mp h
    exact List.mem_map.mpr ⟨x, hx, by rw [e]⟩
theorem encW_in (ws : List (Nat × Option Nat)) (v : Nat) : (valV (kvI (ws.map encW)) (Sum.inl ((v : Nat) : Int))).isSome = decide (v ∈ ws.map (·.1)) := by
  rw [kvI_isSome]
  exact decide_eq_decide.mpr (encW_mem ws v)
theorem encW_nd {ws : List (Nat × Option Nat)} (h : (ws.map (·.1)).Nodup) : ((ws.map encW).map (·.1)).Nodup := by
  rw [encW_keys]
  have : (ws.map fun x => ((x.1 : Nat) : Int)) = (ws.map (·.1)).map fun n : Nat => (n : Int) := by rw [List.map_map]; rfl
  rw [this]
  rw [List.Nodup, List.pairwise_map]
  exact List.Pairwise.imp (fun hab e => hab (Int.ofNat.inj e)) h
theorem encW_get {ws : List (Nat × Option Nat)} (h : (ws.map (·.1)).Nodup) {i v : Nat} {o : Option Nat} (e : ws[i]? = some (v, o)) : valV (kvI (ws.map encW)) (Sum.inl ((v : Nat) : Int)) = some (oV o) :=
  kvI_some (encW_nd h) (by rw [List.getElem?_map, e]; rfl)
/-- Met, but what is left to be looked at -/
structure Met0 (hd : List Nat) (rm : List Int) (nodes start : Nat) (ws : List (Nat × Option Nat)) : Prop where
  nd : (ws.map (·.1)).Nodup
  first : ws[0]? = some (start, none)
  lt : ∀ w ∈ ws, w.1 < nodes
  arcs : ∀ (i : Nat) v o, ws[i]? = some (v, o) → 0 < i → ∃ a, o = some a ∧ a < hd.length ∧ 0 < rg rm a ∧ hh hd a = v ∧ ∃ j u, j < i ∧ ws[j]? = some (tl hd a, u)
theorem nodup_lt : ∀ {n : Nat} {l : List Nat}, l.Nodup → (∀ x ∈ l, x < n) → l.length ≤ n
  | 0, [], _, _ => Nat.le_refl 0
  | 0, a :: l, _, h => absurd (h a (by simp)) (Nat.not_lt_zero _)
  | n + 1, l, nd, h => by
    have h1 : (l.erase n).length ≤ n := nodup_lt (nd.erase n) (fun x hx => by
      have m := (nd.mem_erase_iff).mp hx
      have := h x m.2
      omega)
    have h2 := List.length_erase_le (a := n) (l := l)
    by_cases c : n ∈ l
    · have := List.length_erase_of_mem c
      omega
    · rw [List.erase_of_not_mem c] at h1
      omega
theorem Met0.len {hd : List Nat} {rm : List Int} {nodes start : Nat} {ws : List (Nat × Option Nat)} (m : Met0 hd rm nodes start ws) : ws.length ≤ nodes := by
  have := nodup_lt m.nd (fun x hx => by
    obtain ⟨w, hw, e⟩ := List.mem_map.mp hx
    rw [← e]
    exact m.lt w hw)
  rwa [List.length_map] at this
theorem Met0.snoc {hd : List Nat} {rm : List Int} {nodes start : Nat} {ws : List (Nat × Option Nat)} (m : Met0 hd rm nodes start ws) {a : Nat} (ha : a < hd.length) (hr : 0 < rg rm a) (hn : hh hd a < nodes) (new : hh hd a ∉ ws.map (·.1)) {j : Nat} {u : Option Nat} (hj : ws[j]? = some (tl hd a, u)) :
    Met0 hd rm nodes start (ws ++ [(hh hd a, some a)]) := by
  have h0 : 0 < ws.length := (List.getElem?_eq_some_iff.mp m.first).1
  refine ⟨?_, by rw [List.getElem?_append_left h0]; exact m.first, fun w hw => ?_, fun i v o h hi => ?_⟩
  · rw [List.map_append, List.nodup_append]
    exact ⟨m.nd, by simp, fun b hb c hc => by
      have : c = hh hd a := by simpa using hc
      subst this
      intro z
      subst z
      exact new hb⟩
  · rcases List.mem_append.mp hw with q | q
    · exact m.lt w q
    · have : w = (hh hd a, some a) := by simpa using q
      subst this
      exact hn
  · by_cases c : i < ws.length
    · rw [List.getElem?_append_left c] at h
      obtain ⟨b, b1, b2, b3, b4, k, z, b5, b6⟩ := m.arcs i v o h hi
      exact ⟨b, b1, b2, b3, b4, k, z, b5, by rw [List.getElem?_append_left (by omega)]; exact b6⟩
    · rw [List.getElem?_append_right (by omega)] at h
      have e : i = ws.length := by
        have := (List.getElem?_eq_some_iff.mp h).1
        simp at this
        omega
      subst e
      rw [Nat.sub_self] at h
      have h : (hh hd a, some a) = (v, o) := Option.some.inj h
      cases h
      have hjl := (List.getElem?_eq_some_iff.mp hj).1
      exact ⟨a, rfl, ha, hr, rfl, j, u, hjl, by rw [List.getElem?_append_left hjl]; exact hj⟩
section
variable {P : Program} {w : World} {K : PySem.W.Frag} {mg : Str → Option Value} {base : Heap} {CF : Addr}
def spMetFrom (CF : Addr) : Sp := fun vs H Q _ => ∃ (f : Addr) (start nodes : Nat) (hd : List Nat) (rm : List Int) (aL aH aR : Addr) (Ls : List Addr), vs = [.ref f, nV start] ∧ FlowAt CF H f nodes hd rm aL aH aR Ls ∧ start < nodes ∧ nodes ≤ 1000 ∧ (∀ a, a < hd.length → hh hd a < nodes) ∧
  ∀ d H' ws, H d = none → Same H H' → H' d = some (.dK (kvI (ws.map encW))) → Met hd rm nodes start ws → Q (.ref d) H'
theorem ok_met_from {f : Addr} {fd : FuncData} (F : Fun K "met_from" "Flow.met_from" sFlow_met_from f fd) (T : Txt K mg) (ic : IsF K CF) : FnOk P w K mg base CX0 1 f fd ["self", "start"] (spMetFrom CF) := by
  have cF := ic.cl
  refine F.ok scFlow_met_from (fun vs H Q E h => ?_) (fun cdv A outer s H vs Q E hr h => ?_)
  · obtain ⟨f, start, nodes, hd, rm, aL, aH, aR, Ls, rfl, _⟩ := h; rfl
  obtain ⟨f, start, nodes, hd, rm, aL, aH, aR, Ls, rfl, fl, hst, n1000, hlt, k⟩ := h
  obtain ⟨dx, hf⟩ := fl.obj
  have lH := fl.lH
  have lL := fl.lL
  have lR := fl.lR
  have nLs := fl.nL
  have lenR := fl.len
  refine ⟨_, (pss_cons (ps_set (i := 2) scFlow_met_from.nd rfl (Or.inl rfl) (pe_disp (pps_cons (pv 1) pe_non pps_nil) (by rfl) (by rfl) (fun z => by cases z) (by decide)))
 (pss_cons (ps_set (i := 3) scFlow_met_from.nd rfl (Or.inl rfl) (pe_lst (pa_cons (pv 1) pa_nil)))
 (pss_cons (ps_set (i := 4) scFlow_met_from.nd rfl (Or.inl rfl) pe_int)
 (pss_cons (ps_while PassesOwn.never (pt_cmpR op_lt (pv 4) (pe_callB (lenK (K := K)) (by rfl) T.fLen bt_len (pa_cons (pv 3) pa_nil)) (nomark _))
 (pss_cons (ps_for PassesOwn.never rfl (piLK (K := K) (pe_ix (ixLK (K := K)) (peFK (K := K) (pv 0) rfl) (pe_ix (ixLK (K := K)) (pv 3) (pv 4) (fun _ _ => rfl)) (fun _ _ => rfl))) (pg_name (i := 5) scFlow_met_from.nd rfl (Or.inl rfl))
 (pss_one (ps_if (PW.pt (pw_and (pt_cmpR op_gt (pe_ix (ixLK (K := K)) (peFK (K := K) (pv 0) rfl) (pv 5) (fun _ _ => rfl)) pe_int (nomark _)) (pw_and1 (pt_cmp (pc_dnotin (hu_of hr) (pe_ix (ixLK (K := K)) (peFK (K := K) (pv 0) rfl) (pv 5) (fun _ _ => rfl)) (pv 2))))))
 (pss_cons (ps_dput (hu_of hr) (pv 2) (pe_ix (ixLK (K := K)) (peFK (K := K) (pv 0) rfl) (pv 5) (fun _ _ => rfl)) (pv 5) rfl)
 (pss_one (ps_expr (peMK (K := K) PySem.F.plainAttrs_list PySem.F.slot_list_append PySem.F.type_list_append mt_append (pv 3) (pa_cons (pe_ix (ixLK (K := K)) (peFK (K := K) (pv 0) rfl) (pv 5) (fun _ _ => rfl)) pa_nil)))))
 pss_nil)))
 (pss_one (ps_set (i := 4) scFlow_met_from.nd rfl (Or.inl rfl) (pe_op op_add (pv 4) pe_int)))))
 (pss_one (ps_ret (pv 2))))))), ?_⟩
  walk_at "s"
  refine r_disp1 rfl (r_new fun d H1 nd s1 e1 => ?_)
  walk_at "s"
  refine r_new fun q H2 nq s2 e2 => ?_
  have nq0 := s1.free nq
  walk_at "s"
  let Wh : Nat → L2.St → Hp → Prop := fun m σ H' => ∃ (ws : List (Nat × Option Nat)) (at_ : Nat) (x : Option V), σ = [some (.ref f), some (nV start), some (.ref d), some (.ref q), some (nV at_), x] ∧ Same H H' ∧ H' d = some (.dK (kvI (ws.map encW))) ∧ H' q = some (.lst (ws.map fun x => nV x.1)) ∧
    Met0 hd rm nodes start ws ∧ at_ ≤ ws.length ∧ (∀ (i : Nat) v o, i < at_ → ws[i]? = some (v, o) → ∀ a, a < hd.length → tl hd a = v → 0 < rg rm a → hh hd a ∈ ws.map (·.1)) ∧ m = nodes - at_
  refine ⟨Wh, ⟨nodes, [(start, none)], 0, none, rfl, s1.trans s2, s2 _ _ e1, e2, ⟨by simp, rfl, fun w hw => by
    have : w = (start, none) := by simpa using hw
    subst this; exact hst, fun i v o h hi => by
    have := (List.getElem?_eq_some_iff.mp h).1
    simp at this
    omega⟩, Nat.zero_le _, fun i v o h => absurd h (Nat.not_lt_zero _), rfl⟩, ?_⟩
  rintro m σ H3 ⟨ws, at_, x, rfl, sm, hD, hq, met, hat, hcl, rfl⟩
  have lq : (ws.map fun x => nV x.1).length = ws.length := List.length_map ..
  have lw := met.len
  by_cases c : at_ < ws.length
  · walk_at "s"
    refine ⟨fun σ' H' => ∃ m', m' < nodes - at_ ∧ Wh m' σ' H', fun _ _ h => h, ?_⟩
    obtain ⟨v, o, hw⟩ : ∃ v o, ws[at_]? = some (v, o) := ⟨_, _, List.getElem?_eq_getElem c⟩
    have gq : (ws.map fun x => nV x.1)[at_]? = some (nV v) := by rw [List.getElem?_map, hw]; rfl
    have hv : v < Ls.length := by rw [nLs]; exact met.lt _ (List.mem_of_getElem? hw)
    have ev : Ls[v]? = some Ls[v] := List.getElem?_eq_getElem hv
    have gL : (Ls.map V.ref)[v]? = some (.ref Ls[v]) := by rw [List.getElem?_map, ev]; rfl
    obtain ⟨as, hAs, memA, lenA⟩ := fl.lv v _ ev
    have lL3 := sm _ _ lL
    have hf3 := sm _ _ hf
    walk_at "s"
    refine r_ixI hq rfl gq ?_
    refine r_ixI lL3 rfl gL ?_
    refine l_list (fun i σ H' => ∃ (ws' : List (Nat × Option Nat)) (x : Option V), σ = [some (.ref f), some (nV start), some (.ref d), some (.ref q), some (nV at_), x] ∧ Same H H' ∧ H' d = some (.dK (kvI (ws'.map encW))) ∧ H' q = some (.lst (ws'.map fun x => nV x.1)) ∧
        Met0 hd rm nodes start ws' ∧ (∃ ex, ws' = ws ++ ex) ∧ ∀ a ∈ as.take i, 0 < rg rm a → hh hd a ∈ ws'.map (·.1)) (sm _ _ hAs)
      ⟨ws, x, rfl, sm, hD, hq, met, ⟨[], by simp⟩, fun a h => by simp at h⟩ (fun i σ H' hi ⟨_, _, _, sm, _⟩ => sm _ _ hAs) ?_ ?_
    · rintro i y σ H4 hy ⟨ws', x2, rfl, sm4, hD4, hq4, met4, ⟨ex, ews⟩, hall⟩
      rw [List.getElem?_map] at hy
      obtain ⟨a, ha, rfl⟩ := Option.map_eq_some_iff.mp hy
      obtain ⟨al, at2⟩ := (memA a).mp (List.mem_of_getElem? ha)
      have hf4 := sm4 _ _ hf
      have lR4 := sm4 _ _ lR
      have lH4 := sm4 _ _ lH
      have nx : ∀ {ws2 : List (Nat × Option Nat)}, (∀ z ∈ ws'.map (·.1), z ∈ ws2.map (·.1)) → (0 < rg rm a → hh hd a ∈ ws2.map (·.1)) → ∀ b ∈ as.take (i + 1), 0 < rg rm b → hh hd b ∈ ws2.map (·.1) := fun {ws2} h1 h2 b hb hr => by
        rw [List.take_add_one, ha] at hb
        rcases List.mem_append.mp hb with m | m
        · exact h1 _ (hall b m hr)
        · have : b = a := by simpa using m
          rw [this] at hr ⊢
          exact h2 hr
      by_cases c1 : 0 < rg rm a
      · walk_at "s"
        refine r_ixI lR4 rfl (rg_at (by omega)) ?_
        walk_at "s"
        refine r_ixI lH4 rfl (hh_at al) ?_
        walk_at "s"
        rw [encW_in]
        by_cases c2 : hh hd a ∈ ws'.map (·.1)
        · walk_at "s"
          exact ⟨ws', _, rfl, sm4, hD4, hq4, met4, ⟨ex, ews⟩, nx (fun z h => h) (fun _ => c2)⟩
        · have l4 := met4.len
          walk_at "s"
          refine r_ixI lH4 rfl (hh_at al) ?_
          walk_at "s"
          refine r_dputL hD4 (sz_lt (by rw [kvI_len, List.length_map]; omega)) ?_
          have ep : putK (kvI (ws'.map encW)) (Sum.inl ((hh hd a : Nat) : Int)) (nV a) = kvI ((ws' ++ [(hh hd a, some a)]).map encW) := by
            rw [List.map_append]
            exact kvI_put (fun m => c2 ((encW_mem _ _).mp m))
          rw [ep]
          have dq : q ≠ d := ne_of hq4 hD4 (fun z => by cases z)
          have hqU : (upd H4 d (.dK (kvI ((ws' ++ [(hh hd a, some a)]).map encW)))) q = some (.lst (ws'.map fun x => nV x.1)) := by rw [upd_ne dq]; exact hq4
          have lHU : (upd H4 d (.dK (kvI ((ws' ++ [(hh hd a, some a)]).map encW)))) aH = some (.lst (hd.map nV)) := by rw [upd_ne (ne_of lH4 hD4 (fun z => by cases z))]; exact lH4
          have hfU : (upd H4 d (.dK (kvI ((ws' ++ [(hh hd a, some a)]).map encW)))) f = some (.ins CF dx (flF (.ref aL) (.ref aH) (.ref aR))) := by rw [upd_ne (ne_of hf4 hD4 (fun z => by cases z))]; exact hf4
          have hDU : (upd H4 d (.dK (kvI ((ws' ++ [(hh hd a, some a)]).map encW)))) d = some (.dK (kvI ((ws' ++ [(hh hd a, some a)]).map encW))) := upd_same
          have smU : Same H (upd H4 d (.dK (kvI ((ws' ++ [(hh hd a, some a)]).map encW)))) := sm_mut sm4 nd
          generalize upd H4 d (.dK (kvI ((ws' ++ [(hh hd a, some a)]).map encW))) = H5 at hqU lHU hfU hDU smU ⊢
          walk_at "s"
          refine r_ixI lHU rfl (hh_at al) ?_
          walk_at "s"
          refine r_append hqU (by rw [List.length_map]; omega) ?_
          have hj : ws'[at_]? = some (tl hd a, o) := by rw [ews, List.getElem?_append_left c, hw, at2]
          refine ⟨ws' ++ [(hh hd a, some a)], _, rfl, sm_mut smU nq0, by rw [upd_ne dq.symm]; exact hDU, by rw [upd_same, List.map_append]; rfl, met4.snoc al c1 (hlt a al) c2 hj, ⟨ex ++ [(hh hd a, some a)], by rw [ews, List.append_assoc]⟩, nx (fun z h => ?_) (fun _ => ?_)⟩
          · rw [List.map_append]; exact List.mem_append.mpr (.inl h)
          · rw [List.map_append]; exact List.mem_append.mpr (.inr (by simp))
      · walk_at "s"
        refine r_ixI lR4 rfl (rg_at (by omega)) ?_
        walk_at "s"
        exact ⟨ws', _, rfl, sm4, hD4, hq4, met4, ⟨ex, ews⟩, nx (fun z h => h) (fun h => absurd h c1)⟩
    · rintro σ H4 ⟨ws', x2, rfl, sm4, hD4, hq4, met4, ⟨ex, ews⟩, hall⟩
      have lt : as.take (as.map nV).length = as := List.take_of_length_le (by rw [List.length_map]; exact Nat.le_refl _)
      rw [lt] at hall
      have l4 := met4.len
      have lx : ws.length ≤ ws'.length := by rw [ews, List.length_append]; omega
      walk_at "s"
      refine ⟨nodes - (at_ + 1), by omega, ws', at_ + 1, _, rfl, sm4, hD4, hq4, met4, by omega, fun i v2 o2 hi hv2 a ha ht hr => ?_, rfl⟩
      by_cases ci : i < at_
      · rw [ews, List.getElem?_append_left (by omega)] at hv2
        have := hcl i v2 o2 ci hv2 a ha ht hr
        rw [ews, List.map_append]
        exact List.mem_append.mpr (.inl this)
      · have : i = at_ := by omega
        subst this
        rw [ews, List.getElem?_append_left c, hw] at hv2
        cases hv2
        exact hall a ((memA a).mpr ⟨ha, ht⟩) hr
  · walk_at "s"
    refine k d H3 ws nd sm hD ⟨met.nd, met.first, met.lt, met.arcs, fun v hv a ha ht hr => ?_⟩
    obtain ⟨w, hw, e⟩ := List.mem_map.mp hv
    obtain ⟨i, hi⟩ := List.getElem?_of_mem hw
    have := (List.getElem?_eq_some_iff.mp hi).1
    exact hcl i w.1 w.2 (by omega) hi a ha (by rw [ht, e]) hr
end
end K33
set_option Elab.async false
set_option linter.all false
set_option maxRecDepth 100000
set_option maxHeartbeats 4000000
/-! K12: flows: ways, filled. -/
namespace K33
open PySem L2
/-! one step of a reading -/
local macro_rules | `(tactic| walk_at "look") => `(tactic| first | assumption | exact upd_same | (refine Same.at' (by assumption) ?_; walk_at "look"))
local macro_rules | `(tactic| walk_at "side") => `(tactic| first | exact .inr ⟨by decide, by decide⟩ | exact .inl ⟨by decide, by decide⟩ | (show (0 : Int) < _; decide) | exact ⟨by decide, by decide⟩ | omega)
local macro_rules | `(tactic| walk_at "tt") => `(tactic| first | assumption | exact decide_eq_true (by assumption) | exact decide_eq_true rfl | (rw [decide_eq_false (by assumption)]; rfl) | rfl | exact decide_eq_true (by omega) | (rw [decide_eq_false (by omega)]; rfl))
local macro_rules | `(tactic| walk_at "ff") => `(tactic| first | assumption | exact decide_eq_false (by assumption) | (rw [decide_eq_true (by assumption)]; rfl) | (rw [decide_eq_true rfl]; rfl) | rfl | exact decide_eq_false (by omega) | (rw [decide_eq_true (by omega)]; rfl))
local macro_rules | `(tactic| walk_at "fld") => `(tactic| fail)
local macro_rules | `(tactic| walk_at "s1") => `(tactic| first
  | with_reducible refine r_seq ?_
  | with_reducible refine r_asg ?_
  | with_reducible refine r_name ?_
  | ((with_reducible refine' r_var ?hv ?_); (case hv => exact rfl))
  | with_reducible refine r_c ?_
  | with_reducible refine r_op ?_
  | with_reducible refine r_un ?_
  | with_reducible refine r_neg ?_
  | with_reducible refine r_I0 ?_
  | ((with_reducible refine' r_I ?hc ?_); (case hc => walk_at "side"))
  | with_reducible refine r_eqI ?_
  | with_reducible refine r_neI ?_
  | with_reducible refine r_eqS ?_
  | with_reducible refine r_neS ?_
  | with_reducible refine r_B ?_
  | with_reducible refine r_test ?_
  | with_reducible refine r_chain ?_
  | with_reducible refine r_and ?_
  | with_reducible refine r_or ?_
  | with_reducible refine r_not ?_
  | with_reducible refine r_andV ?_
  | with_reducible refine r_orV ?_
  | with_reducible refine r_notV ?_
  | with_reducible refine r_nil ?_
  | with_reducible refine r_cons ?_
  | with_reducible refine r_call ?_
  | with_reducible refine r_CB ?_
  | with_reducible refine r_fld ?_
  | with_reducible refine r_tup ?_
  | walk_at "fld"
  | with_reducible refine r_lst ?_
  | with_reducible refine r_if ?_
  | with_reducible refine r_drop ?_
  | with_reducible refine r_ret ?_
  | with_reducible refine r_retN ?_
  | with_reducible refine r_next ?_
  | with_reducible refine r_cont ?_
  | with_reducible refine r_bm ?_
  | with_reducible refine r_gcons ?_
  | with_reducible refine r_gnil ?_
  | with_reducible refine r_for ?_
  | with_reducible refine r_lc ?_
  | with_reducible refine r_yes ?_
  | with_reducible refine r_iEnum ?_
  | with_reducible refine r_iList ?_
  | with_reducible refine r_iTup ?_
  | with_reducible refine r_iZip ?_
  | with_reducible refine r_iRng1 ?_
  | with_reducible refine r_iRng2 ?_
  | with_reducible refine r_din ?_
  | with_reducible refine r_dnotin ?_
  | with_reducible refine r_dget ?_
  | with_reducible refine r_dget2 ?_
  | with_reducible refine r_dput ?_
  | with_reducible refine r_dnewK ?_
  | with_reducible refine r_gsub ?_
  | ((with_reducible refine' r_dinL (Rd.of ?h) ?_); (case h => walk_at "look"))
  | ((with_reducible refine' r_isD (Rd.of ?h) ?_); (case h => walk_at "look"))
  | ((with_reducible refine' r_dget2L (Rd.of ?h) ?_); (case h => walk_at "look"))
  | ((with_reducible refine' r_dgetL (Rd.of ?h) ?e ?_); (case h => walk_at "look"); (case e => first | assumption | rfl))
  | ((with_reducible refine' r_dgetL (rd_frz ?h) ?e ?_); (case h => assumption); (case e => first | assumption | rfl))
  | ((with_reducible refine' r_lt2 ?h1 ?h2 ?_); (case h1 => walk_at "look"); (case h2 => walk_at "look"))
  | with_reducible refine r_sl ?_
  | with_reducible refine r_noPart ?_
  | with_reducible refine r_part ?_
  | with_reducible refine r_exi ?_
  | ((with_reducible refine' r_tyL ?h ?_); (case h => walk_at "look"))
  | with_reducible refine r_isN ?_
  | with_reducible refine r_notN ?_
  | with_reducible refine r_isB ?_
  | with_reducible refine r_notB ?_
  | with_reducible refine r_min2' ?_
  | with_reducible refine r_max2' ?_
  | with_reducible refine r_isi (.base (.int _)) kII ?_
  | with_reducible refine r_isi (.base (.int _)) kIB ?_
  | with_reducible refine r_isi (.base (.str _)) kSS ?_
  | with_reducible refine r_isi (.base (.bl _)) kBB ?_
  | ((with_reducible refine' r_isi (.base (.tup ?h)) kTT ?_); (case h => walk_at "look"))
  | ((with_reducible refine' r_isi (.base (.lst ?h)) kLL ?_); (case h => walk_at "look"))
  | ((with_reducible refine' r_lenS (Or.inr (SqT.of ?h)) ?_); (case h => walk_at "look"))
  | ((with_reducible refine' r_lenS (Or.inl (SqL.of ?h)) ?_); (case h => walk_at "look"))
  | ((with_reducible refine' r_ixT (SqT.of ?h) ?e ?_); (case h => walk_at "look"); (case e => rfl))
  | ((with_reducible refine' r_gtup (SqT.of ?h) ?e ?_); (case h => walk_at "look"); (case e => rfl))
  | ((with_reducible refine r_tlen ?e ?_); (case e => exact Nat.le_of_ble_eq_true rfl))
  | with_reducible refine r_iteT ?_
  | with_reducible refine r_iteF ?_
  | with_reducible refine r_exb2 ?_
  | ((with_reducible refine r_iteP ?hc ?_); (case hc => walk_at "tt"))
  | ((with_reducible refine r_iteN ?hc ?_); (case hc => walk_at "ff")))
local macro_rules | `(tactic| walk_at "s") => `(tactic| repeat (walk_at "s1"))

/-! fields and methods of this class -/
local macro_rules | `(tactic| walk_at "lk") => `(tactic| first | with_reducible exact pfF1_leaving _ | with_reducible exact pfF2_leaving _ _ | with_reducible exact pfF2_heads _ _ | with_reducible exact pfF3_leaving _ _ _ | with_reducible exact pfF3_heads _ _ _ | with_reducible exact pfF3_rooms _ _ _)
local macro_rules | `(tactic| walk_at "lookF") => `(tactic| first | with_reducible exact flF_leaving _ _ _ | with_reducible exact flF_heads _ _ _ | with_reducible exact flF_rooms _ _ _ | walk_at "lk")
local macro_rules | `(tactic| walk_at "noF") => `(tactic| first | with_reducible exact flF_no_put _ _ _ | with_reducible exact flF_no_along _ _ _ | with_reducible exact flF_no_met_from _ _ _ | with_reducible exact flF_no_way_to _ _ _ | with_reducible exact flF_no_fill _ _ _)
local macro_rules | `(tactic| walk_at "atF") => `(tactic| first | with_reducible exact IsF.n_leaving (by assumption) | with_reducible exact IsF.n_heads (by assumption) | with_reducible exact IsF.n_rooms (by assumption))
local macro_rules | `(tactic| walk_at "fld") => `(tactic| ((with_reducible refine' r_exf ?h (IsF.cl (by assumption)) ?n ?l ?_); (case h => walk_at "look"); (case n => walk_at "atF"); (case l => walk_at "lookF")))
local macro_rules | `(tactic| walk_at "fld") => `(tactic| ((with_reducible refine' r_methL ?h ?n ?_); (case h => walk_at "look"); (case n => walk_at "noF")))
local macro_rules | `(tactic| walk_at "fld") => `(tactic| with_reducible refine r_meth ?_)
local macro_rules | `(tactic| walk_at "fld") => `(tactic| with_reducible refine r_make ?_)
local macro_rules | `(tactic| walk_at "fld") => `(tactic| with_reducible refine r_fset ?_)

section
variable {P : Program} {w : World} {K : PySem.W.Frag} {mg : Str → Option Value} {base : Heap} {CF : Addr}
def spWayTo (CF : Addr) : Sp := fun vs H Q _ => ∃ (f d dx : Addr) (e start nodes : Nat) (hd : List Nat) (rm : List Int) (aL aH aR : Addr) (ws : List (Nat × Option Nat)), vs = [.ref f, .ref d, nV e] ∧ H f = some (.ins CF dx (flF (.ref aL) (.ref aH) (.ref aR))) ∧ H aH = some (.lst (hd.map nV)) ∧ hd.length % 2 = 0 ∧
  H d = some (.dK (kvI (ws.map encW))) ∧ Met hd rm nodes start ws ∧ e ∈ ws.map (·.1) ∧ e ≠ start ∧ nodes ≤ 1000 ∧
  ∀ p H' as, H p = none → Same H H' → H' p = some (.lst (as.map nV)) → Way hd e as start → as.Nodup → as ≠ [] → as.length ≤ 1000 → (∀ a ∈ as, a < hd.length ∧ 0 < rg rm a) → Q (.ref p) H'
theorem ok_way_to {f : Addr} {fd : FuncData} (F : Fun K "way_to" "Flow.way_to" sFlow_way_to f fd) (T : Txt K mg) (ic : IsF K CF) (C_partner : Can P w K mg base 1 "partner" ["arc"] spPartner) : FnOk P w K mg base CX0 2 f fd ["self", "found", "end"] (spWayTo CF) := by
  have cF := ic.cl
  refine F.ok scFlow_way_to (fun vs H Q E h => ?_) (fun cdv A outer s H vs Q E hr h => ?_)
  · obtain ⟨f, d, dx, e, start, nodes, hd, rm, aL, aH, aR, ws, rfl, _⟩ := h; rfl
  obtain ⟨f, d, dx, e, start, nodes, hd, rm, aL, aH, aR, ws, rfl, hf, lH, even, hD, met, he, nes, n1000, k⟩ := h
  obtain ⟨⟨ev, eo⟩, hew, eE⟩ := List.mem_map.mp he
  have eE : ev = e := eE
  subst eE
  obtain ⟨i0, hi0⟩ := List.getElem?_of_mem hew
  have lw : ws.length ≤ nodes := Met0.len ⟨met.nd, met.first, met.lt, met.arcs⟩
  have g0 := encW_get met.nd hi0
  refine ⟨_, (pss_cons (ps_set (i := 3) scFlow_way_to.nd rfl (Or.inl rfl) (pe_lst pa_nil))
 (pss_cons (ps_set (i := 4) scFlow_way_to.nd rfl (Or.inl rfl) (pe_dget (hu_of hr) (pv 1) (pv 2) (fun _ _ => rfl)))
 (pss_cons (ps_while PassesOwn.never (pt_cmp (pc_notN (pv 4)))
 (pss_cons (ps_expr (peMK (K := K) PySem.F.plainAttrs_list PySem.F.slot_list_append PySem.F.type_list_append mt_append (pv 3) (pa_cons (pv 4) pa_nil)))
 (pss_one (ps_set (i := 4) scFlow_way_to.nd rfl (Or.inl rfl) (pe_dget (hu_of hr) (pv 1) (pe_ix (ixLK (K := K)) (peFK (K := K) (pv 0) rfl) (pc_can C_partner (hr.mono (by decide)) rfl (pa_cons (pv 4) pa_nil)) (fun _ _ => rfl)) (fun _ _ => rfl))))))
 (pss_one (ps_ret (pv 3)))))), ?_⟩
  walk_at "s"
  refine r_new fun p H1 np s1 e1 => ?_
  have hD1 := s1 _ _ hD
  walk_at "s"
  let Wh : Nat → L2.St → Hp → Prop := fun m σ H' => ∃ (v : Nat) (o : Option Nat) (as : List Nat), σ = [some (.ref f), some (.ref d), some (nV ev), some (.ref p), some (oV o)] ∧ ws[m]? = some (v, o) ∧ Same H H' ∧ H' p = some (.lst (as.map nV)) ∧ Way hd ev as v ∧ as.Nodup ∧ as.length + m ≤ 1000 ∧ (as = [] → v = ev) ∧
    ∀ a ∈ as, a < hd.length ∧ 0 < rg rm a ∧ ∃ j o', m < j ∧ ws[j]? = some (hh hd a, o')
  refine ⟨Wh, ⟨i0, ev, eo, [], rfl, hi0, s1, e1, rfl, List.nodup_nil, by have := (List.getElem?_eq_some_iff.mp hi0).1; simp; omega, fun _ => rfl, fun a h => by cases h⟩, ?_⟩
  rintro m σ H2 ⟨v, o, as, rfl, hm, sm, hp, way, nd, l1000, hnil, hall⟩
  cases o with
  | none =>
    walk_at "s"
    have hv : v = start := by
      by_cases c : m = 0
      · subst c
        rw [met.first] at hm
        cases hm
        rfl
      · obtain ⟨a, e, _⟩ := met.arcs m v none hm (by omega)
        cases e
    subst hv
    refine k p H2 as np sm hp way nd (fun z => nes (hnil z).symm) (by omega) fun a ha => ⟨(hall a ha).1, (hall a ha).2.1⟩
  | some a =>
    have m0 : 0 < m := by
      by_cases c : m = 0
      · subst c
        rw [met.first] at hm
        cases hm
      · omega
    obtain ⟨a', ea, al, ar, ah, j, u, hj, hjw⟩ := met.arcs m v (some a) hm m0
    cases ea
    have hf2 := sm _ _ hf
    have lH2 := sm _ _ lH
    have hD2 := sm _ _ hD
    show tB _ _ _ _
    refine r_B (r_notN (r_var rfl ?_))
    refine r_exb3 (b' := true) rfl (r_iteT ?_)
    refine ⟨fun σ' H' => ∃ m', m' < m ∧ Wh m' σ' H', fun _ _ h => h, ?_⟩
    walk_at "s"
    refine r_append hp (by rw [List.length_map]; omega) ?_
    have hfU : (upd H2 p (.lst (as.map nV ++ [oV (some a)]))) f = some (.ins CF dx (flF (.ref aL) (.ref aH) (.ref aR))) := by rw [upd_ne (ne_of hf2 hp (fun z => by cases z))]; exact hf2
    have hpn : aH ≠ p := ne_of_none lH np
    have lHU : (upd H2 p (.lst (as.map nV ++ [oV (some a)]))) aH = some (.lst (hd.map nV)) := by rw [upd_ne hpn]; exact lH2
    have hDU : (upd H2 p (.lst (as.map nV ++ [oV (some a)]))) d = some (.dK (kvI (ws.map encW))) := by rw [upd_ne (ne_of hD2 hp (fun z => by cases z))]; exact hD2
    have hpU : (upd H2 p (.lst (as.map nV ++ [oV (some a)]))) p = some (.lst ((as ++ [a]).map nV)) := by rw [upd_same, List.map_append]; rfl
    have smU : Same H (upd H2 p (.lst (as.map nV ++ [oV (some a)]))) := sm_mut sm np
    generalize upd H2 p (.lst (as.map nV ++ [oV (some a)])) = H3 at hfU lHU hDU hpU smU ⊢
    walk_at "s"
    refine ⟨a, rfl, ?_⟩
    walk_at "s"
    refine r_ixI lHU rfl (hh_at (par_lt even al)) ?_
    rw [hh_par]
    have gj := encW_get met.nd hjw
    walk_at "s"
    refine ⟨j, hj, tl hd a, u, as ++ [a], rfl, hjw, smU, hpU, way.snoc ah, ?_, by rw [List.length_append]; show as.length + 1 + j ≤ 1000; omega, fun z => by simp at z, fun b hb => ?_⟩
    · rw [List.nodup_append]
      exact ⟨nd, by simp, fun b hb c hc => by
        have : c = a := by simpa using hc
        subst this
        intro z
        subst z
        obtain ⟨_, _, j2, o2, hj2, hw2⟩ := hall b hb
        rw [ah] at hw2
        have := nd_ix (l := ws.map (·.1)) met.nd (i := m) (j := j2) (x := v) (by rw [List.getElem?_map, hm]; rfl) (by rw [List.getElem?_map, hw2]; rfl)
        omega⟩
    · rcases List.mem_append.mp hb with q | q
      · obtain ⟨b1, b2, j2, o2, hj2, hw2⟩ := hall b q
        exact ⟨b1, b2, j2, o2, by omega, hw2⟩
      · have : b = a := by simpa using q
        subst this
        exact ⟨al, ar, m, some b, hj, by rw [ah]; exact hm⟩
/-- what the filling keeps -/
structure Filled (hd : List Nat) (rm rm' : List Int) (s e : Nat) : Prop where
  len : rm'.length = rm.length
  nn : ∀ a, 0 ≤ rg rm' a
  pair : ∀ b, rg rm' b + rg rm' (par b) = rg rm b + rg rm (par b)
  cons : ∀ v, v ≠ s → v ≠ e → S hd rm' v = S hd rm v
theorem FlowAt.rooms {H H' : Hp} {f : Addr} {nodes : Nat} {hd : List Nat} {rm rm' : List Int} {aL aH aR : Addr} {Ls : List Addr} (h : FlowAt CF H f nodes hd rm aL aH aR Ls) (k : ∀ b o, b ≠ aR → H b = some o → H' b = some o) (e : H' aR = some (.lst (rm'.map V.int))) (l : rm'.length = rm.length) : FlowAt CF H' f nodes hd rm' aL aH aR Ls :=
  ⟨let ⟨dx, q⟩ := h.obj; ⟨dx, k _ _ (ne_of q h.lR (fun z => by cases z)) q⟩, k _ _ h.LR h.lL, h.nL, k _ _ h.HR h.lH, e, l.trans h.len, h.even, fun v l hl => let ⟨as, a, b, c⟩ := h.lv v l hl; ⟨as, k _ _ (fun z => h.nR (by rw [← z]; exact List.mem_of_getElem? hl)) a, b, c⟩, h.nd, h.nH, h.nR, h.nLL, h.HR, h.LH, h.LR⟩
def spFill (CF : Addr) : Sp := fun vs H Q _ => ∃ (f : Addr) (s e nodes : Nat) (hd : List Nat) (rm : List Int) (aL aH aR : Addr) (Ls : List Addr), vs = [.ref f, nV s, nV e] ∧ FlowAt CF H f nodes hd rm aL aH aR Ls ∧ s < nodes ∧ s ≠ e ∧ nodes ≤ 1000 ∧ (∀ a, a < hd.length → hh hd a < nodes) ∧ (∀ a, 0 ≤ rg rm a) ∧
  ∀ H' rm', FlowAt CF H' f nodes hd rm' aL aH aR Ls → (∀ b o, b ≠ aR → H b = some o → H' b = some o) → Filled hd rm rm' s e → (∃ ws, Met hd rm' nodes s ws ∧ e ∉ ws.map (·.1)) → Q .non H'
theorem ok_fill {f : Addr} {fd : FuncData} (F : Fun K "fill" "Flow.fill" sFlow_fill f fd) (T : Txt K mg) (ic : IsF K CF) (C_partner : Can P w K mg base 1 "partner" ["arc"] spPartner)
    (CM_met_from : CanM P w K mg base CF 1 "met_from" ["self", "start"] (spMetFrom CF)) (CM_way_to : CanM P w K mg base CF 2 "way_to" ["self", "found", "end"] (spWayTo CF)) : FnOk P w K mg base CX0 3 f fd ["self", "start", "end"] (spFill CF) := by
  have cF := ic.cl
  refine F.ok scFlow_fill (fun vs H Q E h => ?_) (fun cdv A outer s H vs Q E hr h => ?_)
  · obtain ⟨f, s, e, nodes, hd, rm, aL, aH, aR, Ls, rfl, _⟩ := h; rfl
  obtain ⟨f, s, e, nodes, hd, rm, aL, aH, aR, Ls, rfl, fl, hs, nse, n1000, hlt, nn, k⟩ := h
  obtain ⟨dx, hf⟩ := fl.obj
  refine ⟨_, (pss_cons (ps_set (i := 3) scFlow_fill.nd rfl (Or.inl rfl) (pc_meth (pv 0) cF CM_met_from (hr.mono (by decide)) (pa_cons (pv 1) pa_nil)))
 (pss_one (ps_while PassesOwn.never (pt_cmp (pc_din (hu_of hr) (pv 2) (pv 3)))
 (pss_cons (ps_set (i := 4) scFlow_fill.nd rfl (Or.inl rfl) (pc_meth (pv 0) cF CM_way_to (hr.mono (by decide)) (pa_cons (pv 3) (pa_cons (pv 2) pa_nil))))
 (pss_cons (ps_set (i := 6) scFlow_fill.nd rfl (Or.inl rfl) (pe_callB (minK (K := K) rfl) (by rfl) T.fMin bt_min (pa_cons (pe_lc (own := [("arc", 5)]) rfl scFlow_fill.nd (piLK (K := K) (pv 4)) (blkOk_by (own := [("arc", 5)]) (N := ["self", "start", "end", "found", "arcs", "arc", "amount"]) (sc := defScope sFlow_fill) (by decide +kernel)) (fun _ _ _ _ _ => (pg_name (i := 5) scFlow_fill.nd rfl (Or.inl rfl))) (fun _ _ _ _ _ => pts_nil) (fun _ _ _ _ _ => (pe_ix (ixLK (K := K)) (peFK (K := K) (pv 0) rfl) (pv 5) (fun _ _ => rfl)))) pa_nil)))
 (pss_cons (ps_for PassesOwn.never rfl (piLK (K := K) (pv 4)) (pg_name (i := 5) scFlow_fill.nd rfl (Or.inl rfl))
 (pss_cons (ps_asg (pe_op op_sub (pe_ix (ixLK (K := K)) (peFK (K := K) (pv 0) rfl) (pv 5) (fun _ _ => rfl)) (pv 6)) (pg_sub (peFK (K := K) (pv 0) rfl) (pv 5) set_list))
 (pss_one (ps_asg (pe_op op_add (pe_ix (ixLK (K := K)) (peFK (K := K) (pv 0) rfl) (pc_can C_partner (hr.mono (by decide)) rfl (pa_cons (pv 5) pa_nil)) (fun _ _ => rfl)) (pv 6)) (pg_sub (peFK (K := K) (pv 0) rfl) (pc_can C_partner (hr.mono (by decide)) rfl (pa_cons (pv 5) pa_nil)) set_list)))))
 (pss_one (ps_set (i := 3) scFlow_fill.nd rfl (Or.inl rfl) (pc_meth (pv 0) cF CM_met_from (hr.mono (by decide)) (pa_cons (pv 1) pa_nil)))))))))), ?_⟩
  walk_at "s"
  refine ⟨f, s, nodes, hd, rm, aL, aH, aR, Ls, rfl, fl, hs, n1000, hlt, fun d H1 ws nd s1 hD met => ?_⟩
  walk_at "s"
  let Wh : Nat → L2.St → Hp → Prop := fun m σ H' => ∃ (rm' : List Int) (d : Addr) (ws : List (Nat × Option Nat)) (x y z : Option V), σ = [some (.ref f), some (nV s), some (nV e), some (.ref d), x, y, z] ∧ FlowAt CF H' f nodes hd rm' aL aH aR Ls ∧ (∀ b o, b ≠ aR → H b = some o → H' b = some o) ∧
    Filled hd rm rm' s e ∧ H' d = some (.dK (kvI (ws.map encW))) ∧ Met hd rm' nodes s ws ∧ m = (S hd rm' s).toNat
  refine ⟨Wh, ⟨_, rm, d, ws, _, _, _, rfl, fl.sm s1, fun b o _ h => s1 _ _ h, ⟨rfl, nn, fun _ => rfl, fun _ _ _ => rfl⟩, hD, met, rfl⟩, ?_⟩
  rintro m σ H2 ⟨rm', d, ws, x, y, z, rfl, fl2, fr, fil, hD2, met2, rfl⟩
  have hf2 := fr _ _ (ne_of hf fl.lR (fun z => by cases z)) hf
  have lw : ws.length ≤ nodes := Met0.len ⟨met2.nd, met2.first, met2.lt, met2.arcs⟩
  walk_at "s"
  rw [encW_in]
  by_cases c : e ∈ ws.map (·.1)
  · walk_at "s"
    refine ⟨fun σ' H' => ∃ m', m' < (S hd rm' s).toNat ∧ Wh m' σ' H', fun _ _ h => h, ?_⟩
    walk_at "s"
    refine ⟨f, d, dx, e, s, nodes, hd, rm', aL, aH, aR, ws, rfl, hf2, fl2.lH, fl2.even, hD2, met2, c, fun q => nse q.symm, n1000, fun p H3 as np s3 hp way nda nnil l1000 hall => ?_⟩
    have fl3 := fl2.sm s3
    have lR3 := fl3.lR
    have hf3 := s3 _ _ hf2
    have lp : (as.map nV).length = as.length := List.length_map ..
    have len3 := fl3.len
    walk_at "s"
    refine k_list (fun i acc G => acc = (as.take i).map fun a => V.int (rg rm' a)) hp (fun _ => by simp) ?_ ?_
    · intro D i x acc H' nD hx sm hD eA
      rw [List.getElem?_map] at hx
      obtain ⟨a, ha, rfl⟩ := Option.map_eq_some_iff.mp hx
      have al := (hall a (List.mem_of_getElem? ha)).1
      have hf' := sm _ _ hf3
      have lR' := sm _ _ lR3
      walk_at "s"
      refine ⟨rfl, ?_⟩
      walk_at "s"
      refine r_ixI lR' rfl (rg_at (by omega)) ?_
      have hl : acc.length ≤ 1000 := by rw [eA, List.length_map, List.length_take]; omega
      refine c_end (fun _ _ _ _ _ _ _ h => h) nD sm hD (by omega) ?_
      rw [eA, List.take_add_one, ha]
      simp
    · intro D acc H4 nD s4 hD eA
      rw [List.take_of_length_le (by omega)] at eA
      have e5 : acc = (as.map fun a => rg rm' a).map V.int := by rw [eA, List.map_map]; rfl
      rw [e5] at hD
      walk_at "s"
      refine ⟨D, _, rfl, SqL.of hD, ?_, fun amt hm hle => ?_⟩
      · rw [List.length_map]
        cases as with
        | nil => exact absurd rfl nnil
        | cons a r => exact Nat.succ_pos _
      have le : ∀ a ∈ as, amt ≤ rg rm' a := fun a ha => hle _ (List.mem_map.mpr ⟨a, ha, rfl⟩)
      have pos : 0 < amt := by
        obtain ⟨a, ha, ea⟩ := List.mem_map.mp hm
        rw [← ea]
        exact (hall a ha).2
      have hp4 := s4 _ _ hp
      have fl4 := fl3.sm s4
      have ev' : rm'.length % 2 = 0 := by rw [fl2.len]; exact fl2.even
      have als : ∀ a ∈ as, a < rm'.length := fun a ha => by rw [fl2.len]; exact (hall a ha).1
      have npR : p ≠ aR := (ne_of_none fl2.lR np).symm
      walk_at "s"
      refine l_list (fun i σ H' => ∃ (x : Option V), σ = [some (.ref f), some (nV s), some (nV e), some (.ref d), some (.ref p), x, some (.int amt)] ∧ FlowAt CF H' f nodes hd (pushAll rm' (as.take i) amt) aL aH aR Ls ∧ (∀ b o, b ≠ aR → H4 b = some o → H' b = some o)) hp4
        ⟨_, rfl, fl4, fun b o _ h => h⟩ (fun i σ H' hi ⟨_, _, _, q⟩ => q _ _ npR hp4) ?_ ?_
      · rintro i x2 σ H5 hx ⟨x3, rfl, fl5, fr5⟩
        rw [List.getElem?_map] at hx
        obtain ⟨a, ha, rfl⟩ := Option.map_eq_some_iff.mp hx
        have al := (hall a (List.mem_of_getElem? ha)).1
        obtain ⟨dx5, hf5⟩ := fl5.obj
        have lR5 := fl5.lR
        have len5 := fl5.len
        have even5 := fl5.even
        walk_at "s"
        refine r_ixI lR5 rfl (rg_at (by omega)) ?_
        walk_at "s"
        refine r_setL lR5 rfl (by rw [List.length_map]; omega) fun H6 q6 e6 => ?_
        have hf6 : H6 f = _ := (q6 f (ne_of hf5 lR5 (fun z => by cases z))).trans hf5
        have e6' : H6 aR = some (.lst (((pushAll rm' (as.take i) amt).set a (rg (pushAll rm' (as.take i) amt) a - amt)).map V.int)) := by rw [e6, List.map_set]
        have pa := par_lt (m := hd.length) even5 al
        walk_at "s"
        refine ⟨a, rfl, ?_⟩
        walk_at "s"
        refine r_ixI e6' rfl (rg_at (by rw [List.length_set]; omega)) ?_
        walk_at "s"
        refine ⟨a, rfl, ?_⟩
        walk_at "s"
        refine r_setL e6' rfl (by rw [List.length_map, List.length_set]; omega) fun H7 q7 e7 => ?_
        have ep : pushAll rm' (as.take (i + 1)) amt = push (pushAll rm' (as.take i) amt) a amt := by
          rw [List.take_add_one, ha]
          exact pushAll_snoc _ _ _ _
        have rs : rg ((pushAll rm' (as.take i) amt).set a (rg (pushAll rm' (as.take i) amt) a - amt)) (par a) = rg (pushAll rm' (as.take i) amt) (par a) := by
          rw [rg_set (by omega), if_neg (par_ne a)]
        have e7' : H7 aR = some (.lst ((push (pushAll rm' (as.take i) amt) a amt).map V.int)) := by
          rw [e7, rs]
          unfold push
          rw [List.map_set (i := par a)]
        have f57 : ∀ b o, b ≠ aR → H5 b = some o → H7 b = some o := fun b o n h => by rw [q7 b n, q6 b n]; exact h
        refine ⟨_, rfl, ?_, fun b o n h => f57 b o n (fr5 b o n h)⟩
        rw [ep]
        exact fl5.rooms f57 e7' (push_len _ _ _)
      · rintro σ H5 ⟨x3, rfl, fl5, fr5⟩
        rw [List.take_of_length_le (by omega)] at fl5
        obtain ⟨dx5, hf5⟩ := fl5.obj
        have nn2 := nonneg_pushAll (Int.le_of_lt pos) ev' als nda fil.nn le
        have Sv := S_pushAll (m := amt) ev' als way
        walk_at "s"
        refine ⟨f, s, nodes, hd, pushAll rm' as amt, aL, aH, aR, Ls, rfl, fl5, hs, n1000, hlt, fun d6 H6 ws6 nd6 s6 hD6 met6 => ?_⟩
        walk_at "s"
        have Ss := Sv s
        rw [if_pos rfl, if_neg (fun q => nse q.symm)] at Ss
        have Sn : 0 ≤ S hd (pushAll rm' as amt) s := sumR_nonneg fun a _ => by
          show 0 ≤ if tl hd a = s then rg (pushAll rm' as amt) a else 0
          split
          · exact nn2 a
          · exact Int.le_refl 0
        refine ⟨(S hd (pushAll rm' as amt) s).toNat, by omega, pushAll rm' as amt, d6, ws6, _, _, _, rfl, fl5.sm s6, fun b o n h => s6 _ _ (fr5 _ _ n (s4 _ _ (s3 _ _ (fr _ _ n h)))), ⟨by rw [pushAll_len]; exact fil.len, nn2, fun b => by rw [pair_pushAll ev' als]; exact fil.pair b, fun v h1 h2 => ?_⟩, hD6, met6, rfl⟩
        rw [Sv, if_neg (fun q => h1 q.symm), if_neg (fun q => h2 q.symm), ← fil.cons v h1 h2]
        omega
  · walk_at "s"
    exact k H2 rm' fl2 fr fil ⟨ws, met2, c⟩
end
end K33
set_option linter.all false
set_option maxRecDepth 100000
set_option maxHeartbeats 4000000
/-! MB: the doubled web as a flow, as data. -/
namespace K33
/-- heads and rooms behind the first i places, behind ties -/
def hdP (n : Nat) : Nat → List Nat
  | 0 => []
  | i + 1 => (hdP n i ++ [i, 2 * n]) ++ [2 * n + 1, n + i]
def rmP : List (Int × Int) → List Int
  | [] => []
  | p :: ps => [p.2, 0, p.2, 0] ++ rmP ps
def ix (ps : List (Int × Int)) (p : Int) : Nat := (ps.map (·.1)).idxOf p
def hdT (ps : List (Int × Int)) (es : List (Int × Int)) : List Nat := es.flatMap fun e => [ps.length + ix ps e.2, ix ps e.1, ps.length + ix ps e.1, ix ps e.2]
def rmT (R : Int) (es : List (Int × Int)) : List Int := es.flatMap fun _ => [R, 0, R, 0]
theorem rmP_append : ∀ (a b : List (Int × Int)), rmP (a ++ b) = rmP a ++ rmP b
  | [], b => rfl
  | p :: a, b => by
    show [p.2, 0, p.2, 0] ++ rmP (a ++ b) = ([p.2, 0, p.2, 0] ++ rmP a) ++ rmP b
    rw [rmP_append, List.append_assoc]
theorem rmP_snoc {ps : List (Int × Int)} {i : Nat} {p : Int × Int} (h : ps[i]? = some p) : rmP (ps.take (i + 1)) = (rmP (ps.take i) ++ [p.2, 0]) ++ [p.2, 0] := by
  rw [List.take_add_one, h, rmP_append, List.append_assoc]
  rfl
theorem hdT_snoc {ps es : List (Int × Int)} {i : Nat} {e : Int × Int} (h : es[i]? = some e) : hdT ps (es.take (i + 1)) = (hdT ps (es.take i) ++ [ps.length + ix ps e.2, ix ps e.1]) ++ [ps.length + ix ps e.1, ix ps e.2] := by
  unfold hdT
  rw [List.take_add_one, h, List.flatMap_append, List.append_assoc]
  rfl
theorem rmT_snoc {R : Int} {es : List (Int × Int)} {i : Nat} {e : Int × Int} (h : es[i]? = some e) : rmT R (es.take (i + 1)) = (rmT R (es.take i) ++ [R, 0]) ++ [R, 0] := by
  unfold rmT
  rw [List.take_add_one, h, List.flatMap_append, List.append_assoc]
  rfl
theorem hdP_len (n : Nat) : ∀ i, (hdP n i).length = 4 * i
  | 0 => rfl
  | i + 1 => by
    show ((hdP n i ++ [i, 2 * n]) ++ [2 * n + 1, n + i]).length = _
    rw [List.length_append, List.length_append, hdP_len n i]
    show 4 * i + 2 + 2 = _
    omega
theorem rmP_len : ∀ ps : List (Int × Int), (rmP ps).length = 4 * ps.length
  | [] => rfl
  | p :: ps => by
    show (rmP ps).length + 4 = 4 * (ps.length + 1)
    rw [rmP_len ps]; omega
theorem hdT_len (ps : List (Int × Int)) : ∀ es : List (Int × Int), (hdT ps es).length = 4 * es.length
  | [] => rfl
  | e :: es => by
    have : hdT ps (e :: es) = [ps.length + ix ps e.2, ix ps e.1, ps.length + ix ps e.1, ix ps e.2] ++ hdT ps es := rfl
    rw [this, List.length_append, hdT_len ps es]
    show 4 + 4 * es.length = 4 * (es.length + 1)
    omega
theorem rmT_len (R : Int) : ∀ es : List (Int × Int), (rmT R es).length = 4 * es.length
  | [] => rfl
  | e :: es => by
    have : rmT R (e :: es) = [R, 0, R, 0] ++ rmT R es := rfl
    rw [this, List.length_append, rmT_len R es]
    show 4 + 4 * es.length = 4 * (es.length + 1)
    omega
theorem ix_lt {ps : List (Int × Int)} {p : Int} (h : p ∈ ps.map (·.1)) : ix ps p < ps.length := by
  have := List.idxOf_lt_length_of_mem h
  rwa [List.length_map] at this
theorem ix_at {ps : List (Int × Int)} (nd : (ps.map (·.1)).Nodup) {j : Nat} {p : Int × Int} (h : ps[j]? = some p) : ix ps p.1 = j := by
  have e : (ps.map (·.1))[j]? = some p.1 := by rw [List.getElem?_map, h]; rfl
  obtain ⟨hj, ej⟩ := List.getElem?_eq_some_iff.mp e
  unfold ix
  rw [← ej]
  exact List.Nodup.idxOf_getElem nd j hj
theorem hdP_mem {n i x : Nat} (hi : i ≤ n) : x ∈ hdP n i → x < 2 * n + 2 := by
  induction i with
  | zero => intro h; cases h
  | succ i ih =>
    intro h
    have h : x ∈ (hdP n i ++ [i, 2 * n]) ++ [2 * n + 1, n + i] := h
    simp only [List.mem_append, List.mem_cons, List.not_mem_nil, or_false] at h
    rcases h with (h | h | h) | h | h
    · exact ih (by omega) h
    all_goals omega
theorem hdT_mem {ps es : List (Int × Int)} {x : Nat} (he : ∀ e ∈ es, e.1 ∈ ps.map (·.1) ∧ e.2 ∈ ps.map (·.1)) (h : x ∈ hdT ps es) : x < 2 * ps.length + 2 := by
  unfold hdT at h
  obtain ⟨e, h1, h2⟩ := List.mem_flatMap.mp h
  have a := ix_lt (he e h1).1
  have b := ix_lt (he e h1).2
  simp only [List.mem_cons, List.not_mem_nil, or_false] at h2
  rcases h2 with h | h | h | h <;> omega
theorem rmP_mem : ∀ {ps : List (Int × Int)} {x : Int}, (∀ p ∈ ps, 0 ≤ p.2) → x ∈ rmP ps → 0 ≤ x
  | [], _, _, h => by cases h
  | p :: ps, x, hp, h => by
    have h : x ∈ [p.2, 0, p.2, 0] ++ rmP ps := h
    simp only [List.mem_append, List.mem_cons, List.not_mem_nil, or_false] at h
    have q := hp p (by simp)
    rcases h with (h | h | h | h) | h
    · omega
    · omega
    · omega
    · omega
    · exact rmP_mem (fun p hp' => hp p (by simp [hp'])) h
theorem rmT_mem {R : Int} {es : List (Int × Int)} {x : Int} (hR : 0 ≤ R) (h : x ∈ rmT R es) : 0 ≤ x := by
  unfold rmT at h
  obtain ⟨e, _, h2⟩ := List.mem_flatMap.mp h
  simp only [List.mem_cons, List.not_mem_nil, or_false] at h2
  rcases h2 with h | h | h | h <;> omega
/-- the whole -/
def hdW (ps es : List (Int × Int)) : List Nat := hdP ps.length ps.length ++ hdT ps es
def rmW (ps es : List (Int × Int)) : List Int := rmP ps ++ rmT ((ps.map (·.2)).sum) es
theorem hdW_len (ps es : List (Int × Int)) : (hdW ps es).length = 4 * ps.length + 4 * es.length := by unfold hdW; rw [List.length_append, hdP_len, hdT_len]
theorem rmW_len (ps es : List (Int × Int)) : (rmW ps es).length = 4 * ps.length + 4 * es.length := by unfold rmW; rw [List.length_append, rmP_len, rmT_len]
theorem hh_lt {hd : List Nat} {n : Nat} (h : ∀ x ∈ hd, x < n) {a : Nat} (ha : a < hd.length) : hh hd a < n := by
  unfold hh
  rw [List.getD_eq_getElem?_getD, List.getElem?_eq_getElem ha]
  exact h _ (List.getElem_mem ha)
theorem rg_nn {rm : List Int} (h : ∀ x ∈ rm, 0 ≤ x) (a : Nat) : 0 ≤ rg rm a := by
  unfold rg
  rw [List.getD_eq_getElem?_getD]
  cases e : rm[a]? with
  | none => exact Int.le_refl 0
  | some x => exact h x (List.mem_of_getElem? e)
/-- the halves, the dues that are told -/
def hal (ps : List (Int × Int)) (f : Nat → Int) : List (Int × Int) := ps.zipIdx.map fun x => (x.1.1, f x.2)
def dueL (es : List (Int × Int)) (g : Nat → Int) : List (Int × Int × Int) := es.zipIdx.filterMap fun x => if 0 < g x.2 then some (x.1.1, x.1.2, g x.2) else none
theorem take_zipIdx {α : Type} (l : List α) (i : Nat) : (l.take i).zipIdx = l.zipIdx.take i := by
  refine List.ext_getElem? fun j => ?_
  rw [List.getElem?_take]
  by_cases h : j < i
  · rw [if_pos h, List.getElem?_zipIdx, List.getElem?_zipIdx, List.getElem?_take, if_pos h]
  · rw [if_neg h, List.getElem?_zipIdx, List.getElem?_take, if_neg h]; rfl
theorem zipIdx_at {α : Type} {l : List α} {i : Nat} {x : α} (h : l[i]? = some x) : l.zipIdx[i]? = some (x, i) := by rw [List.getElem?_zipIdx, h]; simp
theorem hal_snoc {ps : List (Int × Int)} {f : Nat → Int} {i : Nat} {p : Int × Int} (h : ps[i]? = some p) : hal (ps.take (i + 1)) f = hal (ps.take i) f ++ [(p.1, f i)] := by
  unfold hal
  rw [take_zipIdx, take_zipIdx, List.take_add_one, zipIdx_at h, List.map_append]
  rfl
theorem dueL_snoc {es : List (Int × Int)} {g : Nat → Int} {i : Nat} {e : Int × Int} (h : es[i]? = some e) : dueL (es.take (i + 1)) g = dueL (es.take i) g ++ (if 0 < g i then [(e.1, e.2, g i)] else []) := by
  unfold dueL
  rw [take_zipIdx, take_zipIdx, List.take_add_one, zipIdx_at h, List.filterMap_append]
  congr 1
  show List.filterMap _ [(e, i)] = _
  rw [List.filterMap_cons]
  by_cases c : 0 < g i
  · rw [if_pos c, if_pos c]; rfl
  · rw [if_neg c, if_neg c]; rfl
/-- number: places to their index -/
def nbI (ps : List (Int × Int)) : List (Int × Nat) := ps.zipIdx.map fun x => (x.1.1, x.2)
theorem nbI_snoc {ps : List (Int × Int)} {i : Nat} {p : Int × Int} (h : ps[i]? = some p) : nbI (ps.take (i + 1)) = nbI (ps.take i) ++ [(p.1, i)] := by
  unfold nbI
  rw [take_zipIdx, take_zipIdx, List.take_add_one, zipIdx_at h, List.map_append]
  rfl
theorem nbI_at {ps : List (Int × Int)} {i : Nat} {p : Int × Int} (h : ps[i]? = some p) : (nbI ps)[i]? = some (p.1, i) := by
  unfold nbI
  rw [List.getElem?_map, zipIdx_at h]; rfl
theorem nbI_keys (ps : List (Int × Int)) : (nbI ps).map (·.1) = ps.map (·.1) := by
  refine List.ext_getElem? fun j => ?_
  unfold nbI
  rw [List.map_map, List.getElem?_map, List.getElem?_zipIdx, List.getElem?_map]
  cases ps[j]? <;> rfl
end K33
set_option Elab.async false
set_option linter.all false
set_option maxRecDepth 100000
set_option maxHeartbeats 4000000
/-! K13: Doubled. -/
namespace K33
open PySem L2
/-! one step of a reading -/
local macro_rules | `(tactic| walk_at "look") => `(tactic| first | assumption | exact upd_same | (refine Same.at' (by assumption) ?_; walk_at "look"))
local macro_rules | `(tactic| walk_at "side") => `(tactic| first | exact .inr ⟨by decide, by decide⟩ | exact .inl ⟨by decide, by decide⟩ | (show (0 : Int) < _; decide) | exact ⟨by decide, by decide⟩ | omega)
local macro_rules | `(tactic| walk_at "tt") => `(tactic| first | assumption | exact decide_eq_true (by assumption) | exact decide_eq_true rfl | (rw [decide_eq_false (by assumption)]; rfl) | rfl | exact decide_eq_true (by omega) | (rw [decide_eq_false (by omega)]; rfl))
local macro_rules | `(tactic| walk_at "ff") => `(tactic| first | assumption | exact decide_eq_false (by assumption) | (rw [decide_eq_true (by assumption)]; rfl) | (rw [decide_eq_true rfl]; rfl) | rfl | exact decide_eq_false (by omega) | (rw [decide_eq_true (by omega)]; rfl))
local macro_rules | `(tactic| walk_at "fld") => `(tactic| fail)
local macro_rules | `(tactic| walk_at "s1") => `(tactic| first
  | with_reducible refine r_seq ?_
  | with_reducible refine r_asg ?_
  | with_reducible refine r_name ?_
  | ((with_reducible refine' r_var ?hv ?_); (case hv => exact rfl))
  | with_reducible refine r_c ?_
  | with_reducible refine r_op ?_
  | with_reducible refine r_un ?_
  | with_reducible refine r_neg ?_
  | with_reducible refine r_I0 ?_
  | ((with_reducible refine' r_I ?hc ?_); (case hc => walk_at "side"))
  | with_reducible refine r_eqI ?_
  | with_reducible refine r_neI ?_
  | with_reducible refine r_eqS ?_
  | with_reducible refine r_neS ?_
  | with_reducible refine r_B ?_
  | with_reducible refine r_test ?_
  | with_reducible refine r_chain ?_
  | with_reducible refine r_and ?_
  | with_reducible refine r_or ?_
  | with_reducible refine r_not ?_
  | with_reducible refine r_andV ?_
  | with_reducible refine r_orV ?_
  | with_reducible refine r_notV ?_
  | with_reducible refine r_nil ?_
  | with_reducible refine r_cons ?_
  | with_reducible refine r_call ?_
  | with_reducible refine r_CB ?_
  | with_reducible refine r_fld ?_
  | with_reducible refine r_tup ?_
  | walk_at "fld"
  | with_reducible refine r_lst ?_
  | with_reducible refine r_if ?_
  | with_reducible refine r_drop ?_
  | with_reducible refine r_ret ?_
  | with_reducible refine r_retN ?_
  | with_reducible refine r_next ?_
  | with_reducible refine r_cont ?_
  | with_reducible refine r_bm ?_
  | with_reducible refine r_gcons ?_
  | with_reducible refine r_gnil ?_
  | with_reducible refine r_for ?_
  | with_reducible refine r_lc ?_
  | with_reducible refine r_yes ?_
  | with_reducible refine r_iEnum ?_
  | with_reducible refine r_iList ?_
  | with_reducible refine r_iTup ?_
  | with_reducible refine r_iZip ?_
  | with_reducible refine r_iRng1 ?_
  | with_reducible refine r_iRng2 ?_
  | with_reducible refine r_din ?_
  | with_reducible refine r_dnotin ?_
  | with_reducible refine r_dget ?_
  | with_reducible refine r_dget2 ?_
  | with_reducible refine r_dput ?_
  | with_reducible refine r_dnewK ?_
  | with_reducible refine r_gsub ?_
  | ((with_reducible refine' r_dinL (Rd.of ?h) ?_); (case h => walk_at "look"))
  | ((with_reducible refine' r_isD (Rd.of ?h) ?_); (case h => walk_at "look"))
  | ((with_reducible refine' r_dget2L (Rd.of ?h) ?_); (case h => walk_at "look"))
  | ((with_reducible refine' r_dgetL (Rd.of ?h) ?e ?_); (case h => walk_at "look"); (case e => first | assumption | rfl))
  | ((with_reducible refine' r_dgetL (rd_frz ?h) ?e ?_); (case h => assumption); (case e => first | assumption | rfl))
  | ((with_reducible refine' r_lt2 ?h1 ?h2 ?_); (case h1 => walk_at "look"); (case h2 => walk_at "look"))
  | with_reducible refine r_sl ?_
  | with_reducible refine r_noPart ?_
  | with_reducible refine r_part ?_
  | with_reducible refine r_exi ?_
  | ((with_reducible refine' r_tyL ?h ?_); (case h => walk_at "look"))
  | with_reducible refine r_isN ?_
  | with_reducible refine r_notN ?_
  | with_reducible refine r_isB ?_
  | with_reducible refine r_notB ?_
  | with_reducible refine r_min2' ?_
  | with_reducible refine r_max2' ?_
  | with_reducible refine r_isi (.base (.int _)) kII ?_
  | with_reducible refine r_isi (.base (.int _)) kIB ?_
  | with_reducible refine r_isi (.base (.str _)) kSS ?_
  | with_reducible refine r_isi (.base (.bl _)) kBB ?_
  | ((with_reducible refine' r_isi (.base (.tup ?h)) kTT ?_); (case h => walk_at "look"))
  | ((with_reducible refine' r_isi (.base (.lst ?h)) kLL ?_); (case h => walk_at "look"))
  | ((with_reducible refine' r_lenS (Or.inr (SqT.of ?h)) ?_); (case h => walk_at "look"))
  | ((with_reducible refine' r_lenS (Or.inl (SqL.of ?h)) ?_); (case h => walk_at "look"))
  | ((with_reducible refine' r_ixT (SqT.of ?h) ?e ?_); (case h => walk_at "look"); (case e => rfl))
  | ((with_reducible refine' r_gtup (SqT.of ?h) ?e ?_); (case h => walk_at "look"); (case e => rfl))
  | ((with_reducible refine r_tlen ?e ?_); (case e => exact Nat.le_of_ble_eq_true rfl))
  | with_reducible refine r_iteT ?_
  | with_reducible refine r_iteF ?_
  | with_reducible refine r_exb2 ?_
  | ((with_reducible refine r_iteP ?hc ?_); (case hc => walk_at "tt"))
  | ((with_reducible refine r_iteN ?hc ?_); (case hc => walk_at "ff")))
local macro_rules | `(tactic| walk_at "s") => `(tactic| repeat (walk_at "s1"))

/-! fields and methods of this class -/
local macro_rules | `(tactic| walk_at "lk") => `(tactic| first | with_reducible exact pfD1_whole_web _ | with_reducible exact pfD2_whole_web _ _ | with_reducible exact pfD2_many _ _ | with_reducible exact pfD3_whole_web _ _ _ | with_reducible exact pfD3_many _ _ _ | with_reducible exact pfD3_flow _ _ _ | with_reducible exact pfD4_whole_web _ _ _ _ | with_reducible exact pfD4_many _ _ _ _ | with_reducible exact pfD4_flow _ _ _ _ | with_reducible exact pfD4_start _ _ _ _ | with_reducible exact pfD5_whole_web _ _ _ _ _ | with_reducible exact pfD5_many _ _ _ _ _ | with_reducible exact pfD5_flow _ _ _ _ _ | with_reducible exact pfD5_start _ _ _ _ _ | with_reducible exact pfD5_end _ _ _ _ _ | with_reducible exact pfD6_whole_web _ _ _ _ _ _ | with_reducible exact pfD6_many _ _ _ _ _ _ | with_reducible exact pfD6_flow _ _ _ _ _ _ | with_reducible exact pfD6_start _ _ _ _ _ _ | with_reducible exact pfD6_end _ _ _ _ _ _ | with_reducible exact pfD6_arcs _ _ _ _ _ _)
local macro_rules | `(tactic| walk_at "lookD") => `(tactic| first | with_reducible exact flD_whole_web _ _ _ _ _ _ | with_reducible exact flD_many _ _ _ _ _ _ | with_reducible exact flD_flow _ _ _ _ _ _ | with_reducible exact flD_start _ _ _ _ _ _ | with_reducible exact flD_end _ _ _ _ _ _ | with_reducible exact flD_arcs _ _ _ _ _ _ | walk_at "lk")
local macro_rules | `(tactic| walk_at "noD") => `(tactic| first | with_reducible exact flD_no_halves _ _ _ _ _ _ | with_reducible exact flD_no_dues _ _ _ _ _ _)
local macro_rules | `(tactic| walk_at "atD") => `(tactic| first | with_reducible exact IsD.n_whole_web (by assumption) | with_reducible exact IsD.n_many (by assumption) | with_reducible exact IsD.n_flow (by assumption) | with_reducible exact IsD.n_start (by assumption) | with_reducible exact IsD.n_end (by assumption) | with_reducible exact IsD.n_arcs (by assumption))
local macro_rules | `(tactic| walk_at "fld") => `(tactic| ((with_reducible refine' r_exf ?h (IsD.cl (by assumption)) ?n ?l ?_); (case h => walk_at "look"); (case n => walk_at "atD"); (case l => walk_at "lookD")))
local macro_rules | `(tactic| walk_at "fld") => `(tactic| ((with_reducible refine' r_methL ?h ?n ?_); (case h => walk_at "look"); (case n => walk_at "noD")))
local macro_rules | `(tactic| walk_at "fld") => `(tactic| with_reducible refine r_meth ?_)
local macro_rules | `(tactic| walk_at "fld") => `(tactic| with_reducible refine r_make ?_)
local macro_rules | `(tactic| walk_at "fld") => `(tactic| with_reducible refine r_fset ?_)

local macro_rules | `(tactic| walk_at "lk") => `(tactic| assumption)
local macro_rules | `(tactic| walk_at "noD") => `(tactic| first | with_reducible exact flF_no_put _ _ _ | with_reducible exact flF_no_fill _ _ _ | with_reducible exact flF_no_along _ _ _ | with_reducible exact flF_no_met_from _ _ _)
theorem FlowAt.off {CF : Addr} {H H' : Hp} {f : Addr} {nodes : Nat} {hd : List Nat} {rm : List Int} {aL aH aR : Addr} {Ls : List Addr} (h : FlowAt CF H f nodes hd rm aL aH aR Ls) (k : ∀ b o, (b = f ∨ b = aL ∨ b = aH ∨ b = aR ∨ b ∈ Ls) → H b = some o → H' b = some o) : FlowAt CF H' f nodes hd rm aL aH aR Ls :=
  ⟨let ⟨dx, e⟩ := h.obj; ⟨dx, k _ _ (.inl rfl) e⟩, k _ _ (.inr (.inl rfl)) h.lL, h.nL, k _ _ (.inr (.inr (.inl rfl))) h.lH, k _ _ (.inr (.inr (.inr (.inl rfl)))) h.lR, h.len, h.even,
    fun v l hl => let ⟨as, a, b, c⟩ := h.lv v l hl; ⟨as, k _ _ (.inr (.inr (.inr (.inr (List.mem_of_getElem? hl))))) a, b, c⟩, h.nd, h.nH, h.nR, h.nLL, h.HR, h.LH, h.LR⟩
theorem sum_nn : ∀ {l : List Int}, (∀ x ∈ l, 0 ≤ x) → 0 ≤ l.sum
  | [], _ => Int.le_refl 0
  | x :: l, h => by
    have a := h x (by simp)
    have b := sum_nn (l := l) fun y hy => h y (by simp [hy])
    rw [List.sum_cons]; omega
def encN (x : Int × Nat) : Int × V := (x.1, nV x.2)
theorem encN_keys (l : List (Int × Nat)) : (l.map encN).map (·.1) = l.map (·.1) := by rw [List.map_map]; rfl
theorem encN_get {ps : List (Int × Int)} (ok : PlacesOk ps) {x : Int} (h : x ∈ ps.map (·.1)) : valV (kvI ((nbI ps).map encN)) (Sum.inl x) = some (nV (ix ps x)) := by
  obtain ⟨j, p, hp, rfl⟩ := place_at h
  rw [ix_at ok.nd hp]
  exact kvI_some (by rw [encN_keys, nbI_keys]; exact ok.nd) (by rw [List.getElem?_map, nbI_at hp]; rfl)
theorem FlowAt.tupOff {CF : Addr} {H : Hp} {f : Addr} {nodes : Nat} {hd : List Nat} {rm : List Int} {aL aH aR : Addr} {Ls : List Addr} (fl : FlowAt CF H f nodes hd rm aL aH aR Ls) {b : Addr} {r : List V} (h : H b = some (.tup r)) : b ≠ aH ∧ b ≠ aR ∧ b ∉ Ls :=
  ⟨ne_of h fl.lH (fun z => by cases z), ne_of h fl.lR (fun z => by cases z), fun m => by
    obtain ⟨j, hj⟩ := List.getElem?_of_mem m
    obtain ⟨_, q, _⟩ := fl.lv j b hj
    rw [h] at q; cases q⟩
def rowA (n t : Nat) : List V := [nV (4 * n + 4 * t), nV (4 * n + 4 * t + 2)]
section
variable {P : Program} {w : World} {K : PySem.W.Frag} {mg : Str → Option Value} {base : Heap} {CF CD : Addr}
def spDoubledInit (CD CF : Addr) : Sp := fun vs H Q _ => ∃ (x dx a : Addr) (ps es : List (Int × Int)), vs = [.ref x, .ref a] ∧ H x = some (.ins CD dx []) ∧ WebAt H a ps es ∧ WebOk ps es ∧
  ∀ H' f aL aH aR Ls aA rm', SB x H H' → H' x = some (.ins CD dx (flD (.ref a) (nV ps.length) (.ref f) (nV (2 * ps.length)) (nV (2 * ps.length + 1)) (.ref aA))) → FlowAt CF H' f (2 * ps.length + 2) (hdW ps es) rm' aL aH aR Ls →
    Tab H' aA ((List.range es.length).map (rowA ps.length)) → Filled (hdW ps es) (rmW ps es) rm' (2 * ps.length) (2 * ps.length + 1) → (∃ ws, Met (hdW ps es) rm' (2 * ps.length + 2) (2 * ps.length) ws ∧ 2 * ps.length + 1 ∉ ws.map (·.1)) → Q .non H'
theorem ok_doubled_init {f : Addr} {fd : FuncData} (F : Fun K "__init__" "Doubled.__init__" sDoubled_init f fd) (T : Txt K mg) (ic : IsD K CD) (cF : Cls K CF)
    (C_Flow : CanI P w K mg base CF 1 "Flow" ["self", "many"] (spFlowInit CF)) (CM_put : CanM P w K mg base CF 1 "put" ["self", "tail", "head", "room"] (spPut CF)) (CM_fill : CanM P w K mg base CF 3 "fill" ["self", "start", "end"] (spFill CF)) : FnOk P w K mg base CX0 4 f fd ["self", "web"] (spDoubledInit CD CF) := by
  have cD := ic.cl
  refine F.ok scDoubled_init (fun vs H Q E h => ?_) (fun cdv A outer s H vs Q E hr h => ?_)
  · obtain ⟨x, dx, a, ps, es, rfl, _⟩ := h; rfl
  obtain ⟨x, dx, a, ps, es, rfl, hx, web, ok, k⟩ := h
  obtain ⟨pa, ea, hw, ⟨ts, hp, prp⟩, ⟨us, hu, pru⟩⟩ := id web
  have lp := tab_len prp
  have lu := tab_len pru
  have l40 := ok.p.len
  have l120 := ok.t.len
  have l3 : (ts.map V.ref).length = ps.length := by rw [List.length_map]; exact lp
  have l5 : (us.map V.ref).length = es.length := by rw [List.length_map]; exact lu
  have k0 : (([] : List (Str × V))).length ≤ 0 := Nat.le_refl 0
  refine ⟨_, (pss_cons (psFK (K := K) (pv 0) (pv 1) rfl)
 (pss_cons (psFK (K := K) (pv 0) (pe_callB (lenK (K := K)) (by rfl) T.fLen bt_len (pa_cons (pe_ix (ixTK (K := K)) (pv 1) pe_int (fun _ _ => rfl)) pa_nil)) rfl)
 (pss_cons (psFK (K := K) (pv 0) (pc_mk C_Flow (hr.mono (by decide)) rfl (pa_cons (pe_op op_add (pe_op op_mul pe_int (peFK (K := K) (pv 0) rfl)) pe_int) pa_nil)) rfl)
 (pss_cons (psFK (K := K) (pv 0) (pe_op op_mul pe_int (peFK (K := K) (pv 0) rfl)) rfl)
 (pss_cons (psFK (K := K) (pv 0) (pe_op op_add (peFK (K := K) (pv 0) rfl) pe_int) rfl)
 (pss_cons (ps_set (i := 2) scDoubled_init.nd rfl (Or.inl rfl) pe_dnewK)
 (pss_cons (ps_for PassesOwn.never rfl (piEK (K := K) (by rfl) T.fEnumerate (pa_cons (pe_ix (ixTK (K := K)) (pv 1) pe_int (fun _ _ => rfl)) pa_nil)) (pgTK (K := K) (n := 2) rfl (pgs_cons (pg_name (i := 3) scDoubled_init.nd rfl (Or.inl rfl)) (pgs_cons (pg_name (i := 4) scDoubled_init.nd rfl (Or.inl rfl)) pgs_nil)))
 (pss_cons (ps_dput (hu_of hr) (pv 2) (pe_ix (ixTK (K := K)) (pv 4) pe_int (fun _ _ => rfl)) (pv 3) rfl)
 (pss_cons (ps_expr (pc_meth (peFK (K := K) (pv 0) rfl) cF CM_put (hr.mono (by decide)) (pa_cons (peFK (K := K) (pv 0) rfl) (pa_cons (pv 3) (pa_cons (pe_ix (ixTK (K := K)) (pv 4) pe_int (fun _ _ => rfl)) pa_nil)))))
 (pss_one (ps_expr (pc_meth (peFK (K := K) (pv 0) rfl) cF CM_put (hr.mono (by decide)) (pa_cons (pe_op op_add (peFK (K := K) (pv 0) rfl) (pv 3)) (pa_cons (peFK (K := K) (pv 0) rfl) (pa_cons (pe_ix (ixTK (K := K)) (pv 4) pe_int (fun _ _ => rfl)) pa_nil)))))))))
 (pss_cons (ps_set (i := 5) scDoubled_init.nd rfl (Or.inl rfl) (pe_callB (sumK (K := K) rfl) (by rfl) T.fSum bt_sum (pa_cons (pe_lc (own := [("place", 4)]) rfl scDoubled_init.nd (piLK (K := K) (pe_ix (ixTK (K := K)) (pv 1) pe_int (fun _ _ => rfl))) (blkOk_by (own := [("place", 4)]) (N := ["self", "web", "number", "k", "place", "room", "one", "other", "there"]) (sc := defScope sDoubled_init) (by decide +kernel)) (fun _ _ _ _ _ => (pg_name (i := 4) scDoubled_init.nd rfl (Or.inl rfl))) (fun _ _ _ _ _ => pts_nil) (fun _ _ _ _ _ => (pe_ix (ixTK (K := K)) (pv 4) pe_int (fun _ _ => rfl)))) pa_nil)))
 (pss_cons (psFK (K := K) (pv 0) (pe_lst pa_nil) rfl)
 (pss_cons (ps_for PassesOwn.never rfl (piLK (K := K) (pe_ix (ixTK (K := K)) (pv 1) pe_int (fun _ _ => rfl))) (pgTK (K := K) (n := 2) rfl (pgs_cons (pg_name (i := 6) scDoubled_init.nd rfl (Or.inl rfl)) (pgs_cons (pg_name (i := 7) scDoubled_init.nd rfl (Or.inl rfl)) pgs_nil)))
 (pss_cons (ps_set (i := 8) scDoubled_init.nd rfl (Or.inl rfl) (pc_meth (peFK (K := K) (pv 0) rfl) cF CM_put (hr.mono (by decide)) (pa_cons (pe_dget (hu_of hr) (pv 2) (pv 6) (fun _ _ => rfl)) (pa_cons (pe_op op_add (peFK (K := K) (pv 0) rfl) (pe_dget (hu_of hr) (pv 2) (pv 7) (fun _ _ => rfl))) (pa_cons (pv 5) pa_nil)))))
 (pss_one (ps_expr (peMK (K := K) PySem.F.plainAttrs_list PySem.F.slot_list_append PySem.F.type_list_append mt_append (peFK (K := K) (pv 0) rfl) (pa_cons (pe_tup (pa_cons (pv 8) (pa_cons (pc_meth (peFK (K := K) (pv 0) rfl) cF CM_put (hr.mono (by decide)) (pa_cons (pe_dget (hu_of hr) (pv 2) (pv 7) (fun _ _ => rfl)) (pa_cons (pe_op op_add (peFK (K := K) (pv 0) rfl) (pe_dget (hu_of hr) (pv 2) (pv 6) (fun _ _ => rfl))) (pa_cons (pv 5) pa_nil)))) pa_nil))) pa_nil))))))
 (pss_one (ps_expr (pc_meth (peFK (K := K) (pv 0) rfl) cF CM_fill (hr.mono (by decide)) (pa_cons (peFK (K := K) (pv 0) rfl) (pa_cons (peFK (K := K) (pv 0) rfl) pa_nil))))))))))))))), ?_⟩
  walk_at "s"
  refine r_fsetN hx cD ic.n_whole_web k0 fun H1 b1 p1 hx1 => ?_
  have hw1 := p1.tup hw
  have hp1 := p1.lst hp
  walk_at "s"
  rw [l3]
  refine r_fsetN hx1 cD ic.n_many (pl k0) fun H2 b2 p2 hx2 => ?_
  have sb2 : SB x H H2 := b1.trans b2
  walk_at "s"
  have e1 : (2 : Int) * ((ps.length : Nat) : Int) + 2 = ((2 * ps.length + 2 : Nat) : Int) := by omega
  rw [e1]
  intro f dxf nf ndxf nff
  have sA : Same H2 (upd (upd H2 dxf (.own f)) f (.ins CF dxf [])) := fun b o e => by
    rw [upd_ne (ne_of_none e nf), upd_ne (ne_of_none e ndxf)]; exact e
  have hf : (upd (upd H2 dxf (.own f)) f (.ins CF dxf [])) f = some (.ins CF dxf []) := upd_same
  generalize upd (upd H2 dxf (.own f)) f (.ins CF dxf []) = H3 at sA hf ⊢
  refine ⟨f, dxf, 2 * ps.length + 2, rfl, hf, by omega, fun H4 aL aH aR Ls sb4 fl4 fresh => ⟨rfl, ?_⟩⟩
  have s24 : Same H2 H4 := fun b o e => sb4 _ _ (ne_of_none e nf) (sA _ _ e)
  have fr2 : ∀ y, y = aL ∨ y = aH ∨ y = aR ∨ y ∈ Ls → H2 y = none := fun y hy => sA.free (fresh y hy)
  have hx4 := s24 _ _ hx2
  walk_at "s"
  refine r_fsetN hx4 cD ic.n_flow (pl (pl k0)) fun H5 b5 p5 hx5 => ?_
  walk_at "s"
  have e2 : (2 : Int) * ((ps.length : Nat) : Int) = ((2 * ps.length : Nat) : Int) := by omega
  rw [e2]
  refine r_fsetN hx5 cD ic.n_start (pl (pl (pl k0))) fun H6 b6 p6 hx6 => ?_
  walk_at "s"
  have e3 : ((2 * ps.length : Nat) : Int) + 1 = ((2 * ps.length + 1 : Nat) : Int) := by omega
  rw [e3]
  refine r_fsetN hx6 cD ic.n_end (pl (pl (pl (pl k0)))) fun H7 b7 p7 hx7 => ?_
  walk_at "s"
  refine r_new fun d H8 nd s8 e8 => ?_
  have sb4' : SB x H H4 := sb2.trans (SB.of s24)
  have sb7 : SB x H H7 := ((sb4'.trans b5).trans b6).trans b7
  have sb8 : SB x H H8 := sb7.trans (SB.of s8)
  have kp8 := sb8.keep hx
  have off2 : ∀ b o, H2 b = some o → b ≠ f ∧ b ≠ aL ∧ b ≠ aH ∧ b ≠ aR ∧ b ∉ Ls := fun b o e =>
    ⟨ne_of_none e nf, ne_of_none e (fr2 aL (.inl rfl)), ne_of_none e (fr2 aH (.inr (.inl rfl))), ne_of_none e (fr2 aR (.inr (.inr (.inl rfl)))), fun m => by
      have := fr2 b (.inr (.inr (.inr m)))
      rw [e] at this
      cases this⟩
  have ox := off2 x _ hx2
  have bx : ∀ b, (b = f ∨ b = aL ∨ b = aH ∨ b = aR ∨ b ∈ Ls) → b ≠ x := by
    rintro b (h | h | h | h | h) z
    · exact ox.1 (by rw [← z, h])
    · exact ox.2.1 (by rw [← z, h])
    · exact ox.2.2.1 (by rw [← z, h])
    · exact ox.2.2.2.1 (by rw [← z, h])
    · exact ox.2.2.2.2 (by rw [← z]; exact h)
  have fl8 : FlowAt CF H8 f (2 * ps.length + 2) [] [] aL aH aR Ls := fl4.off fun b o hb e => s8 _ _ (b7 _ _ (bx b hb) (b6 _ _ (bx b hb) (b5 _ _ (bx b hb) e)))
  have hx8 := s8 _ _ hx7
  have dn : ∀ b, (b = f ∨ b = aL ∨ b = aH ∨ b = aR ∨ b ∈ Ls) → H7 b ≠ none := by
    have fl7 : FlowAt CF H7 f (2 * ps.length + 2) [] [] aL aH aR Ls := fl4.off fun b o hb e => (b7 _ _ (bx b hb) (b6 _ _ (bx b hb) (b5 _ _ (bx b hb) e)))
    rintro b (h | h | h | h | h) z
    · obtain ⟨_, q⟩ := fl7.obj
      rw [← h, z] at q; cases q
    · have q := fl7.lL
      rw [← h, z] at q; cases q
    · have q := fl7.lH
      rw [← h, z] at q; cases q
    · have q := fl7.lR
      rw [← h, z] at q; cases q
    · obtain ⟨j, hj⟩ := List.getElem?_of_mem h
      obtain ⟨_, q, _⟩ := fl7.lv j b hj
      rw [z] at q; cases q
  have df : ∀ b, (b = f ∨ b = aL ∨ b = aH ∨ b = aR ∨ b ∈ Ls) → b ≠ d := fun b hb z => dn b hb (by rw [z]; exact nd)
  have dx' : d ≠ x := ne_of e8 hx8 (fun z => by cases z)
  have n8 : H d = none := sb_free sb7 ⟨_, hx7⟩ nd
  have offH : ∀ b o, b ≠ x → H b = some o → b ≠ d ∧ b ≠ aH ∧ b ≠ aR ∧ b ∉ Ls := fun b o n e =>
    have q := off2 b o (sb2 b o n e)
    ⟨ne_of_none e n8, q.2.2.1, q.2.2.2.1, q.2.2.2.2⟩
  have lkf : _ = some _ := pfD5_flow (.ref a) (nV ps.length) (.ref f) (nV (2 * ps.length)) (nV (2 * ps.length + 1))
  have lkm : _ = some _ := pfD5_many (.ref a) (nV ps.length) (.ref f) (nV (2 * ps.length)) (nV (2 * ps.length + 1))
  have lks : _ = some _ := pfD5_start (.ref a) (nV ps.length) (.ref f) (nV (2 * ps.length)) (nV (2 * ps.length + 1))
  have lke : _ = some _ := pfD5_end (.ref a) (nV ps.length) (.ref f) (nV (2 * ps.length)) (nV (2 * ps.length + 1))
  have arcsF : ∀ v, putF "arcs" v (putF "end" (nV (2 * ps.length + 1)) (putF "start" (nV (2 * ps.length)) (putF "flow" (.ref f) (putF "many" (nV ps.length) (putF "whole_web" (.ref a) []))))) = flD (.ref a) (nV ps.length) (.ref f) (nV (2 * ps.length)) (nV (2 * ps.length + 1)) v := fun v => rfl
  have k5 : (putF "end" (nV (2 * ps.length + 1)) (putF "start" (nV (2 * ps.length)) (putF "flow" (V.ref f) (putF "many" (nV ps.length) (putF "whole_web" (V.ref a) []))))).length ≤ 5 := pl (pl (pl (pl (pl k0))))
  have hx8 : H8 x = some (.ins CD dx (putF "end" (nV (2 * ps.length + 1)) (putF "start" (nV (2 * ps.length)) (putF "flow" (V.ref f) (putF "many" (nV ps.length) (putF "whole_web" (V.ref a) [])))))) := hx8
  generalize putF "end" (nV (2 * ps.length + 1)) (putF "start" (nV (2 * ps.length)) (putF "flow" (V.ref f) (putF "many" (nV ps.length) (putF "whole_web" (V.ref a) [])))) = FS at lkf lkm lks lke arcsF k5 hx8
  have hw8 := kp8.tup hw
  have hp8 := kp8.lst hp
  have xpa : pa ≠ x := ne_of hp hx (fun z => by cases z)
  have xea : ea ≠ x := ne_of hu hx (fun z => by cases z)
  have xa : a ≠ x := ne_of hw hx (fun z => by cases z)
  walk_at "s"
  refine l_enum (fun i σ H' => ∃ (v1 v2 v3 v4 v5 v6 : Option V), σ = [some (.ref x), some (.ref a), some (.ref d), v1, v2, v3, v4, v5, v6] ∧ SB x H H' ∧ H' x = some (.ins CD dx FS) ∧ FlowAt CF H' f (2 * ps.length + 2) (hdP ps.length i) (rmP (ps.take i)) aL aH aR Ls ∧
    H' d = some (.dK (kvI ((nbI (ps.take i)).map encN)))) hp8 ⟨_, _, _, _, _, _, rfl, sb8, hx8, fl8, e8⟩ (fun i σ H' hi ⟨_, _, _, _, _, _, _, sb, _⟩ => sb _ _ xpa hp) ?_ ?_
  · rintro i v T σ H9 H10 hv ⟨v1, v2, v3, v4, v5, v6, rfl, sb9, hx9, fl9, hd9⟩ nT s10 hT
    obtain ⟨t, p, rfl, ht, hpi, hrow⟩ := tab_at prp hv
    have hi : i < ps.length := (List.getElem?_eq_some_iff.mp hpi).1
    have sb10 : SB x H H10 := sb9.trans (SB.of s10)
    have hx10 := s10 _ _ hx9
    have fl10 := fl9.sm s10
    have hd10 := s10 _ _ hd9
    have hr10 : H10 t = some (.tup [.int p.1, .int p.2]) := sb10 _ _ (ne_of hrow hx (fun z => by cases z)) hrow
    have hr : H t = some (.tup [.int p.1, .int p.2]) := hrow
    have htx : t ≠ x := ne_of hrow hx (fun z => by cases z)
    have lnb : (nbI (ps.take i)).length = i := by unfold nbI; rw [List.length_map, List.length_zipIdx, List.length_take]; omega
    have ekv : putK (kvI ((nbI (ps.take i)).map encN)) (Sum.inl p.1) (nV i) = kvI ((nbI (ps.take (i + 1))).map encN) := by
      rw [nbI_snoc hpi, List.map_append]
      refine kvI_put ?_
      rw [encN_keys, nbI_keys, List.map_take]
      exact nd_take ok.p.nd (by rw [List.getElem?_map, hpi]; rfl)
    walk_at "s"
    refine r_dputL hd10 (sz_lt (by rw [kvI_len, List.length_map, lnb]; omega)) ?_
    rw [ekv]
    have sb11 : SB x H (upd H10 d (.dK (kvI ((nbI (ps.take (i + 1))).map encN)))) := fun b o n e => by rw [upd_ne (offH b o n e).1]; exact sb10 _ _ n e
    have hx11 : (upd H10 d (.dK (kvI ((nbI (ps.take (i + 1))).map encN)))) x = some (.ins CD dx FS) := by rw [upd_ne dx'.symm]; exact hx10
    have fl11 : FlowAt CF (upd H10 d (.dK (kvI ((nbI (ps.take (i + 1))).map encN)))) f (2 * ps.length + 2) (hdP ps.length i) (rmP (ps.take i)) aL aH aR Ls := fl10.off fun b o hb e => by rw [upd_ne (df b hb)]; exact e
    have hd11 : (upd H10 d (.dK (kvI ((nbI (ps.take (i + 1))).map encN)))) d = some (.dK (kvI ((nbI (ps.take (i + 1))).map encN))) := upd_same
    generalize upd H10 d (.dK (kvI ((nbI (ps.take (i + 1))).map encN))) = H11 at sb11 hx11 fl11 hd11 ⊢
    have hr11 := sb11 _ _ htx hr
    obtain ⟨dx1, hf11⟩ := id fl11.obj
    walk_at "s"
    refine ⟨f, 2 * ps.length, i, p.2, _, _, _, aL, aH, aR, Ls, rfl, fl11, by omega, by omega, by omega, by rw [hdP_len]; omega, fun H12 fl12 fr12 => ?_⟩
    have sb12 : SB x H H12 := fun b o n e => have q := offH b o n e; fr12 _ _ q.2.1 q.2.2.1 q.2.2.2 (sb11 _ _ n e)
    have hx12 := fr12 _ _ ox.2.2.1 ox.2.2.2.1 ox.2.2.2.2 hx11
    have hd12 := fr12 _ _ (df aH (.inr (.inr (.inl rfl)))).symm (df aR (.inr (.inr (.inr (.inl rfl))))).symm (fun m => df d (.inr (.inr (.inr (.inr m)))) rfl) hd11
    have hr12 := sb12 _ _ htx hr
    obtain ⟨dx2, hf12⟩ := id fl12.obj
    walk_at "s"
    have e9 : ((ps.length : Nat) : Int) + (i : Nat) = ((ps.length + i : Nat) : Int) := by omega
    rw [e9]
    refine ⟨f, ps.length + i, 2 * ps.length + 1, p.2, _, _, _, aL, aH, aR, Ls, rfl, fl12, by omega, by omega, by omega, by rw [List.length_append, hdP_len]; show 4 * i + 2 ≤ _; omega, fun H13 fl13 fr13 => ?_⟩
    have sb13 : SB x H H13 := fun b o n e => have q := offH b o n e; fr13 _ _ q.2.1 q.2.2.1 q.2.2.2 (sb12 _ _ n e)
    have hx13 := fr13 _ _ ox.2.2.1 ox.2.2.2.1 ox.2.2.2.2 hx12
    have hd13 := fr13 _ _ (df aH (.inr (.inr (.inl rfl)))).symm (df aR (.inr (.inr (.inr (.inl rfl))))).symm (fun m => df d (.inr (.inr (.inr (.inr m)))) rfl) hd12
    rw [← rmP_snoc hpi] at fl13
    exact ⟨_, _, _, _, _, _, rfl, sb13, hx13, fl13, hd13⟩
  · rintro σ H9 ⟨v1, v2, v3, v4, v5, v6, rfl, sb9, hx9, fl9, hd9⟩
    have lt : ps.take (ts.map V.ref).length = ps := List.take_of_length_le (by omega)
    rw [lt, l3] at fl9
    rw [lt] at hd9
    have hw9 := sb9 _ _ xa hw
    have hp9 := sb9 _ _ xpa hp
    walk_at "s"
    refine k_list (fun i acc G => acc = (ps.take i).map fun p => V.int p.2) hp9 (fun _ => by simp) ?_ ?_
    · intro D i v acc H' nD hv sm hD eA
      obtain ⟨t, p, rfl, ht, hpi, hrow⟩ := tab_at prp hv
      have hr' : H' t = some (.tup [.int p.1, .int p.2]) := sm _ _ (sb9 _ _ (ne_of hrow hx (fun z => by cases z)) hrow)
      walk_at "s"
      refine ⟨rfl, ?_⟩
      walk_at "s"
      have hl : acc.length ≤ 1000 := by rw [eA, List.length_map, List.length_take]; omega
      refine c_end (fun _ _ _ _ _ _ _ h => h) nD sm hD (by omega) ?_
      rw [eA, List.take_add_one, hpi]
      simp
    · intro D acc H10 nD s10 hD eA
      rw [lt] at eA
      have e5 : acc = (ps.map (·.2)).map V.int := by rw [eA, List.map_map]; rfl
      rw [e5] at hD
      walk_at "s"
      refine r_sum hD ?_
      have hx10 := s10 _ _ hx9
      walk_at "s"
      refine r_new fun aA H11 nA s11 hA => ?_
      walk_at "s"
      refine r_fsetN (s11 _ _ hx10) cD ic.n_arcs k5 fun H12 b12 p12 hx12 => ?_
      rw [arcsF] at hx12
      have sb10 : SB x H H10 := sb9.trans (SB.of s10)
      have sb11 : SB x H H11 := sb10.trans (SB.of s11)
      have sb12 : SB x H H12 := sb11.trans b12
      have fl10 := fl9.sm s10
      have fl12 : FlowAt CF H12 f (2 * ps.length + 2) (hdP ps.length ps.length) (rmP ps) aL aH aR Ls := (fl10.sm s11).off fun b o hb e => b12 _ _ (bx b hb) e
      have hd12 := b12 _ _ dx' (s11 _ _ (s10 _ _ hd9))
      have xA : aA ≠ x := (ne_of_none hx10 nA).symm
      have hA12 := b12 _ _ xA hA
      have nAH : H aA = none := sb_free sb10 ⟨_, hx10⟩ nA
      have dA : d ≠ aA := ne_of_none (s10 _ _ hd9) nA
      have aAf : aA ≠ aH ∧ aA ≠ aR ∧ aA ∉ Ls := ⟨(ne_of_none fl10.lH nA).symm, (ne_of_none fl10.lR nA).symm, fun m => by
        obtain ⟨j, hj⟩ := List.getElem?_of_mem m
        obtain ⟨_, q, _⟩ := fl10.lv j aA hj
        rw [nA] at q; cases q⟩
      have aAfx : ∀ b, (b = f ∨ b = aL ∨ b = aH ∨ b = aR ∨ b ∈ Ls) → b ≠ aA := by
        rintro b (h | h | h | h | h) z
        · obtain ⟨_, q⟩ := fl10.obj
          rw [← h, z, nA] at q; cases q
        · have q := fl10.lL
          rw [← h, z, nA] at q; cases q
        · exact aAf.1 (by rw [← z, h])
        · exact aAf.2.1 (by rw [← z, h])
        · exact aAf.2.2 (by rw [← z]; exact h)
      have hw12 := sb12 _ _ xa hw
      have hu12 := sb12 _ _ xea hu
      walk_at "s"
      refine l_list (fun i σ H' => ∃ (v1 v2 v4 v5 v6 : Option V), σ = [some (.ref x), some (.ref a), some (.ref d), v1, v2, some (.int ((ps.map (·.2)).sum)), v4, v5, v6] ∧ SB x H H' ∧ H' x = some (.ins CD dx (flD (.ref a) (nV ps.length) (.ref f) (nV (2 * ps.length)) (nV (2 * ps.length + 1)) (.ref aA))) ∧
        FlowAt CF H' f (2 * ps.length + 2) (hdP ps.length ps.length ++ hdT ps (es.take i)) (rmP ps ++ rmT ((ps.map (·.2)).sum) (es.take i)) aL aH aR Ls ∧ H' d = some (.dK (kvI ((nbI ps).map encN))) ∧ Tab H' aA ((List.range i).map (rowA ps.length))) hu12
        ⟨_, _, _, _, _, rfl, sb12, hx12, by rw [show hdT ps (es.take 0) = [] from rfl, show rmT _ (es.take 0) = [] from rfl, List.append_nil, List.append_nil]; exact fl12, hd12, ⟨[], hA12, .nil⟩⟩ (fun i σ H' hi ⟨_, _, _, _, _, _, sb, _⟩ => sb _ _ xea hu) ?_ ?_
      · rintro i v σ H13 hv ⟨v1, v2, v4, v5, v6, rfl, sb13, hx13, fl13, hd13, ⟨rs, hA13, prA⟩⟩
        obtain ⟨t, e, rfl, ht, hei, hrow⟩ := tab_at pru hv
        have hi : i < es.length := (List.getElem?_eq_some_iff.mp hei).1
        have oe := ok.t.each e (getElem?_mem' hei)
        have l1 := ix_lt oe.2.1
        have l2 := ix_lt oe.2.2
        have hr13 : H13 t = some (.tup [.int e.1, .int e.2]) := sb13 _ _ (ne_of hrow hx (fun z => by cases z)) hrow
        have g1 := encN_get ok.p oe.2.1
        have g2 := encN_get ok.p oe.2.2
        obtain ⟨dx1, hf13⟩ := id fl13.obj
        have lh : (hdP ps.length ps.length ++ hdT ps (es.take i)).length = 4 * ps.length + 4 * i := by rw [List.length_append, hdP_len, hdT_len, List.length_take]; omega
        walk_at "s"
        have e9 : ((ps.length : Nat) : Int) + (ix ps e.2 : Nat) = ((ps.length + ix ps e.2 : Nat) : Int) := by omega
        rw [e9]
        have ne12 : ix ps e.1 ≠ ix ps e.2 := fun q => by
          obtain ⟨j, p, hp, q1⟩ := place_at oe.2.1
          obtain ⟨j2, p2, hp2, q2⟩ := place_at oe.2.2
          rw [← q1, ← q2, ix_at ok.p.nd hp, ix_at ok.p.nd hp2] at q
          subst q
          rw [hp] at hp2
          cases hp2
          omega
        refine ⟨f, ix ps e.1, ps.length + ix ps e.2, _, _, _, _, aL, aH, aR, Ls, rfl, fl13, by omega, by omega, by omega, by omega, fun H14 fl14 fr14 => ?_⟩
        have sb14 : SB x H H14 := fun b o n e => have q := offH b o n e; fr14 _ _ q.2.1 q.2.2.1 q.2.2.2 (sb13 _ _ n e)
        have hx14 := fr14 _ _ ox.2.2.1 ox.2.2.2.1 ox.2.2.2.2 hx13
        have hd14 := fr14 _ _ (df aH (.inr (.inr (.inl rfl)))).symm (df aR (.inr (.inr (.inr (.inl rfl))))).symm (fun m => df d (.inr (.inr (.inr (.inr m)))) rfl) hd13
        have hA14 := fr14 _ _ aAf.1 aAf.2.1 aAf.2.2 hA13
        have prA14 := L2.Paired.mapP prA fun t r h => have q := fl13.tupOff h; fr14 _ _ q.1 q.2.1 q.2.2 h
        obtain ⟨dx2, hf14⟩ := id fl14.obj
        rw [lh]
        walk_at "s"
        have e10 : ((ps.length : Nat) : Int) + (ix ps e.1 : Nat) = ((ps.length + ix ps e.1 : Nat) : Int) := by omega
        rw [e10]
        refine ⟨f, ix ps e.2, ps.length + ix ps e.1, _, _, _, _, aL, aH, aR, Ls, rfl, fl14, by omega, by omega, by omega, by rw [List.length_append, lh]; show 4 * ps.length + 4 * i + 2 ≤ _; omega, fun H15 fl15 fr15 => ?_⟩
        have sb15 : SB x H H15 := fun b o n e => have q := offH b o n e; fr15 _ _ q.2.1 q.2.2.1 q.2.2.2 (sb14 _ _ n e)
        have hx15 := fr15 _ _ ox.2.2.1 ox.2.2.2.1 ox.2.2.2.2 hx14
        have hd15 := fr15 _ _ (df aH (.inr (.inr (.inl rfl)))).symm (df aR (.inr (.inr (.inr (.inl rfl))))).symm (fun m => df d (.inr (.inr (.inr (.inr m)))) rfl) hd14
        have hA15 := fr15 _ _ aAf.1 aAf.2.1 aAf.2.2 hA14
        have prA15 := L2.Paired.mapP prA14 fun t r h => have q := fl14.tupOff h; fr15 _ _ q.1 q.2.1 q.2.2 h
        have l2' : (hdP ps.length ps.length ++ hdT ps (es.take i) ++ [ps.length + ix ps e.2, ix ps e.1]).length = 4 * ps.length + 4 * i + 2 := by rw [List.length_append, lh]; rfl
        rw [l2']
        walk_at "s"
        refine r_new fun q H16 nq s16 hq => ?_
        walk_at "s"
        have hrl : rs.length = i := by have := paired_len prA; rwa [List.length_map, List.length_range] at this
        refine r_appendN (s16 _ _ hA15) (by rw [List.length_map]; omega) fun H17 q17 hA17 => ?_
        have fl16 := fl15.sm s16
        refine ⟨_, _, _, _, _, rfl, fun b o n e => ?_, ?_, ?_, ?_, ⟨rs ++ [q], by rw [hA17, List.map_append]; rfl, ?_⟩⟩
        · rw [q17 b (ne_of_none e nAH)]
          exact s16 _ _ (sb15 _ _ n e)
        · rw [q17 x xA.symm]
          exact s16 _ _ hx15
        · rw [hdT_snoc hei, rmT_snoc hei, ← List.append_assoc, ← List.append_assoc, ← List.append_assoc, ← List.append_assoc]
          exact fl16.off fun b o hb e => by rw [q17 b (aAfx b hb)]; exact e
        · rw [q17 d dA]
          exact s16 _ _ hd15
        · rw [List.range_succ, List.map_append]
          refine paired_snoc (L2.Paired.mapP prA15 fun t r h => ?_) ?_
          · rw [q17 t (ne_of h hA15 (fun z => by cases z))]
            exact s16 _ _ h
          · rw [q17 q (ne_of hq (s16 _ _ hA15) (fun z => by cases z))]
            exact hq
      · rintro σ H13 ⟨v1, v2, v4, v5, v6, rfl, sb13, hx13, fl13, hd13, tA⟩
        have lt2 : es.take (us.map V.ref).length = es := List.take_of_length_le (by omega)
        rw [lt2] at fl13
        rw [l5] at tA
        obtain ⟨dx1, hf13⟩ := id fl13.obj
        walk_at "s"
        have pos : ∀ p ∈ ps, 0 ≤ p.2 := fun p hp => by have := (ok.p.each p hp).2.2; omega
        have Rp : 0 ≤ (ps.map (·.2)).sum := sum_nn fun x hx => by
          obtain ⟨p, hp, rfl⟩ := List.mem_map.mp hx
          exact pos p hp
        refine ⟨f, 2 * ps.length, 2 * ps.length + 1, 2 * ps.length + 2, hdW ps es, rmW ps es, aL, aH, aR, Ls, rfl, fl13, by omega, by omega, by omega, fun a ha => hh_lt (fun x hx => ?_) ha, rg_nn (fun x hx => ?_), fun H14 rm' fl14 fr14 fil met => ?_⟩
        · rcases List.mem_append.mp hx with m | m
          · exact hdP_mem (Nat.le_refl _) m
          · exact hdT_mem (fun e he => (ok.t.each e he).2) m
        · rcases List.mem_append.mp hx with m | m
          · exact rmP_mem pos m
          · exact rmT_mem Rp m
        · walk_at "s"
          have fb : ∀ b o, b ≠ x → H b = some o → b ≠ aR := fun b o n e => (offH b o n e).2.2.1
          refine k H14 f aL aH aR Ls aA rm' (fun b o n e => fr14 _ _ (fb b o n e) (sb13 _ _ n e)) (fr14 _ _ ox.2.2.2.1 hx13) fl14 ?_ fil met
          obtain ⟨rs, hA13, prA⟩ := tA
          exact ⟨rs, fr14 _ _ aAf.2.1 hA13, L2.Paired.mapP prA fun t r h => fr14 _ _ (fl13.tupOff h).2.1 h⟩
end
end K33
set_option Elab.async false
set_option linter.all false
set_option maxRecDepth 100000
set_option maxHeartbeats 4000000
/-! K14: Doubled.halves, Doubled.dues, paper_in. -/
namespace K33
open PySem L2
/-! one step of a reading -/
local macro_rules | `(tactic| walk_at "look") => `(tactic| first | assumption | exact upd_same | (refine Same.at' (by assumption) ?_; walk_at "look"))
local macro_rules | `(tactic| walk_at "side") => `(tactic| first | exact .inr ⟨by decide, by decide⟩ | exact .inl ⟨by decide, by decide⟩ | (show (0 : Int) < _; decide) | exact ⟨by decide, by decide⟩ | omega)
local macro_rules | `(tactic| walk_at "tt") => `(tactic| first | assumption | exact decide_eq_true (by assumption) | exact decide_eq_true rfl | (rw [decide_eq_false (by assumption)]; rfl) | rfl | exact decide_eq_true (by omega) | (rw [decide_eq_false (by omega)]; rfl))
local macro_rules | `(tactic| walk_at "ff") => `(tactic| first | assumption | exact decide_eq_false (by assumption) | (rw [decide_eq_true (by assumption)]; rfl) | (rw [decide_eq_true rfl]; rfl) | rfl | exact decide_eq_false (by omega) | (rw [decide_eq_true (by omega)]; rfl))
local macro_rules | `(tactic| walk_at "fld") => `(tactic| fail)
local macro_rules | `(tactic| walk_at "s1") => `(tactic| first
  | with_reducible refine r_seq ?_
  | with_reducible refine r_asg ?_
  | with_reducible refine r_name ?_
  | ((with_reducible refine' r_var ?hv ?_); (case hv => exact rfl))
  | with_reducible refine r_c ?_
  | with_reducible refine r_op ?_
  | with_reducible refine r_un ?_
  | with_reducible refine r_neg ?_
  | with_reducible refine r_I0 ?_
  | ((with_reducible refine' r_I ?hc ?_); (case hc => walk_at "side"))
  | with_reducible refine r_eqI ?_
  | with_reducible refine r_neI ?_
  | with_reducible refine r_eqS ?_
  | with_reducible refine r_neS ?_
  | with_reducible refine r_B ?_
  | with_reducible refine r_test ?_
  | with_reducible refine r_chain ?_
  | with_reducible refine r_and ?_
  | with_reducible refine r_or ?_
  | with_reducible refine r_not ?_
  | with_reducible refine r_andV ?_
  | with_reducible refine r_orV ?_
  | with_reducible refine r_notV ?_
  | with_reducible refine r_nil ?_
  | with_reducible refine r_cons ?_
  | with_reducible refine r_call ?_
  | with_reducible refine r_CB ?_
  | with_reducible refine r_fld ?_
  | with_reducible refine r_tup ?_
  | walk_at "fld"
  | with_reducible refine r_lst ?_
  | with_reducible refine r_if ?_
  | with_reducible refine r_drop ?_
  | with_reducible refine r_ret ?_
  | with_reducible refine r_retN ?_
  | with_reducible refine r_next ?_
  | with_reducible refine r_cont ?_
  | with_reducible refine r_bm ?_
  | with_reducible refine r_gcons ?_
  | with_reducible refine r_gnil ?_
  | with_reducible refine r_for ?_
  | with_reducible refine r_lc ?_
  | with_reducible refine r_yes ?_
  | with_reducible refine r_iEnum ?_
  | with_reducible refine r_iList ?_
  | with_reducible refine r_iTup ?_
  | with_reducible refine r_iZip ?_
  | with_reducible refine r_iRng1 ?_
  | with_reducible refine r_iRng2 ?_
  | with_reducible refine r_din ?_
  | with_reducible refine r_dnotin ?_
  | with_reducible refine r_dget ?_
  | with_reducible refine r_dget2 ?_
  | with_reducible refine r_dput ?_
  | with_reducible refine r_dnewK ?_
  | with_reducible refine r_gsub ?_
  | ((with_reducible refine' r_dinL (Rd.of ?h) ?_); (case h => walk_at "look"))
  | ((with_reducible refine' r_isD (Rd.of ?h) ?_); (case h => walk_at "look"))
  | ((with_reducible refine' r_dget2L (Rd.of ?h) ?_); (case h => walk_at "look"))
  | ((with_reducible refine' r_dgetL (Rd.of ?h) ?e ?_); (case h => walk_at "look"); (case e => first | assumption | rfl))
  | ((with_reducible refine' r_dgetL (rd_frz ?h) ?e ?_); (case h => assumption); (case e => first | assumption | rfl))
  | ((with_reducible refine' r_lt2 ?h1 ?h2 ?_); (case h1 => walk_at "look"); (case h2 => walk_at "look"))
  | with_reducible refine r_sl ?_
  | with_reducible refine r_noPart ?_
  | with_reducible refine r_part ?_
  | with_reducible refine r_exi ?_
  | ((with_reducible refine' r_tyL ?h ?_); (case h => walk_at "look"))
  | with_reducible refine r_isN ?_
  | with_reducible refine r_notN ?_
  | with_reducible refine r_isB ?_
  | with_reducible refine r_notB ?_
  | with_reducible refine r_min2' ?_
  | with_reducible refine r_max2' ?_
  | with_reducible refine r_isi (.base (.int _)) kII ?_
  | with_reducible refine r_isi (.base (.int _)) kIB ?_
  | with_reducible refine r_isi (.base (.str _)) kSS ?_
  | with_reducible refine r_isi (.base (.bl _)) kBB ?_
  | ((with_reducible refine' r_isi (.base (.tup ?h)) kTT ?_); (case h => walk_at "look"))
  | ((with_reducible refine' r_isi (.base (.lst ?h)) kLL ?_); (case h => walk_at "look"))
  | ((with_reducible refine' r_lenS (Or.inr (SqT.of ?h)) ?_); (case h => walk_at "look"))
  | ((with_reducible refine' r_lenS (Or.inl (SqL.of ?h)) ?_); (case h => walk_at "look"))
  | ((with_reducible refine' r_ixT (SqT.of ?h) ?e ?_); (case h => walk_at "look"); (case e => rfl))
  | ((with_reducible refine' r_gtup (SqT.of ?h) ?e ?_); (case h => walk_at "look"); (case e => rfl))
  | ((with_reducible refine r_tlen ?e ?_); (case e => exact Nat.le_of_ble_eq_true rfl))
  | with_reducible refine r_iteT ?_
  | with_reducible refine r_iteF ?_
  | with_reducible refine r_exb2 ?_
  | ((with_reducible refine r_iteP ?hc ?_); (case hc => walk_at "tt"))
  | ((with_reducible refine r_iteN ?hc ?_); (case hc => walk_at "ff")))
local macro_rules | `(tactic| walk_at "s") => `(tactic| repeat (walk_at "s1"))

/-! fields and methods of this class -/
local macro_rules | `(tactic| walk_at "lk") => `(tactic| first | with_reducible exact pfD1_whole_web _ | with_reducible exact pfD2_whole_web _ _ | with_reducible exact pfD2_many _ _ | with_reducible exact pfD3_whole_web _ _ _ | with_reducible exact pfD3_many _ _ _ | with_reducible exact pfD3_flow _ _ _ | with_reducible exact pfD4_whole_web _ _ _ _ | with_reducible exact pfD4_many _ _ _ _ | with_reducible exact pfD4_flow _ _ _ _ | with_reducible exact pfD4_start _ _ _ _ | with_reducible exact pfD5_whole_web _ _ _ _ _ | with_reducible exact pfD5_many _ _ _ _ _ | with_reducible exact pfD5_flow _ _ _ _ _ | with_reducible exact pfD5_start _ _ _ _ _ | with_reducible exact pfD5_end _ _ _ _ _ | with_reducible exact pfD6_whole_web _ _ _ _ _ _ | with_reducible exact pfD6_many _ _ _ _ _ _ | with_reducible exact pfD6_flow _ _ _ _ _ _ | with_reducible exact pfD6_start _ _ _ _ _ _ | with_reducible exact pfD6_end _ _ _ _ _ _ | with_reducible exact pfD6_arcs _ _ _ _ _ _)
local macro_rules | `(tactic| walk_at "lookD") => `(tactic| first | with_reducible exact flD_whole_web _ _ _ _ _ _ | with_reducible exact flD_many _ _ _ _ _ _ | with_reducible exact flD_flow _ _ _ _ _ _ | with_reducible exact flD_start _ _ _ _ _ _ | with_reducible exact flD_end _ _ _ _ _ _ | with_reducible exact flD_arcs _ _ _ _ _ _ | walk_at "lk")
local macro_rules | `(tactic| walk_at "noD") => `(tactic| first | with_reducible exact flD_no_halves _ _ _ _ _ _ | with_reducible exact flD_no_dues _ _ _ _ _ _)
local macro_rules | `(tactic| walk_at "atD") => `(tactic| first | with_reducible exact IsD.n_whole_web (by assumption) | with_reducible exact IsD.n_many (by assumption) | with_reducible exact IsD.n_flow (by assumption) | with_reducible exact IsD.n_start (by assumption) | with_reducible exact IsD.n_end (by assumption) | with_reducible exact IsD.n_arcs (by assumption))
local macro_rules | `(tactic| walk_at "fld") => `(tactic| ((with_reducible refine' r_exf ?h (IsD.cl (by assumption)) ?n ?l ?_); (case h => walk_at "look"); (case n => walk_at "atD"); (case l => walk_at "lookD")))
local macro_rules | `(tactic| walk_at "fld") => `(tactic| ((with_reducible refine' r_methL ?h ?n ?_); (case h => walk_at "look"); (case n => walk_at "noD")))
local macro_rules | `(tactic| walk_at "fld") => `(tactic| with_reducible refine r_meth ?_)
local macro_rules | `(tactic| walk_at "fld") => `(tactic| with_reducible refine r_make ?_)
local macro_rules | `(tactic| walk_at "fld") => `(tactic| with_reducible refine r_fset ?_)

local macro_rules | `(tactic| walk_at "noD") => `(tactic| first | with_reducible exact flF_no_put _ _ _ | with_reducible exact flF_no_fill _ _ _ | with_reducible exact flF_no_along _ _ _ | with_reducible exact flF_no_met_from _ _ _)
theorem hdW_lt {ps es : List (Int × Int)} (ok : WebOk ps es) : ∀ a, a < (hdW ps es).length → hh (hdW ps es) a < 2 * ps.length + 2 := fun a ha => hh_lt (fun x hx => by
  rcases List.mem_append.mp hx with m | m
  · exact hdP_mem (Nat.le_refl _) m
  · exact hdT_mem (fun e he => (ok.t.each e he).2) m) ha
def halfAt (n : Nat) (R : List Nat) (k : Nat) : Int := if n + k ∈ R then 2 else if k ∈ R then 0 else 1
def dueAt (n : Nat) (rm : List Int) (t : Nat) : Int := rg rm (4 * n + 4 * t + 1) + rg rm (4 * n + 4 * t + 3)
theorem hal_len (ps : List (Int × Int)) (f : Nat → Int) : (hal ps f).length = ps.length := by unfold hal; rw [List.length_map, List.length_zipIdx]
theorem dueL_len (es : List (Int × Int)) (g : Nat → Int) : (dueL es g).length ≤ es.length := by
  unfold dueL
  refine Nat.le_trans (List.length_filterMap_le _ _) ?_
  rw [List.length_zipIdx]; exact Nat.le_refl _
section
variable {P : Program} {w : World} {K : PySem.W.Frag} {mg : Str → Option Value} {base : Heap} {CF CD : Addr}
def spHalves (CD CF : Addr) : Sp := fun vs H Q _ => ∃ (x dx a f aL aH aR aA : Addr) (Ls : List Addr) (rm : List Int) (ps es : List (Int × Int)), vs = [.ref x] ∧ H x = some (.ins CD dx (flD (.ref a) (nV ps.length) (.ref f) (nV (2 * ps.length)) (nV (2 * ps.length + 1)) (.ref aA))) ∧ WebAt H a ps es ∧ WebOk ps es ∧
  FlowAt CF H f (2 * ps.length + 2) (hdW ps es) rm aL aH aR Ls ∧ ∀ l H' ws, H l = none → Same H H' → Met (hdW ps es) rm (2 * ps.length + 2) (2 * ps.length) ws → Tab H' l ((hal ps (halfAt ps.length (ws.map (·.1)))).map I2) → Q (.ref l) H'
theorem ok_halves {f : Addr} {fd : FuncData} (F : Fun K "halves" "Doubled.halves" sDoubled_halves f fd) (T : Txt K mg) (ic : IsD K CD) (cF : Cls K CF)
    (CM_met_from : CanM P w K mg base CF 1 "met_from" ["self", "start"] (spMetFrom CF)) : FnOk P w K mg base CX0 2 f fd ["self"] (spHalves CD CF) := by
  have cD := ic.cl
  refine F.ok scDoubled_halves (fun vs H Q E h => ?_) (fun cdv A outer s H vs Q E hr h => ?_)
  · obtain ⟨x, dx, a, f, aL, aH, aR, aA, Ls, rm, ps, es, rfl, _⟩ := h; rfl
  obtain ⟨x, dx, a, f, aL, aH, aR, aA, Ls, rm, ps, es, rfl, hx, web, ok, fl, k⟩ := h
  obtain ⟨pa, ea, hw, ⟨ts, hp, prp⟩, _⟩ := id web
  have lp := tab_len prp
  have l40 := ok.p.len
  have l3 : (ts.map V.ref).length = ps.length := by rw [List.length_map]; exact lp
  obtain ⟨dxf, hf⟩ := id fl.obj
  refine ⟨_, (pss_cons (ps_set (i := 1) scDoubled_halves.nd rfl (Or.inl rfl) (pc_meth (peFK (K := K) (pv 0) rfl) cF CM_met_from (hr.mono (by decide)) (pa_cons (peFK (K := K) (pv 0) rfl) pa_nil)))
 (pss_cons (ps_set (i := 2) scDoubled_halves.nd rfl (Or.inl rfl) (pe_lst pa_nil))
 (pss_cons (ps_for PassesOwn.never rfl (piEK (K := K) (by rfl) T.fEnumerate (pa_cons (pe_ix (ixTK (K := K)) (peFK (K := K) (pv 0) rfl) pe_int (fun _ _ => rfl)) pa_nil)) (pgTK (K := K) (n := 2) rfl (pgs_cons (pg_name (i := 3) scDoubled_halves.nd rfl (Or.inl rfl)) (pgs_cons (pg_name (i := 4) scDoubled_halves.nd rfl (Or.inl rfl)) pgs_nil)))
 (pss_cons (ps_set (i := 5) scDoubled_halves.nd rfl (Or.inl rfl) pe_int)
 (pss_cons (ps_if (pt_cmp (pc_din (hu_of hr) (pv 3) (pv 1)))
 (pss_one (ps_set (i := 5) scDoubled_halves.nd rfl (Or.inl rfl) pe_int))
 pss_nil)
 (pss_cons (ps_if (pt_cmp (pc_din (hu_of hr) (pe_op op_add (peFK (K := K) (pv 0) rfl) (pv 3)) (pv 1)))
 (pss_one (ps_set (i := 5) scDoubled_halves.nd rfl (Or.inl rfl) pe_int))
 pss_nil)
 (pss_one (ps_expr (peMK (K := K) PySem.F.plainAttrs_list PySem.F.slot_list_append PySem.F.type_list_append mt_append (pv 2) (pa_cons (pe_tup (pa_cons (pe_ix (ixTK (K := K)) (pv 4) pe_int (fun _ _ => rfl)) (pa_cons (pv 5) pa_nil))) pa_nil))))))))
 (pss_one (ps_ret (pv 2)))))), ?_⟩
  walk_at "s"
  refine ⟨f, 2 * ps.length, _, _, _, aL, aH, aR, Ls, rfl, fl, by omega, by omega, hdW_lt ok, fun d H1 ws nd s1 hd met => ?_⟩
  have hx1 := s1 _ _ hx
  walk_at "s"
  refine r_new fun l H2 nl s2 hl => ?_
  have s02 := s1.trans s2
  have hx2 := s02 _ _ hx
  have hw2 := s02 _ _ hw
  have hp2 := s02 _ _ hp
  walk_at "s"
  refine l_enum (fun i σ H' => ∃ (v1 v2 v3 : Option V), σ = [some (.ref x), some (.ref d), some (.ref l), v1, v2, v3] ∧ Same H1 H' ∧ Tab H' l ((hal (ps.take i) (halfAt ps.length (ws.map (·.1)))).map I2)) hp2
    ⟨_, _, _, rfl, s2, ⟨[], hl, .nil⟩⟩ (fun i σ H' hi ⟨_, _, _, _, sm, _⟩ => sm _ _ (s1 _ _ hp)) ?_ ?_
  · rintro i v T σ H3 H4 hv ⟨v1, v2, v3, rfl, sm, ⟨rs, hl3, pr3⟩⟩ nT s4 hT
    obtain ⟨t, p, rfl, ht, hpi, hrow⟩ := tab_at prp hv
    have sm4 := sm.trans s4
    have hr4 : H4 t = some (.tup [.int p.1, .int p.2]) := sm4 _ _ (s1 _ _ hrow)
    have hx4 := sm4 _ _ hx1
    have hd4 := sm4 _ _ hd
    have hl4 := s4 _ _ hl3
    have hi : i < ps.length := (List.getElem?_eq_some_iff.mp hpi).1
    have e9 : ((ps.length : Nat) : Int) + (i : Nat) = ((ps.length + i : Nat) : Int) := by omega
    have fin : ∀ (h : Int), h = halfAt ps.length (ws.map (·.1)) i → ∀ H6 q, Same H4 H6 → H4 q = none → H6 q = some (.tup [.int p.1, .int h]) → ∀ H7, (∀ b, b ≠ l → H7 b = H6 b) → H7 l = some (.lst (rs.map V.ref ++ [.ref q])) → Same H1 H7 ∧ Tab H7 l ((hal (ps.take (i + 1)) (halfAt ps.length (ws.map (·.1)))).map I2) := by
      intro h eh H6 q s6 nq hq H7 q7 hl7
      refine ⟨fun b o e => ?_, rs ++ [q], by rw [hl7, List.map_append]; rfl, ?_⟩
      · rw [q7 b (ne_of_none e nl)]
        exact s6 _ _ (sm4 _ _ e)
      · rw [hal_snoc hpi, List.map_append]
        refine paired_snoc (L2.Paired.mapP pr3 fun t r h => ?_) ?_
        · rw [q7 t (ne_of h hl3 (fun z => by cases z))]
          exact s6 _ _ (s4 _ _ h)
        · rw [q7 q (ne_of hq (s6 _ _ hl4) (fun z => by cases z)), hq, eh]
          rfl
    have hrl : rs.length ≤ 40 := by have := paired_len pr3; rw [List.length_map, hal_len, List.length_take] at this; omega
    walk_at "s"
    rw [encW_in]
    by_cases c2 : ps.length + i ∈ ws.map (·.1)
    · by_cases c1 : i ∈ ws.map (·.1)
      all_goals
        walk_at "s"
        rw [e9, encW_in]
        walk_at "s"
        refine r_new fun q H6 nq s6 hq => ?_
        walk_at "s"
        refine r_appendN (s6 _ _ hl4) (by rw [List.length_map]; omega) fun H7 q7 hl7 => ?_
        obtain ⟨f1, f2⟩ := fin 2 (by unfold halfAt; rw [if_pos c2]) H6 q s6 nq hq H7 q7 hl7
        exact ⟨_, _, _, rfl, f1, f2⟩
    · by_cases c1 : i ∈ ws.map (·.1)
      · walk_at "s"
        rw [e9, encW_in]
        walk_at "s"
        refine r_new fun q H6 nq s6 hq => ?_
        walk_at "s"
        refine r_appendN (s6 _ _ hl4) (by rw [List.length_map]; omega) fun H7 q7 hl7 => ?_
        obtain ⟨f1, f2⟩ := fin 0 (by unfold halfAt; rw [if_neg c2, if_pos c1]) H6 q s6 nq hq H7 q7 hl7
        exact ⟨_, _, _, rfl, f1, f2⟩
      · walk_at "s"
        rw [e9, encW_in]
        walk_at "s"
        refine r_new fun q H6 nq s6 hq => ?_
        walk_at "s"
        refine r_appendN (s6 _ _ hl4) (by rw [List.length_map]; omega) fun H7 q7 hl7 => ?_
        obtain ⟨f1, f2⟩ := fin 1 (by unfold halfAt; rw [if_neg c2, if_neg c1]) H6 q s6 nq hq H7 q7 hl7
        exact ⟨_, _, _, rfl, f1, f2⟩
  · rintro σ H3 ⟨v1, v2, v3, rfl, sm, tab⟩
    rw [l3, List.take_of_length_le (Nat.le_refl _)] at tab
    walk_at "s"
    exact k l H3 ws (s1.free nl) (s1.trans sm) met tab
def spDues (CD CF : Addr) : Sp := fun vs H Q _ => ∃ (x dx a f aL aH aR aA : Addr) (Ls : List Addr) (rm : List Int) (ps es : List (Int × Int)), vs = [.ref x] ∧ H x = some (.ins CD dx (flD (.ref a) (nV ps.length) (.ref f) (nV (2 * ps.length)) (nV (2 * ps.length + 1)) (.ref aA))) ∧ WebAt H a ps es ∧ WebOk ps es ∧
  FlowAt CF H f (2 * ps.length + 2) (hdW ps es) rm aL aH aR Ls ∧ Tab H aA ((List.range es.length).map (rowA ps.length)) ∧ ∀ l H', H l = none → Same H H' → Tab H' l ((dueL es (dueAt ps.length rm)).map I3) → Q (.ref l) H'
theorem ok_dues {f : Addr} {fd : FuncData} (F : Fun K "dues" "Doubled.dues" sDoubled_dues f fd) (T : Txt K mg) (ic : IsD K CD) (cF : Cls K CF)
    (CM_along : CanM P w K mg base CF 1 "along" ["self", "arc"] (spAlong CF)) : FnOk P w K mg base CX0 2 f fd ["self"] (spDues CD CF) := by
  have cD := ic.cl
  refine F.ok scDoubled_dues (fun vs H Q E h => ?_) (fun cdv A outer s H vs Q E hr h => ?_)
  · obtain ⟨x, dx, a, f, aL, aH, aR, aA, Ls, rm, ps, es, rfl, _⟩ := h; rfl
  obtain ⟨x, dx, a, f, aL, aH, aR, aA, Ls, rm, ps, es, rfl, hx, web, ok, fl, ⟨as, hA, prA⟩, k⟩ := h
  obtain ⟨pa, ea, hw, _, ⟨us, hu, pru⟩⟩ := id web
  have lu := tab_len pru
  have l120 := ok.t.len
  have l5 : (us.map V.ref).length = es.length := by rw [List.length_map]; exact lu
  have lA := paired_len prA
  rw [List.length_map, List.length_range] at lA
  have l6 : (as.map V.ref).length = es.length := by rw [List.length_map]; exact lA
  obtain ⟨dxf, hf⟩ := id fl.obj
  have lR := fl.lR
  have lrm : rm.length = 4 * ps.length + 4 * es.length := by rw [fl.len, hdW_len]
  refine ⟨_, (pss_cons (ps_set (i := 1) scDoubled_dues.nd rfl (Or.inl rfl) (pe_lst pa_nil))
 (pss_cons (ps_for PassesOwn.never rfl (piZK (K := K) (by rfl) T.fZip (pa_cons (pe_ix (ixTK (K := K)) (peFK (K := K) (pv 0) rfl) pe_int (fun _ _ => rfl)) (pa_cons (peFK (K := K) (pv 0) rfl) pa_nil))) (pgTK (K := K) (n := 2) rfl (pgs_cons (pg_name (i := 2) scDoubled_dues.nd rfl (Or.inl rfl)) (pgs_cons (pg_name (i := 3) scDoubled_dues.nd rfl (Or.inl rfl)) pgs_nil)))
 (pss_cons (ps_set (i := 4) scDoubled_dues.nd rfl (Or.inl rfl) (pe_op op_add (pc_meth (peFK (K := K) (pv 0) rfl) cF CM_along (hr.mono (by decide)) (pa_cons (pe_ix (ixTK (K := K)) (pv 3) pe_int (fun _ _ => rfl)) pa_nil)) (pc_meth (peFK (K := K) (pv 0) rfl) cF CM_along (hr.mono (by decide)) (pa_cons (pe_ix (ixTK (K := K)) (pv 3) pe_int (fun _ _ => rfl)) pa_nil))))
 (pss_one (ps_if (pt_cmpR op_gt (pv 4) pe_int (nomark _))
 (pss_one (ps_expr (peMK (K := K) PySem.F.plainAttrs_list PySem.F.slot_list_append PySem.F.type_list_append mt_append (pv 1) (pa_cons (pe_tup (pa_cons (pe_ix (ixTK (K := K)) (pv 2) pe_int (fun _ _ => rfl)) (pa_cons (pe_ix (ixTK (K := K)) (pv 2) pe_int (fun _ _ => rfl)) (pa_cons (pv 4) pa_nil)))) pa_nil))))
 pss_nil))))
 (pss_one (ps_ret (pv 1))))), ?_⟩
  walk_at "s"
  refine r_new fun l H1 nl s1 hl => ?_
  have hx1 := s1 _ _ hx
  have hw1 := s1 _ _ hw
  have hu1 := s1 _ _ hu
  have hA1 := s1 _ _ hA
  walk_at "s"
  refine l_zip (fun i σ H' => ∃ (v1 v2 v3 : Option V), σ = [some (.ref x), some (.ref l), v1, v2, v3] ∧ Same H H' ∧ Tab H' l ((dueL (es.take i) (dueAt ps.length rm)).map I3)) hu1 hA1 (l5.trans l6.symm)
    ⟨_, _, _, rfl, s1, ⟨[], hl, .nil⟩⟩ (fun i σ H' hi ⟨_, _, _, _, sm, _⟩ => ⟨sm _ _ hu, sm _ _ hA⟩) ?_ ?_
  · rintro i v v' T σ H3 H4 hv hv' ⟨v1, v2, v3, rfl, sm, ⟨rs, hl3, pr3⟩⟩ nT s4 hT
    obtain ⟨t, e, rfl, ht, hei, hrow⟩ := tab_at pru hv
    obtain ⟨u, j, rfl, hu', hji, hrow'⟩ := tab_at prA hv'
    have hi : i < es.length := (List.getElem?_eq_some_iff.mp hei).1
    have ej : j = i := by
      rw [List.getElem?_range hi] at hji
      exact (Option.some.inj hji).symm
    subst ej
    have sm4 := sm.trans s4
    have hr4 : H4 t = some (.tup [.int e.1, .int e.2]) := sm4 _ _ hrow
    have hr4' : H4 u = some (.tup [nV (4 * ps.length + 4 * j), nV (4 * ps.length + 4 * j + 2)]) := sm4 _ _ hrow'
    have hx4 := sm4 _ _ hx
    have hf4 := sm4 _ _ hf
    have lR4 := sm4 _ _ lR
    have hl4 := s4 _ _ hl3
    have hrl : rs.length ≤ 120 := by
      have := paired_len pr3
      rw [List.length_map] at this
      have b := dueL_len (es.take j) (dueAt ps.length rm)
      rw [List.length_take] at b
      omega
    walk_at "s"
    refine ⟨f, dxf, 4 * ps.length + 4 * j, rm, aL, aH, aR, rfl, hf4, lR4, by omega, ?_⟩
    walk_at "s"
    refine ⟨f, dxf, 4 * ps.length + 4 * j + 2, rm, aL, aH, aR, rfl, hf4, lR4, by omega, ?_⟩
    walk_at "s"
    have ed : rg rm (4 * ps.length + 4 * j + 1) + rg rm (4 * ps.length + 4 * j + 2 + 1) = dueAt ps.length rm j := rfl
    rw [ed]
    by_cases c : 0 < dueAt ps.length rm j
    · walk_at "s"
      refine r_new fun q H6 nq s6 hq => ?_
      walk_at "s"
      refine r_appendN (s6 _ _ hl4) (by rw [List.length_map]; omega) fun H7 q7 hl7 => ?_
      refine ⟨_, _, _, rfl, fun b o e => ?_, rs ++ [q], by rw [hl7, List.map_append]; rfl, ?_⟩
      · rw [q7 b (ne_of_none e nl)]
        exact s6 _ _ (sm4 _ _ e)
      · rw [dueL_snoc hei, if_pos c, List.map_append]
        refine paired_snoc (L2.Paired.mapP pr3 fun t r h => ?_) ?_
        · rw [q7 t (ne_of h hl3 (fun z => by cases z))]
          exact s6 _ _ (s4 _ _ h)
        · rw [q7 q (ne_of hq (s6 _ _ hl4) (fun z => by cases z)), hq]
          rfl
    · walk_at "s"
      refine ⟨_, _, _, rfl, sm4, rs, hl4, ?_⟩
      rw [dueL_snoc hei, if_neg c, List.append_nil]
      exact tab_sm s4 pr3
  · rintro σ H3 ⟨v1, v2, v3, rfl, sm, tab⟩
    rw [l5, List.take_of_length_le (Nat.le_refl _)] at tab
    walk_at "s"
    exact k l H3 nl sm tab
/-- what paper_in tells -/
def Told (ps es hs : List (Int × Int)) (ds : List (Int × Int × Int)) : Prop := ∃ (rm : List Int) (ws : List (Nat × Option Nat)), rm.length = 4 * ps.length + 4 * es.length ∧ Filled (hdW ps es) (rmW ps es) rm (2 * ps.length) (2 * ps.length + 1) ∧
  Met (hdW ps es) rm (2 * ps.length + 2) (2 * ps.length) ws ∧ 2 * ps.length + 1 ∉ ws.map (·.1) ∧ hs = hal ps (halfAt ps.length (ws.map (·.1))) ∧ ds = dueL es (dueAt ps.length rm)
def spPaperIn : Sp := fun vs H Q _ => ∃ (a : Addr) (ps es : List (Int × Int)), vs = [.ref a] ∧ WebAt H a ps es ∧ WebOk ps es ∧ ∀ t l m hs ds H', Same H H' → H' t = some (.tup [.ref l, .ref m]) → Tab H' l (hs.map I2) → Tab H' m (ds.map I3) → Told ps es hs ds → Q (.ref t) H'
theorem ok_paper_in {f : Addr} {fd : FuncData} (F : Fun K "paper_in" "paper_in" spaper_in f fd) (T : Txt K mg) (ic : IsD K CD)
    (C_Doubled : CanI P w K mg base CD 4 "Doubled" ["self", "web"] (spDoubledInit CD CF)) (CM_halves : CanM P w K mg base CD 2 "halves" ["self"] (spHalves CD CF)) (CM_dues : CanM P w K mg base CD 2 "dues" ["self"] (spDues CD CF)) : FnOk P w K mg base CX0 6 f fd ["web"] spPaperIn := by
  have cD := ic.cl
  refine F.ok scpaper_in (fun vs H Q E h => ?_) (fun cdv A outer s H vs Q E hr h => ?_)
  · obtain ⟨a, ps, es, rfl, _⟩ := h; rfl
  obtain ⟨a, ps, es, rfl, web, ok, k⟩ := h
  refine ⟨_, (pss_cons (ps_set (i := 1) scpaper_in.nd rfl (Or.inl rfl) (pc_mk C_Doubled (hr.mono (by decide)) rfl (pa_cons (pv 0) pa_nil)))
 (pss_one (ps_ret (pe_tup (pa_cons (pc_meth0 (pv 1) cD CM_halves (hr.mono (by decide))) (pa_cons (pc_meth0 (pv 1) cD CM_dues (hr.mono (by decide))) pa_nil)))))), ?_⟩
  walk_at "s"
  intro x dx nx ndx ndxx
  have sA : Same H (upd (upd H dx (.own x)) x (.ins CD dx [])) := fun b o e => by
    rw [upd_ne (ne_of_none e nx), upd_ne (ne_of_none e ndx)]; exact e
  have hx : (upd (upd H dx (.own x)) x (.ins CD dx [])) x = some (.ins CD dx []) := upd_same
  generalize upd (upd H dx (.own x)) x (.ins CD dx []) = H1 at sA hx ⊢
  refine ⟨x, dx, a, ps, es, rfl, hx, web.sm sA, ok, fun H2 f aL aH aR Ls aA rm sb hx2 fl tA fil met => ⟨rfl, ?_⟩⟩
  have s02 : Same H H2 := fun b o e => sb _ _ (ne_of_none e nx) (sA _ _ e)
  have web2 := web.sm s02
  walk_at "s"
  refine ⟨x, dx, a, f, aL, aH, aR, aA, Ls, rm, ps, es, rfl, hx2, web2, ok, fl, fun l H3 ws nl s3 met3 tl => ?_⟩
  have hx3 := s3 _ _ hx2
  walk_at "s"
  refine ⟨x, dx, a, f, aL, aH, aR, aA, Ls, rm, ps, es, rfl, hx3, web2.sm s3, ok, fl.sm s3, tA.sm s3, fun m H4 nm s4 tm => ?_⟩
  walk_at "s"
  refine r_new fun t H5 nt s5 ht => ?_
  obtain ⟨ws', met', no⟩ := met
  refine k t l m _ _ H5 (((s02.trans s3).trans s4).trans s5) ht (tl.sm (s4.trans s5)) (tm.sm s5) ⟨rm, ws, by rw [fl.len, hdW_len], fil, met3, fun h => no ?_, rfl, rfl⟩
  exact Met.sub met3 met' _ h
end
end K33
set_option Elab.async false
set_option linter.all false
set_option maxRecDepth 100000
set_option maxHeartbeats 4000000
/-! K15: Chain.whole. -/
namespace K33
open PySem L2
/-! one step of a reading -/
local macro_rules | `(tactic| walk_at "look") => `(tactic| first | assumption | exact upd_same | (refine Same.at' (by assumption) ?_; walk_at "look"))
local macro_rules | `(tactic| walk_at "side") => `(tactic| first | exact .inr ⟨by decide, by decide⟩ | exact .inl ⟨by decide, by decide⟩ | (show (0 : Int) < _; decide) | exact ⟨by decide, by decide⟩ | omega)
local macro_rules | `(tactic| walk_at "tt") => `(tactic| first | assumption | exact decide_eq_true (by assumption) | exact decide_eq_true rfl | (rw [decide_eq_false (by assumption)]; rfl) | rfl | exact decide_eq_true (by omega) | (rw [decide_eq_false (by omega)]; rfl))
local macro_rules | `(tactic| walk_at "ff") => `(tactic| first | assumption | exact decide_eq_false (by assumption) | (rw [decide_eq_true (by assumption)]; rfl) | (rw [decide_eq_true rfl]; rfl) | rfl | exact decide_eq_false (by omega) | (rw [decide_eq_true (by omega)]; rfl))
local macro_rules | `(tactic| walk_at "fld") => `(tactic| fail)
local macro_rules | `(tactic| walk_at "s1") => `(tactic| first
  | with_reducible refine r_seq ?_
  | with_reducible refine r_asg ?_
  | with_reducible refine r_name ?_
  | ((with_reducible refine' r_var ?hv ?_); (case hv => exact rfl))
  | with_reducible refine r_c ?_
  | with_reducible refine r_op ?_
  | with_reducible refine r_un ?_
  | with_reducible refine r_neg ?_
  | with_reducible refine r_I0 ?_
  | ((with_reducible refine' r_I ?hc ?_); (case hc => walk_at "side"))
  | with_reducible refine r_eqI ?_
  | with_reducible refine r_neI ?_
  | with_reducible refine r_eqS ?_
  | with_reducible refine r_neS ?_
  | with_reducible refine r_B ?_
  | with_reducible refine r_test ?_
  | with_reducible refine r_chain ?_
  | with_reducible refine r_and ?_
  | with_reducible refine r_or ?_
  | with_reducible refine r_not ?_
  | with_reducible refine r_andV ?_
  | with_reducible refine r_orV ?_
  | with_reducible refine r_notV ?_
  | with_reducible refine r_nil ?_
  | with_reducible refine r_cons ?_
  | with_reducible refine r_call ?_
  | with_reducible refine r_CB ?_
  | with_reducible refine r_fld ?_
  | with_reducible refine r_tup ?_
  | walk_at "fld"
  | with_reducible refine r_lst ?_
  | with_reducible refine r_if ?_
  | with_reducible refine r_drop ?_
  | with_reducible refine r_ret ?_
  | with_reducible refine r_retN ?_
  | with_reducible refine r_next ?_
  | with_reducible refine r_cont ?_
  | with_reducible refine r_bm ?_
  | with_reducible refine r_gcons ?_
  | with_reducible refine r_gnil ?_
  | with_reducible refine r_for ?_
  | with_reducible refine r_lc ?_
  | with_reducible refine r_yes ?_
  | with_reducible refine r_iEnum ?_
  | with_reducible refine r_iList ?_
  | with_reducible refine r_iTup ?_
  | with_reducible refine r_iZip ?_
  | with_reducible refine r_iRng1 ?_
  | with_reducible refine r_iRng2 ?_
  | with_reducible refine r_din ?_
  | with_reducible refine r_dnotin ?_
  | with_reducible refine r_dget ?_
  | with_reducible refine r_dget2 ?_
  | with_reducible refine r_dput ?_
  | with_reducible refine r_dnewK ?_
  | with_reducible refine r_gsub ?_
  | ((with_reducible refine' r_dinL (Rd.of ?h) ?_); (case h => walk_at "look"))
  | ((with_reducible refine' r_isD (Rd.of ?h) ?_); (case h => walk_at "look"))
  | ((with_reducible refine' r_dget2L (Rd.of ?h) ?_); (case h => walk_at "look"))
  | ((with_reducible refine' r_dgetL (Rd.of ?h) ?e ?_); (case h => walk_at "look"); (case e => first | assumption | rfl))
  | ((with_reducible refine' r_dgetL (rd_frz ?h) ?e ?_); (case h => assumption); (case e => first | assumption | rfl))
  | ((with_reducible refine' r_lt2 ?h1 ?h2 ?_); (case h1 => walk_at "look"); (case h2 => walk_at "look"))
  | with_reducible refine r_sl ?_
  | with_reducible refine r_noPart ?_
  | with_reducible refine r_part ?_
  | with_reducible refine r_exi ?_
  | ((with_reducible refine' r_tyL ?h ?_); (case h => walk_at "look"))
  | with_reducible refine r_isN ?_
  | with_reducible refine r_notN ?_
  | with_reducible refine r_isB ?_
  | with_reducible refine r_notB ?_
  | with_reducible refine r_min2' ?_
  | with_reducible refine r_max2' ?_
  | with_reducible refine r_isi (.base (.int _)) kII ?_
  | with_reducible refine r_isi (.base (.int _)) kIB ?_
  | with_reducible refine r_isi (.base (.str _)) kSS ?_
  | with_reducible refine r_isi (.base (.bl _)) kBB ?_
  | ((with_reducible refine' r_isi (.base (.tup ?h)) kTT ?_); (case h => walk_at "look"))
  | ((with_reducible refine' r_isi (.base (.lst ?h)) kLL ?_); (case h => walk_at "look"))
  | ((with_reducible refine' r_lenS (Or.inr (SqT.of ?h)) ?_); (case h => walk_at "look"))
  | ((with_reducible refine' r_lenS (Or.inl (SqL.of ?h)) ?_); (case h => walk_at "look"))
  | ((with_reducible refine' r_ixT (SqT.of ?h) ?e ?_); (case h => walk_at "look"); (case e => rfl))
  | ((with_reducible refine' r_gtup (SqT.of ?h) ?e ?_); (case h => walk_at "look"); (case e => rfl))
  | ((with_reducible refine r_tlen ?e ?_); (case e => exact Nat.le_of_ble_eq_true rfl))
  | with_reducible refine r_iteT ?_
  | with_reducible refine r_iteF ?_
  | with_reducible refine r_exb2 ?_
  | ((with_reducible refine r_iteP ?hc ?_); (case hc => walk_at "tt"))
  | ((with_reducible refine r_iteN ?hc ?_); (case hc => walk_at "ff")))
local macro_rules | `(tactic| walk_at "s") => `(tactic| repeat (walk_at "s1"))

/-! fields and methods of this class -/
local macro_rules | `(tactic| walk_at "lk") => `(tactic| first | with_reducible exact pfC1_prices _ | with_reducible exact pfC2_prices _ _ | with_reducible exact pfC2_near _ _ | with_reducible exact pfC3_prices _ _ _ | with_reducible exact pfC3_near _ _ _ | with_reducible exact pfC3_paid _ _ _ | with_reducible exact pfC4_prices _ _ _ _ | with_reducible exact pfC4_near _ _ _ _ | with_reducible exact pfC4_paid _ _ _ _ | with_reducible exact pfC4_due_ties _ _ _ _ | with_reducible exact pfC5_prices _ _ _ _ _ | with_reducible exact pfC5_near _ _ _ _ _ | with_reducible exact pfC5_paid _ _ _ _ _ | with_reducible exact pfC5_due_ties _ _ _ _ _ | with_reducible exact pfC5_ins _ _ _ _ _ | with_reducible exact pfC6_prices _ _ _ _ _ _ | with_reducible exact pfC6_near _ _ _ _ _ _ | with_reducible exact pfC6_paid _ _ _ _ _ _ | with_reducible exact pfC6_due_ties _ _ _ _ _ _ | with_reducible exact pfC6_ins _ _ _ _ _ _ | with_reducible exact pfC6_outs _ _ _ _ _ _)
local macro_rules | `(tactic| walk_at "lookC") => `(tactic| first | with_reducible exact flC_prices _ _ _ _ _ _ | with_reducible exact flC_near _ _ _ _ _ _ | with_reducible exact flC_paid _ _ _ _ _ _ | with_reducible exact flC_due_ties _ _ _ _ _ _ | with_reducible exact flC_ins _ _ _ _ _ _ | with_reducible exact flC_outs _ _ _ _ _ _ | walk_at "lk")
local macro_rules | `(tactic| walk_at "noC") => `(tactic| first | with_reducible exact flC_no_is_loose _ _ _ _ _ _ | with_reducible exact flC_no_has_due _ _ _ _ _ _ | with_reducible exact flC_no_is_so _ _ _ _ _ _ | with_reducible exact flC_no_take _ _ _ _ _ _ | with_reducible exact flC_no_lets _ _ _ _ _ _ | with_reducible exact flC_no_whole _ _ _ _ _ _)
local macro_rules | `(tactic| walk_at "atC") => `(tactic| first | with_reducible exact IsC.n_prices (by assumption) | with_reducible exact IsC.n_near (by assumption) | with_reducible exact IsC.n_paid (by assumption) | with_reducible exact IsC.n_due_ties (by assumption) | with_reducible exact IsC.n_ins (by assumption) | with_reducible exact IsC.n_outs (by assumption))
local macro_rules | `(tactic| walk_at "fld") => `(tactic| ((with_reducible refine' r_exf ?h (IsC.cl (by assumption)) ?n ?l ?_); (case h => walk_at "look"); (case n => walk_at "atC"); (case l => walk_at "lookC")))
local macro_rules | `(tactic| walk_at "fld") => `(tactic| ((with_reducible refine' r_methL ?h ?n ?_); (case h => walk_at "look"); (case n => walk_at "noC")))
local macro_rules | `(tactic| walk_at "fld") => `(tactic| with_reducible refine r_meth ?_)
local macro_rules | `(tactic| walk_at "fld") => `(tactic| with_reducible refine r_make ?_)
local macro_rules | `(tactic| walk_at "fld") => `(tactic| with_reducible refine r_fset ?_)

def Lk.kind : Lk → Str
  | .loose _ => "loose"
  | .beside _ _ => "beside"
  | .tight _ _ => "tight"
theorem eC_last (c : Lk) : atI (eC c) (-1) = some (.int c.last) := by cases c <;> rfl
theorem eC_kind (c : Lk) : atI (eC c) 0 = some (.str c.kind) := by cases c <;> rfl
theorem kind_b (c : Lk) : decide (c.kind = ("beside" : Str)) = c.isB := by
  cases c with
  | loose v => exact decide_eq_false st_lb
  | beside u v => exact decide_eq_true rfl
  | tight u v => exact decide_eq_false st_tb
theorem atI_snoc (rs : List Addr) (q : Addr) : atI ((rs ++ [q]).map V.ref) (-1) = some (.ref q) := by rw [List.map_append]; exact atI_last _ _
section
variable {σ : L2.St} {K : PySem.W.Frag} {g : TG} {te : TE}
theorem k_keys {d : Addr} {od : Obj} {kvs : List (Key × V)} {td : TE} {G : Hp} {tt : TT} {vs : List Nat} {Q : VK} (A : Nat → List V → Hp → Prop) (hd : G d = some (.frz od (.dK kvs))) (ht : ∀ R : VK, R (.ref d) G → td σ G R) (h0 : ∀ G, A 0 [] G)
    (hs : ∀ D (i : Nat) k v acc H', G D = none → kvs[i]? = some (k, v) → Same G H' → H' D = some (.lst acc) → A i acc H' → g (kV k) (wipe σ vs) H' fun σ2 H2 => wipe σ2 vs = wipe σ vs ∧ tt σ2 H2 fun b H3 =>
      if b = true then te σ2 H3 fun y H4 => ∃ acc, H4 D = some (.lst acc) ∧ acc.length < sizeLine ∧ PC A G D (i + 1) (upd H4 D (.lst (acc ++ [y]))) else PC A G D (i + 1) H3)
    (he : ∀ D acc H', G D = none → Same G H' → H' D = some (.lst acc) → A kvs.length acc H' → Q (.ref D) H') : iKeys td σ G fun J H1 => CompP J g tt te vs σ H1 Q :=
  ht _ ⟨d, od, rfl, .inl ⟨kvs, hd, fun D nD => lc_it (walk_keys (d := d) (o := od) (kvs := kvs)) (PC A G D) ⟨nD, sm_new nD, [], upd_same, h0 _⟩ (fun i H' hi p => p.2.1 _ _ hd) (fun i x H' H2 hi ⟨nD, s, acc, e, a⟩ ⟨eq, k, v, hk, ex⟩ => by
    subst eq
    subst ex
    exact hs D i k v acc _ nD hk s e a) (fun H' ⟨nD, s, acc, e, a⟩ => he D acc H' nD s e a)⟩⟩
end
section
variable {P : Program} {w : World} {K : PySem.W.Frag} {mg : Str → Option Value} {base : Heap} {CC : Addr}
def spWhole (C : Addr) : Sp := fun vs H Q _ => ∃ (c dx pr nr pd dt iA oA : Addr) (ps es : List (Int × Int)) (ds : List (Int × Int × Int)), vs = [.ref c] ∧ H c = some (.ins C dx (flC (.ref pr) (.ref nr) (.ref pd) (.ref dt) (.ref iA) (.ref oA))) ∧
  ChEnv H ps es ds pr nr pd dt ∧ WebOk ps es ∧ H iA = some (.dK []) ∧ H oA = some (.dK []) ∧ iA ≠ oA ∧ pr ≠ iA ∧ pr ≠ oA ∧ nr ≠ iA ∧ nr ≠ oA ∧ pd ≠ iA ∧ pd ≠ oA ∧
  ∀ D H' cs, H D = none → (∀ b o, b ≠ iA → b ≠ oA → H b = some o → H' b = some o) → Tab H' D (cs.map eC) → Whole ps es ds cs → Q (.ref D) H'
theorem ok_whole {f : Addr} {fd : FuncData} (F : Fun K "whole" "Chain.whole" sChain_whole f fd) (T : Txt K mg) (ic : IsC K CC)
    (CM_is_loose : CanM P w K mg base CC 1 "is_loose" ["self", "place"] (spIsLoose CC)) (CM_has_due : CanM P w K mg base CC 1 "has_due" ["self", "one", "other"] (spHasDue CC)) (CM_take : CanM P w K mg base CC 1 "take" ["self", "thing"] (spTake CC)) : FnOk P w K mg base CX0 2 f fd ["self"] (spWhole CC) := by
  have cC := ic.cl
  refine F.ok scChain_whole (fun vs H Q E h => ?_) (fun cdv A outer s H vs Q E hr h => ?_)
  · obtain ⟨c, dx, pr, nr, pd, dt, iA, oA, ps, es, ds, rfl, _⟩ := h; rfl
  obtain ⟨c, dx, pr, nr, pd, dt, iA, oA, ps, es, ds, rfl, hc, env, ok, hI, hO, nio, m1, m2, m3, m4, m5, m6, k⟩ := h
  have l40 := ok.p.len
  have npr : c ≠ pr := ne_of hc env.prices (fun z => by cases z)
  have nci : c ≠ iA := ne_of hc hI (fun z => by cases z)
  have nco : c ≠ oA := ne_of hc hO (fun z => by cases z)
  refine ⟨_, (pss_cons (ps_lock (ps_setLc (i := 2) (own := [("place", 1)]) rfl scChain_whole.nd rfl rfl (sw_true rfl rfl rfl (by decide +kernel)) (pi_keys (peFK (K := K) (pv 0) rfl)) (blkOk_by (own := [("place", 1)]) (N := ["self", "place", "told", "one", "at", "other"]) (sc := defScope sChain_whole) (by decide +kernel)) (fun _ _ _ _ _ => (pg_name (i := 1) scChain_whole.nd rfl (Or.inl rfl))) (fun _ _ _ _ _ => (pts_one (pt_val (pc_meth (pv 0) cC CM_is_loose (hr.mono (by decide)) (pa_cons (pv 1) pa_nil))))) (fun _ _ _ _ _ => (pe_tup (pa_cons pe_str (pa_cons (pv 1) pa_nil))))))
 (pss_cons (ps_for PassesOwn.never rfl (piLK (K := K) (pv 2)) (pg_name (i := 3) scChain_whole.nd rfl (Or.inl rfl))
 (pss_one (ps_expr (pc_meth (pv 0) cC CM_take (hr.mono (by decide)) (pa_cons (pv 3) pa_nil)))))
 (pss_cons (ps_set (i := 4) scChain_whole.nd rfl (Or.inl rfl) pe_int)
 (pss_cons (ps_while PassesOwn.never (pt_cmpR op_lt (pv 4) (pe_callB (lenK (K := K)) (by rfl) T.fLen bt_len (pa_cons (pv 2) pa_nil)) (nomark _))
 (pss_cons (ps_set (i := 1) scChain_whole.nd rfl (Or.inl rfl) (pe_ix (ixTK (K := K)) (pe_ix (ixLK (K := K)) (pv 2) (pv 4) (fun _ _ => rfl)) (pe_un un_neg pe_int) (fun _ _ => rfl)))
 (pss_cons (ps_for PassesOwn.never rfl (piLK (K := K) (pe_dget (hu_of hr) (peFK (K := K) (pv 0) rfl) (pv 1) (fun _ _ => rfl))) (pg_name (i := 5) scChain_whole.nd rfl (Or.inl rfl))
 (pss_one (ps_if (PW.pt (pw_and (pt_cmpR op_ne (pe_ix (ixTK (K := K)) (pe_ix (ixLK (K := K)) (pv 2) (pv 4) (fun _ _ => rfl)) pe_int (fun _ _ => rfl)) pe_str (nomark _)) (pw_and1 (pt_cmp (pc_dnotin (hu_of hr) (pv 5) (peFK (K := K) (pv 0) rfl))))))
 (pss_cons (ps_expr (peMK (K := K) PySem.F.plainAttrs_list PySem.F.slot_list_append PySem.F.type_list_append mt_append (pv 2) (pa_cons (pe_tup (pa_cons pe_str (pa_cons (pv 1) (pa_cons (pv 5) pa_nil)))) pa_nil)))
 (pss_one (ps_expr (pc_meth (pv 0) cC CM_take (hr.mono (by decide)) (pa_cons (pe_ix (ixLK (K := K)) (pv 2) (pe_un un_neg pe_int) (fun _ _ => rfl)) pa_nil)))))
 (pss_one (ps_if (PW.pt (pw_and (pt_cmpR op_eq (pe_ix (ixTK (K := K)) (pe_ix (ixLK (K := K)) (pv 2) (pv 4) (fun _ _ => rfl)) pe_int (fun _ _ => rfl)) pe_str (nomark _)) (pw_and (pt_val (pc_meth (pv 0) cC CM_has_due (hr.mono (by decide)) (pa_cons (pv 1) (pa_cons (pv 5) pa_nil)))) (pw_and1 (pt_cmp (pc_dnotin (hu_of hr) (pv 5) (peFK (K := K) (pv 0) rfl)))))))
 (pss_cons (ps_expr (peMK (K := K) PySem.F.plainAttrs_list PySem.F.slot_list_append PySem.F.type_list_append mt_append (pv 2) (pa_cons (pe_tup (pa_cons pe_str (pa_cons (pv 1) (pa_cons (pv 5) pa_nil)))) pa_nil)))
 (pss_one (ps_expr (pc_meth (pv 0) cC CM_take (hr.mono (by decide)) (pa_cons (pe_ix (ixLK (K := K)) (pv 2) (pe_un un_neg pe_int) (fun _ _ => rfl)) pa_nil)))))
 pss_nil)))))
 (pss_one (ps_set (i := 4) scChain_whole.nd rfl (Or.inl rfl) (pe_op op_add (pv 4) pe_int))))))
 (pss_one (ps_ret (pv 2))))))), ?_⟩
  refine r_seq ⟨pr, .dK _, env.prices, trivial, fun od => ?_⟩
  have hpG : (upd H pr (.frz od (.dK (kvI (pbK ps))))) pr = some (.frz od (.dK (kvI (pbK ps)))) := upd_same
  have hcG : (upd H pr (.frz od (.dK (kvI (pbK ps))))) c = some (.ins CC dx (flC (.ref pr) (.ref nr) (.ref pd) (.ref dt) (.ref iA) (.ref oA))) := by rw [upd_ne npr]; exact hc
  have hdG : Rd (upd H pr (.frz od (.dK (kvI (pbK ps))))) pd (.dK (kvI (pbK (paidL ds)))) := by
    by_cases e : pd = pr
    · have q := env.paid
      rw [e, env.prices] at q
      have q := HO.dK.inj (Option.some.inj q)
      rw [e, ← q]
      exact rd_frz upd_same
    · exact Rd.of (by rw [upd_ne e]; exact env.paid)
  have lkv : (kvI (pbK ps)).length = ps.length := by rw [kvI_len]; unfold pbK; rw [List.length_map]
  walk_at "s"
  refine k_keys (fun i acc G => ∃ us : List Addr, acc = us.map V.ref ∧ Paired (fun t r => G t = some (.tup r)) us ((loosesOf ps ds (ps.take i)).map eC)) hpG (fun R hR => by
    walk_at "s"
    exact hR) (fun G => ⟨[], rfl, by simpa [loosesOf] using Paired.nil⟩) ?_ ?_
  · intro D i kk v acc H' nD hkv sm hD ⟨us, eA, pu⟩
    obtain ⟨p, hpi, rfl⟩ : ∃ p, ps[i]? = some p ∧ kk = Sum.inl p.1 := by
      unfold kvI pbK at hkv
      rw [List.getElem?_map, List.getElem?_map] at hkv
      obtain ⟨a, ha, ea⟩ := Option.map_eq_some_iff.mp hkv
      obtain ⟨p, hp, rfl⟩ := Option.map_eq_some_iff.mp ha
      cases ea
      exact ⟨p, hp, rfl⟩
    have hin : p.1 ∈ ps.map (·.1) := List.mem_map.mpr ⟨p, getElem?_mem' hpi, rfl⟩
    have hcH := sm _ _ hcG
    have hlen : acc.length ≤ 40 := by
      have q := paired_len pu
      rw [List.length_map] at q
      have q2 := loosesOf_len ps ds (ps.take i)
      rw [List.length_take] at q2
      rw [eA, List.length_map]; omega
    walk_at "s"
    refine ⟨rfl, ?_⟩
    walk_at "s"
    refine ⟨c, dx, pr, nr, pd, dt, iA, oA, p.1, ps, ds, rfl, hcH, rd_frz (sm _ _ hpG), sm_rd sm hdG, hin, ?_⟩
    by_cases lo : paidOf ds p.1 < 2 * hv ps p.1
    · refine r_exb3 (b' := true) (decide_eq_true lo) (r_iteT ?_)
      walk_at "s"
      refine r_new fun q H7 nq s7 e7 => ?_
      refine c_end (fun i acc G D ys zs hG ⟨us, e, p⟩ => ⟨us, e, L2.Paired.mapP p fun t r h => by rw [upd_ne (ne_of h hG (fun z => by cases z))]; exact h⟩) nD (sm.trans s7) (s7 _ _ hD) (by omega) ⟨us ++ [q], by rw [eA, List.map_append]; rfl, ?_⟩
      rw [loosesOf_snoc hpi, if_pos lo, List.map_append]
      exact paired_snoc (tab_sm s7 pu) e7
    · refine r_exb3 (b' := false) (decide_eq_false lo) (r_iteF ?_)
      refine c_skip nD sm hD ⟨us, eA, ?_⟩
      rw [loosesOf_snoc hpi, if_neg lo, List.append_nil]
      exact pu
  · intro D acc H' nD sm hD ⟨us, eA, pu⟩
    rw [lkv, List.take_of_length_le (Nat.le_refl _)] at pu
    rw [eA] at hD
    walk_at "s"
    refine ⟨sm _ _ hpG, ?_⟩
    have nDpr : D ≠ pr := fun e => by rw [e, hpG] at nD; cases nD
    have nDH : H D = none := by rw [upd_ne nDpr] at nD; exact nD
    have sm1 : Same H (upd H' pr (.dK (kvI (pbK ps)))) := fun b o e => by
      by_cases z : b = pr
      · subst z
        rw [upd_same, ← e, env.prices]
      · rw [upd_ne z]
        exact sm _ _ (by rw [upd_ne z]; exact e)
    have hD1 : (upd H' pr (.dK (kvI (pbK ps)))) D = some (.lst (us.map V.ref)) := by rw [upd_ne nDpr]; exact hD
    have pu1 : Paired (fun t r => (upd H' pr (.dK (kvI (pbK ps)))) t = some (.tup r)) us ((loosesOf ps ds ps).map eC) := L2.Paired.mapP pu fun t r h => by
      rw [upd_ne (ne_of h (sm _ _ hpG) (fun z => by cases z))]; exact h
    generalize upd H' pr (.dK (kvI (pbK ps))) = H1 at sm1 hD1 pu1 ⊢
    have lus : us.length = (loosesOf ps ds ps).length := by have q := paired_len pu1; rwa [List.length_map] at q
    have l40' : (loosesOf ps ds ps).length ≤ 40 := Nat.le_trans (loosesOf_len ps ds ps) l40
    have DnI : D ≠ iA := ne_of hD1 (sm1 _ _ hI) (fun z => by cases z)
    have DnO : D ≠ oA := ne_of hD1 (sm1 _ _ hO) (fun z => by cases z)
    walk_at "s"
    refine l_list (fun i σ H' => ∃ (x1 x3 x4 x5 : Option V), σ = [some (.ref c), x1, some (.ref D), x3, x4, x5] ∧ (∀ b o, b ≠ iA → b ≠ oA → H1 b = some o → H' b = some o) ∧ H' iA = some (.dK (kvS (insAll ((loosesOf ps ds ps).take i)))) ∧ H' oA = some (.dK (kvS (outsAll ((loosesOf ps ds ps).take i)))) ∧ (insAll ((loosesOf ps ds ps).take i)).length ≤ i ∧ (outsAll ((loosesOf ps ds ps).take i)).length ≤ i) hD1
      ⟨_, _, _, _, rfl, fun _ _ _ _ h => h, sm1 _ _ hI, sm1 _ _ hO, Nat.le_refl _, Nat.le_refl _⟩ (fun i σ H' hi ⟨_, _, _, _, _, q, _⟩ => q _ _ DnI DnO hD1) ?_ ?_
    · rintro i v σ H2 hv ⟨x1, x3, x4, x5, rfl, fr, hI2, hO2, lI, lO⟩
      obtain ⟨t, lk, rfl, ht, hli, hrow⟩ := tab_at pu1 hv
      have hi : i < (loosesOf ps ds ps).length := (List.getElem?_eq_some_iff.mp hli).1
      have hc2 := fr _ _ nci nco (sm1 _ _ hc)
      have ht2 := fr _ _ (ne_of hrow (sm1 _ _ hI) (fun z => by cases z)) (ne_of hrow (sm1 _ _ hO) (fun z => by cases z)) hrow
      walk_at "s"
      refine ⟨c, dx, pr, nr, pd, dt, iA, oA, t, _, _, lk, rfl, hc2, hI2, hO2, nio, by omega, by omega, ht2, fun H3 q1 q2 q3 => ?_⟩
      have tk : (loosesOf ps ds ps).take (i + 1) = (loosesOf ps ds ps).take i ++ [lk] := by rw [List.take_add_one, hli]; rfl
      have z1 := insOf_len (insAll ((loosesOf ps ds ps).take i)) lk
      have z2 := outsOf_len (outsAll ((loosesOf ps ds ps).take i)) lk
      refine ⟨_, _, _, _, rfl, fun b o n1 n2 h => by rw [q1 b n1 n2]; exact fr _ _ n1 n2 h, ?_, ?_, ?_, ?_⟩
      · rw [tk, insAll_snoc]; exact q2
      · rw [tk, outsAll_snoc]; exact q3
      · rw [tk, insAll_snoc]; omega
      · rw [tk, outsAll_snoc]; omega
    · rintro σ H2 ⟨x1, x3, x4, x5, rfl, fr, hI2, hO2, lI, lO⟩
      rw [List.take_of_length_le (by rw [List.length_map]; omega)] at hI2 hO2
      have fr2 : ∀ b o, b ≠ iA → b ≠ oA → H b = some o → H2 b = some o := fun b o n1 n2 h => fr _ _ n1 n2 (sm1 _ _ h)
      have tab2 : Tab H2 D ((loosesOf ps ds ps).map eC) := ⟨us, fr _ _ DnI DnO hD1, L2.Paired.mapP pu1 fun t r h => fr _ _ (ne_of h (sm1 _ _ hI) (fun z => by cases z)) (ne_of h (sm1 _ _ hO) (fun z => by cases z)) h⟩
      have ws2 : WS ps es ds (loosesOf ps ds ps) := by
        have q := (looses_ws (es := es) (ds := ds) ok.p.nd ps.length (Nat.le_refl _)).1
        rwa [List.take_of_length_le (Nat.le_refl _)] at q
      have lo2 := looses_lo (ps := ps) (ds := ds)
      walk_at "s"
      let Wh : Nat → L2.St → Hp → Prop := fun m σ H' => ∃ (n : Nat) (cs : List Lk) (x1 x3 x5 : Option V), σ = [some (.ref c), x1, some (.ref D), x3, some (nV n), x5] ∧ m = 80 - n ∧ n ≤ cs.length ∧ WS ps es ds cs ∧ (∀ p ∈ ps.map (·.1), paidOf ds p < 2 * hv ps p → p ∈ outsAll cs) ∧ Done es ds cs n ∧
        (∀ b o, b ≠ iA → b ≠ oA → H b = some o → H' b = some o) ∧ Tab H' D (cs.map eC) ∧ H' iA = some (.dK (kvS (insAll cs))) ∧ H' oA = some (.dK (kvS (outsAll cs)))
      refine ⟨Wh, ⟨80, 0, loosesOf ps ds ps, _, _, _, rfl, rfl, Nat.zero_le _, ws2, lo2, fun i hi => absurd hi (Nat.not_lt_zero _), fr2, tab2, hI2, hO2⟩, ?_⟩
      rintro m σ H3 ⟨n, cs, x1, x3, x5, rfl, rfl, hn, ws, lo, dn, fr3, ⟨rs, hD3, pr3⟩, hI3, hO3⟩
      have lrs : rs.length = cs.length := by have q := paired_len pr3; rwa [List.length_map] at q
      have lrs' : (rs.map V.ref).length = cs.length := by rw [List.length_map]; exact lrs
      have l80 : cs.length ≤ 80 := by
        have a := ws.ins_le
        have b := ws.outs_le
        have c := ws.len
        omega
      walk_at "s"
      rw [lrs']
      by_cases nlt : n < cs.length
      · have hg : (rs.map V.ref)[n]? = some (.ref (rs[n]'(by omega))) := by rw [List.getElem?_map, List.getElem?_eq_getElem (by omega)]; rfl
        obtain ⟨t, lk, et, ht, hli, hrow⟩ := tab_at pr3 hg
        rw [et] at hg
        have hmem := getElem?_mem' hli
        have hkey := ws.at_ lk hmem lk.last lk.last_at
        obtain ⟨ls, hll, hnr, hnear⟩ := env.near
        obtain ⟨j, p, hp, ep⟩ := place_at hkey
        have hj : j < ls.length := by have := (List.getElem?_eq_some_iff.mp hp).1; omega
        have hl : ls[j]? = some ls[j] := List.getElem?_eq_getElem hj
        obtain ⟨ns, hns, hmemN, l240⟩ := hnear j _ p hl hp
        have vg := zipK_get ok.p hll hp hl
        rw [ep] at vg hmemN
        have hc3 := fr3 _ _ nci nco hc
        have hnr3 := fr3 _ _ m3 m4 hnr
        have lnI : ls[j] ≠ iA := ne_of hns hI (fun z => by cases z)
        have lnO : ls[j] ≠ oA := ne_of hns hO (fun z => by cases z)
        have hns3 := fr3 _ _ lnI lnO hns
        have lns : (ns.map V.int).length = ns.length := List.length_map ..
        walk_at "s"
        refine ⟨fun σ' H' => ∃ m', m' < 80 - n ∧ Wh m' σ' H', fun _ _ h => h, ?_⟩
        walk_at "s"
        refine r_ixI hD3 rfl hg ?_
        walk_at "s"
        refine r_ixT (SqT.of hrow) (eC_last lk) ?_
        walk_at "s"
        refine l_list (fun i σ H' => ∃ (r : List Lk) (x3 x5 : Option V), σ = [some (.ref c), some (.int lk.last), some (.ref D), x3, some (nV n), x5] ∧ WS ps es ds (cs ++ r) ∧ (∀ j, j < i → ∀ q, ns[j]? = some q → Good ds (cs ++ r) lk q) ∧
          (∀ b o, b ≠ iA → b ≠ oA → H b = some o → H' b = some o) ∧ Tab H' D ((cs ++ r).map eC) ∧ H' iA = some (.dK (kvS (insAll (cs ++ r)))) ∧ H' oA = some (.dK (kvS (outsAll (cs ++ r))))) hns3
          ⟨[], _, _, rfl, by rw [List.append_nil]; exact ws, fun j hj => absurd hj (Nat.not_lt_zero _), fr3, by rw [List.append_nil]; exact ⟨rs, hD3, pr3⟩, by rw [List.append_nil]; exact hI3, by rw [List.append_nil]; exact hO3⟩ (fun i σ H' hi ⟨_, _, _, _, _, _, q, _⟩ => q _ _ lnI lnO hns) ?_ ?_
        · rintro i v σ H4 hv ⟨r, y3, y5, rfl, ws4, gd4, fr4, ⟨rs4, hD4, pr4⟩, hI4, hO4⟩
          rw [List.getElem?_map] at hv
          obtain ⟨q, hq, rfl⟩ := Option.map_eq_some_iff.mp hv
          have tied : Tied es lk.last q := (hmemN q).mp (getElem?_mem' hq)
          have qkey : q ∈ ps.map (·.1) := by
            rcases tied with h | h
            · exact (ok.t.each _ h).2.2
            · exact (ok.t.each _ h).2.1
          have lrs4 : rs4.length = (cs ++ r).length := by have q := paired_len pr4; rwa [List.length_map] at q
          have l80' : (cs ++ r).length ≤ 80 := by
            have a := ws4.ins_le
            have b := ws4.outs_le
            have c := ws4.len
            omega
          have liA : (insAll (cs ++ r)).length ≤ 40 := Nat.le_trans ws4.ins_le l40
          have loA : (outsAll (cs ++ r)).length ≤ 40 := Nat.le_trans ws4.outs_le l40
          have lrn : n < rs4.length := by rw [lrs4, List.length_append]; omega
          have hg4 : (rs4.map V.ref)[n]? = some (.ref (rs4[n]'lrn)) := by rw [List.getElem?_map, List.getElem?_eq_getElem lrn]; rfl
          obtain ⟨t4, lk4, et4, ht4, hli4, hrow4⟩ := tab_at pr4 hg4
          rw [et4] at hg4
          rw [List.getElem?_append_left nlt, hli] at hli4
          cases hli4
          have hc4 := fr4 _ _ nci nco hc
          have DI4 : D ≠ iA := DnI
          have fin : ∀ (c2 : Lk) (H5 : Hp) (q5 : Addr), okL ps es ds (insAll (cs ++ r)) (outsAll (cs ++ r)) c2 → (∀ p ∈ c2.at, p ∈ ps.map (·.1)) → (c2.isB = true → c2.last ∉ insAll (cs ++ r)) → (c2.isB = false → c2.last ∉ outsAll (cs ++ r)) → Good ds ((cs ++ r) ++ [c2]) lk q → (∀ b o, H4 b = some o → H5 b = some o) → H5 q5 = some (.tup (eC c2)) →
              ∀ H6 : Hp, (∀ b, b ≠ D → H6 b = H5 b) → H6 D = some (.lst (rs4.map V.ref ++ [.ref q5])) → ∀ H7 : Hp, (∀ b, b ≠ iA → b ≠ oA → H7 b = H6 b) → H7 iA = some (.dK (kvS (insOf (insAll (cs ++ r)) c2))) → H7 oA = some (.dK (kvS (outsOf (outsAll (cs ++ r)) c2))) →
              WS ps es ds (cs ++ (r ++ [c2])) ∧ (∀ j, j < i + 1 → ∀ q, ns[j]? = some q → Good ds (cs ++ (r ++ [c2])) lk q) ∧ (∀ b o, b ≠ iA → b ≠ oA → H b = some o → H7 b = some o) ∧ Tab H7 D ((cs ++ (r ++ [c2])).map eC) ∧ H7 iA = some (.dK (kvS (insAll (cs ++ (r ++ [c2]))))) ∧ H7 oA = some (.dK (kvS (outsAll (cs ++ (r ++ [c2]))))) := by
            intro c2 H5 q5 okl hat n1 n2 gd s5 hq5 H6 q6 hD6 H7 q7 hI7 hO7
            have hI5 := s5 _ _ hI4
            have hO5 := s5 _ _ hO4
            have hD5 := s5 _ _ hD4
            rw [← List.append_assoc]
            refine ⟨ws4.push okl hat n1 n2, fun j hj q' hq' => ?_, fun b o n1 n2 e => ?_, ⟨rs4 ++ [q5], ?_, ?_⟩, by rw [insAll_snoc]; exact hI7, by rw [outsAll_snoc]; exact hO7⟩
            · by_cases e : j < i
              · exact (gd4 j e q' hq').app _
              · have : j = i := by omega
                subst this
                rw [hq] at hq'
                cases hq'
                exact gd
            · rw [q7 b n1 n2, q6 b (ne_of_none e nDH)]
              exact s5 _ _ (fr4 _ _ n1 n2 e)
            · rw [q7 D DnI DnO, hD6, List.map_append]; rfl
            · have tt : ∀ {t : Addr} {r : List V}, H5 t = some (.tup r) → H7 t = some (.tup r) := fun {t r} h => by
                rw [q7 t (ne_of h hI5 (fun z => by cases z)) (ne_of h hO5 (fun z => by cases z)), q6 t (ne_of h hD5 (fun z => by cases z))]
                exact h
              rw [List.map_append]
              exact paired_snoc (L2.Paired.mapP pr4 fun t r h => tt (s5 _ _ h)) (tt hq5)
          have skip : ∀ H5 : Hp, Same H4 H5 → Good ds (cs ++ r) lk q → WS ps es ds (cs ++ r) ∧ (∀ j, j < i + 1 → ∀ q, ns[j]? = some q → Good ds (cs ++ r) lk q) ∧ (∀ b o, b ≠ iA → b ≠ oA → H b = some o → H5 b = some o) ∧ Tab H5 D ((cs ++ r).map eC) ∧ H5 iA = some (.dK (kvS (insAll (cs ++ r)))) ∧ H5 oA = some (.dK (kvS (outsAll (cs ++ r)))) := by
            intro H5 s5 gd
            refine ⟨ws4, fun j hj q' hq' => ?_, fun b o n1 n2 e => s5 _ _ (fr4 _ _ n1 n2 e), ⟨rs4, s5 _ _ hD4, tab_sm s5 pr4⟩, s5 _ _ hI4, s5 _ _ hO4⟩
            by_cases e : j < i
            · exact gd4 j e q' hq'
            · have : j = i := by omega
              subst this
              rw [hq] at hq'
              cases hq'
              exact gd
          walk_at "s"
          refine r_ixI hD4 rfl hg4 ?_
          walk_at "s"
          refine r_ixT (SqT.of hrow4) (eC_kind lk) ?_
          walk_at "s"
          rw [kind_b]
          have hmem' : lk ∈ cs ++ r := List.mem_append.mpr (.inl hmem)
          cases hb : lk.isB with
          | false =>
            walk_at "s"
            rw [kvS_in]
            by_cases hin : q ∈ insAll (cs ++ r)
            · walk_at "s"
              refine r_ixI hD4 rfl hg4 ?_
              walk_at "s"
              refine r_ixT (SqT.of hrow4) (eC_kind lk) ?_
              walk_at "s"
              rw [kind_b, hb]
              walk_at "s"
              obtain ⟨f1, f2, f3, f4, f5, f6⟩ := skip H4 (fun _ _ h => h) (by unfold Good; rw [if_neg (by rw [hb]; decide)]; exact hin)
              exact ⟨r, _, _, rfl, f1, f2, f3, f4, f5, f6⟩
            · walk_at "s"
              refine r_new fun q5 H5 nq5 s5 hq5 => ?_
              walk_at "s"
              refine r_appendN (s5 _ _ hD4) (by rw [List.length_map]; omega) fun H6 q6 hD6 => ?_
              have hD6' : H6 D = some (.lst ((rs4 ++ [q5]).map V.ref)) := by rw [hD6, List.map_append]; rfl
              have hc6 : H6 c = _ := (q6 c (ne_of_none hc nDH)).trans (s5 _ _ hc4)
              have hI6 : H6 iA = _ := (q6 iA DnI.symm).trans (s5 _ _ hI4)
              have hO6 : H6 oA = _ := (q6 oA DnO.symm).trans (s5 _ _ hO4)
              have hq6 : H6 q5 = _ := (q6 q5 (ne_of hq5 (s5 _ _ hD4) (fun z => by cases z))).trans hq5
              walk_at "s"
              refine r_ixL (SqL.of hD6') (atI_snoc rs4 q5) ?_
              walk_at "s"
              refine ⟨c, dx, pr, nr, pd, dt, iA, oA, q5, _, _, .beside lk.last q, rfl, hc6, hI6, hO6, nio, by omega, by omega, hq6, fun H7 q7 hI7 hO7 => ?_⟩
              have okl : okL ps es ds (insAll (cs ++ r)) (outsAll (cs ++ r)) (.beside lk.last q) := ⟨(outsAll_mem _ _).mpr ⟨lk, hmem', hb, rfl⟩, tied⟩
              obtain ⟨f1, f2, f3, f4, f5, f6⟩ := fin (.beside lk.last q) H5 q5 okl (fun p hp => by
                rcases List.mem_cons.mp hp with e | e
                · rw [e]; exact hkey
                · have : p = q := by simpa using e
                  rw [this]; exact qkey) (fun _ => hin) (fun z => by cases z) (by
                  unfold Good
                  rw [if_neg (by rw [hb]; decide), insAll_snoc]
                  exact (insS_mem _ _ _).mpr (.inl rfl)) s5 hq5 H6 q6 hD6 H7 q7 hI7 hO7
              exact ⟨r ++ [.beside lk.last q], _, _, rfl, f1, f2, f3, f4, f5, f6⟩
          | true =>
            walk_at "s"
            refine r_ixI hD4 rfl hg4 ?_
            walk_at "s"
            refine r_ixT (SqT.of hrow4) (eC_kind lk) ?_
            walk_at "s"
            rw [kind_b, hb]
            have env4 := env.off (I := []) (O := []) hI hO m1 m2 m3 m4 m5 m6 fr4
            walk_at "s"
            refine ⟨c, dx, pr, nr, pd, dt, iA, oA, lk.last, q, ds.map pr2, rfl, hc4, env4.ties, fun H5 s5 => ?_⟩
            have hc5 := s5 _ _ hc4
            have hO5 := s5 _ _ hO4
            have hI5 := s5 _ _ hI4
            have hD5 := s5 _ _ hD4
            by_cases due : (mn lk.last q, mx lk.last q) ∈ ds.map pr2
            · refine r_exb3 (b' := true) (decide_eq_true due) (r_iteT ?_)
              walk_at "s"
              rw [kvS_in]
              by_cases hin : q ∈ outsAll (cs ++ r)
              · walk_at "s"
                obtain ⟨f1, f2, f3, f4, f5, f6⟩ := skip H5 s5 (by unfold Good; rw [if_pos hb]; exact fun _ => hin)
                exact ⟨r, _, _, rfl, f1, f2, f3, f4, f5, f6⟩
              · walk_at "s"
                refine r_new fun q5 H5' nq5 s5' hq5 => ?_
                walk_at "s"
                refine r_appendN (s5' _ _ hD5) (by rw [List.length_map]; omega) fun H6 q6 hD6 => ?_
                have hD6' : H6 D = some (.lst ((rs4 ++ [q5]).map V.ref)) := by rw [hD6, List.map_append]; rfl
                have hc6 : H6 c = _ := (q6 c (ne_of_none hc nDH)).trans (s5' _ _ hc5)
                have hI6 : H6 iA = _ := (q6 iA DnI.symm).trans (s5' _ _ hI5)
                have hO6 : H6 oA = _ := (q6 oA DnO.symm).trans (s5' _ _ hO5)
                have hq6 : H6 q5 = _ := (q6 q5 (ne_of hq5 (s5' _ _ hD5) (fun z => by cases z))).trans hq5
                walk_at "s"
                refine r_ixL (SqL.of hD6') (atI_snoc rs4 q5) ?_
                walk_at "s"
                refine ⟨c, dx, pr, nr, pd, dt, iA, oA, q5, _, _, .tight lk.last q, rfl, hc6, hI6, hO6, nio, by omega, by omega, hq6, fun H7 q7 hI7 hO7 => ?_⟩
                have okl : okL ps es ds (insAll (cs ++ r)) (outsAll (cs ++ r)) (.tight lk.last q) := ⟨(insAll_mem _ _).mpr ⟨lk, hmem', hb, rfl⟩, due⟩
                obtain ⟨f1, f2, f3, f4, f5, f6⟩ := fin (.tight lk.last q) H5' q5 okl (fun p hp => by
                  rcases List.mem_cons.mp hp with e | e
                  · rw [e]; exact hkey
                  · have : p = q := by simpa using e
                    rw [this]; exact qkey) (fun z => by cases z) (fun _ => hin) (by
                    unfold Good
                    rw [if_pos hb, outsAll_snoc]
                    exact fun _ => (insS_mem _ _ _).mpr (.inl rfl)) (s5.trans s5') hq5 H6 q6 hD6 H7 q7 hI7 hO7
                exact ⟨r ++ [.tight lk.last q], _, _, rfl, f1, f2, f3, f4, f5, f6⟩
            · refine r_exb3 (b' := false) (decide_eq_false due) (r_iteF ?_)
              walk_at "s"
              obtain ⟨f1, f2, f3, f4, f5, f6⟩ := skip H5 s5 (by unfold Good; rw [if_pos hb]; exact fun m => absurd m due)
              exact ⟨r, _, _, rfl, f1, f2, f3, f4, f5, f6⟩
        · rintro σ H4 ⟨r, y3, y5, rfl, ws4, gd4, fr4, tab4, hI4, hO4⟩
          walk_at "s"
          have e1 : ((n : Nat) : Int) + 1 = ((n + 1 : Nat) : Int) := by omega
          rw [e1]
          refine ⟨80 - (n + 1), by omega, n + 1, cs ++ r, _, _, _, rfl, rfl, by rw [List.length_append]; omega, ws4, fun p hp h => outsAll_app (lo p hp h), fun i hi c0 hc0 q hq => ?_, fr4, tab4, hI4, hO4⟩
          by_cases e : i < n
          · exact dn.app hn r i e c0 hc0 q hq
          · have : i = n := by omega
            subst this
            rw [List.getElem?_append_left nlt, hli] at hc0
            cases hc0
            obtain ⟨j2, hj2⟩ := List.getElem?_of_mem ((hmemN q).mpr hq)
            exact gd4 j2 (by rw [lns]; exact (List.getElem?_eq_some_iff.mp hj2).1) q hj2
      · walk_at "s"
        have en : n = cs.length := by omega
        subst en
        exact k D H3 cs nDH fr3 ⟨rs, hD3, pr3⟩ (ws.whole lo dn)
end
end K33
set_option Elab.async false
set_option linter.all false
set_option maxRecDepth 100000
set_option maxHeartbeats 4000000
/-! K16: fixed_by, fixed_paper, fixed_of. -/
namespace K33
open PySem L2
/-! one step of a reading -/
local macro_rules | `(tactic| walk_at "look") => `(tactic| first | assumption | exact upd_same | (refine Same.at' (by assumption) ?_; walk_at "look"))
local macro_rules | `(tactic| walk_at "side") => `(tactic| first | exact .inr ⟨by decide, by decide⟩ | exact .inl ⟨by decide, by decide⟩ | (show (0 : Int) < _; decide) | exact ⟨by decide, by decide⟩ | omega)
local macro_rules | `(tactic| walk_at "tt") => `(tactic| first | assumption | exact decide_eq_true (by assumption) | exact decide_eq_true rfl | (rw [decide_eq_false (by assumption)]; rfl) | rfl | exact decide_eq_true (by omega) | (rw [decide_eq_false (by omega)]; rfl))
local macro_rules | `(tactic| walk_at "ff") => `(tactic| first | assumption | exact decide_eq_false (by assumption) | (rw [decide_eq_true (by assumption)]; rfl) | (rw [decide_eq_true rfl]; rfl) | rfl | exact decide_eq_false (by omega) | (rw [decide_eq_true (by omega)]; rfl))
local macro_rules | `(tactic| walk_at "fld") => `(tactic| fail)
local macro_rules | `(tactic| walk_at "s1") => `(tactic| first
  | with_reducible refine r_seq ?_
  | with_reducible refine r_asg ?_
  | with_reducible refine r_name ?_
  | ((with_reducible refine' r_var ?hv ?_); (case hv => exact rfl))
  | with_reducible refine r_c ?_
  | with_reducible refine r_op ?_
  | with_reducible refine r_un ?_
  | with_reducible refine r_neg ?_
  | with_reducible refine r_I0 ?_
  | ((with_reducible refine' r_I ?hc ?_); (case hc => walk_at "side"))
  | with_reducible refine r_eqI ?_
  | with_reducible refine r_neI ?_
  | with_reducible refine r_eqS ?_
  | with_reducible refine r_neS ?_
  | with_reducible refine r_B ?_
  | with_reducible refine r_test ?_
  | with_reducible refine r_chain ?_
  | with_reducible refine r_and ?_
  | with_reducible refine r_or ?_
  | with_reducible refine r_not ?_
  | with_reducible refine r_andV ?_
  | with_reducible refine r_orV ?_
  | with_reducible refine r_notV ?_
  | with_reducible refine r_nil ?_
  | with_reducible refine r_cons ?_
  | with_reducible refine r_call ?_
  | with_reducible refine r_CB ?_
  | with_reducible refine r_fld ?_
  | with_reducible refine r_tup ?_
  | walk_at "fld"
  | with_reducible refine r_lst ?_
  | with_reducible refine r_if ?_
  | with_reducible refine r_drop ?_
  | with_reducible refine r_ret ?_
  | with_reducible refine r_retN ?_
  | with_reducible refine r_next ?_
  | with_reducible refine r_cont ?_
  | with_reducible refine r_bm ?_
  | with_reducible refine r_gcons ?_
  | with_reducible refine r_gnil ?_
  | with_reducible refine r_for ?_
  | with_reducible refine r_lc ?_
  | with_reducible refine r_yes ?_
  | with_reducible refine r_iEnum ?_
  | with_reducible refine r_iList ?_
  | with_reducible refine r_iTup ?_
  | with_reducible refine r_iZip ?_
  | with_reducible refine r_iRng1 ?_
  | with_reducible refine r_iRng2 ?_
  | with_reducible refine r_din ?_
  | with_reducible refine r_dnotin ?_
  | with_reducible refine r_dget ?_
  | with_reducible refine r_dget2 ?_
  | with_reducible refine r_dput ?_
  | with_reducible refine r_dnewK ?_
  | with_reducible refine r_gsub ?_
  | ((with_reducible refine' r_dinL (Rd.of ?h) ?_); (case h => walk_at "look"))
  | ((with_reducible refine' r_isD (Rd.of ?h) ?_); (case h => walk_at "look"))
  | ((with_reducible refine' r_dget2L (Rd.of ?h) ?_); (case h => walk_at "look"))
  | ((with_reducible refine' r_dgetL (Rd.of ?h) ?e ?_); (case h => walk_at "look"); (case e => first | assumption | rfl))
  | ((with_reducible refine' r_dgetL (rd_frz ?h) ?e ?_); (case h => assumption); (case e => first | assumption | rfl))
  | ((with_reducible refine' r_lt2 ?h1 ?h2 ?_); (case h1 => walk_at "look"); (case h2 => walk_at "look"))
  | with_reducible refine r_sl ?_
  | with_reducible refine r_noPart ?_
  | with_reducible refine r_part ?_
  | with_reducible refine r_exi ?_
  | ((with_reducible refine' r_tyL ?h ?_); (case h => walk_at "look"))
  | with_reducible refine r_isN ?_
  | with_reducible refine r_notN ?_
  | with_reducible refine r_isB ?_
  | with_reducible refine r_notB ?_
  | with_reducible refine r_min2' ?_
  | with_reducible refine r_max2' ?_
  | with_reducible refine r_isi (.base (.int _)) kII ?_
  | with_reducible refine r_isi (.base (.int _)) kIB ?_
  | with_reducible refine r_isi (.base (.str _)) kSS ?_
  | with_reducible refine r_isi (.base (.bl _)) kBB ?_
  | ((with_reducible refine' r_isi (.base (.tup ?h)) kTT ?_); (case h => walk_at "look"))
  | ((with_reducible refine' r_isi (.base (.lst ?h)) kLL ?_); (case h => walk_at "look"))
  | ((with_reducible refine' r_lenS (Or.inr (SqT.of ?h)) ?_); (case h => walk_at "look"))
  | ((with_reducible refine' r_lenS (Or.inl (SqL.of ?h)) ?_); (case h => walk_at "look"))
  | ((with_reducible refine' r_ixT (SqT.of ?h) ?e ?_); (case h => walk_at "look"); (case e => rfl))
  | ((with_reducible refine' r_gtup (SqT.of ?h) ?e ?_); (case h => walk_at "look"); (case e => rfl))
  | ((with_reducible refine r_tlen ?e ?_); (case e => exact Nat.le_of_ble_eq_true rfl))
  | with_reducible refine r_iteT ?_
  | with_reducible refine r_iteF ?_
  | with_reducible refine r_exb2 ?_
  | ((with_reducible refine r_iteP ?hc ?_); (case hc => walk_at "tt"))
  | ((with_reducible refine r_iteN ?hc ?_); (case hc => walk_at "ff")))
local macro_rules | `(tactic| walk_at "s") => `(tactic| repeat (walk_at "s1"))

/-! fields and methods of this class -/
local macro_rules | `(tactic| walk_at "lk") => `(tactic| first | with_reducible exact pfC1_prices _ | with_reducible exact pfC2_prices _ _ | with_reducible exact pfC2_near _ _ | with_reducible exact pfC3_prices _ _ _ | with_reducible exact pfC3_near _ _ _ | with_reducible exact pfC3_paid _ _ _ | with_reducible exact pfC4_prices _ _ _ _ | with_reducible exact pfC4_near _ _ _ _ | with_reducible exact pfC4_paid _ _ _ _ | with_reducible exact pfC4_due_ties _ _ _ _ | with_reducible exact pfC5_prices _ _ _ _ _ | with_reducible exact pfC5_near _ _ _ _ _ | with_reducible exact pfC5_paid _ _ _ _ _ | with_reducible exact pfC5_due_ties _ _ _ _ _ | with_reducible exact pfC5_ins _ _ _ _ _ | with_reducible exact pfC6_prices _ _ _ _ _ _ | with_reducible exact pfC6_near _ _ _ _ _ _ | with_reducible exact pfC6_paid _ _ _ _ _ _ | with_reducible exact pfC6_due_ties _ _ _ _ _ _ | with_reducible exact pfC6_ins _ _ _ _ _ _ | with_reducible exact pfC6_outs _ _ _ _ _ _)
local macro_rules | `(tactic| walk_at "lookC") => `(tactic| first | with_reducible exact flC_prices _ _ _ _ _ _ | with_reducible exact flC_near _ _ _ _ _ _ | with_reducible exact flC_paid _ _ _ _ _ _ | with_reducible exact flC_due_ties _ _ _ _ _ _ | with_reducible exact flC_ins _ _ _ _ _ _ | with_reducible exact flC_outs _ _ _ _ _ _ | walk_at "lk")
local macro_rules | `(tactic| walk_at "noC") => `(tactic| first | with_reducible exact flC_no_is_loose _ _ _ _ _ _ | with_reducible exact flC_no_has_due _ _ _ _ _ _ | with_reducible exact flC_no_is_so _ _ _ _ _ _ | with_reducible exact flC_no_take _ _ _ _ _ _ | with_reducible exact flC_no_lets _ _ _ _ _ _ | with_reducible exact flC_no_whole _ _ _ _ _ _)
local macro_rules | `(tactic| walk_at "atC") => `(tactic| first | with_reducible exact IsC.n_prices (by assumption) | with_reducible exact IsC.n_near (by assumption) | with_reducible exact IsC.n_paid (by assumption) | with_reducible exact IsC.n_due_ties (by assumption) | with_reducible exact IsC.n_ins (by assumption) | with_reducible exact IsC.n_outs (by assumption))
local macro_rules | `(tactic| walk_at "fld") => `(tactic| ((with_reducible refine' r_exf ?h (IsC.cl (by assumption)) ?n ?l ?_); (case h => walk_at "look"); (case n => walk_at "atC"); (case l => walk_at "lookC")))
local macro_rules | `(tactic| walk_at "fld") => `(tactic| ((with_reducible refine' r_methL ?h ?n ?_); (case h => walk_at "look"); (case n => walk_at "noC")))
local macro_rules | `(tactic| walk_at "fld") => `(tactic| with_reducible refine r_meth ?_)
local macro_rules | `(tactic| walk_at "fld") => `(tactic| with_reducible refine r_make ?_)
local macro_rules | `(tactic| walk_at "fld") => `(tactic| with_reducible refine r_fset ?_)

section
variable {P : Program} {w : World} {K : PySem.W.Frag} {mg : Str → Option Value} {base : Heap} {CC : Addr}
theorem eC_two {c : Lk} (h : c.isB = true) : atI (eC c) 2 = some (.int c.last) := by
  cases c with
  | beside u v => rfl
  | loose v => cases h
  | tight u v => cases h
theorem bsOf_snoc {cs : List Lk} {i : Nat} {c : Lk} (h : cs[i]? = some c) : bsOf (cs.take (i + 1)) = bsOf (cs.take i) ++ (if c.isB = true then [c.last] else []) := by
  unfold bsOf
  rw [List.take_add_one, h, List.filter_append, List.map_append]
  congr 1
  show List.map _ (List.filter _ [c]) = _
  rw [List.filter_cons]
  cases c.isB <;> rfl
theorem osOf_snoc {cs : List Lk} {i : Nat} {c : Lk} (h : cs[i]? = some c) : osOf (cs.take (i + 1)) = osOf (cs.take i) ++ (if c.isB = true then [] else [c.last]) := by
  unfold osOf
  rw [List.take_add_one, h, List.filter_append, List.map_append]
  congr 1
  show List.map _ (List.filter _ [c]) = _
  rw [List.filter_cons]
  cases c.isB <;> rfl
theorem r_setOf {H : Hp} {Q : VK} {l : Addr} {ns : List Int} (h : H l = some (.lst (ns.map V.int))) (few : ns.length ≤ 1000) (q : ∀ p c H2, c ≤ ns.length → Same H H2 → H2 p = some (SetO w p (fun j => decide (j ∈ ns)) c) → Q (.ref p) H2) : rSetOfL K w [.ref l] H Q :=
  ⟨l, ns, rfl, SqL.of h, few, fun p c hc hp => q p c _ hc (sm_new hp) upd_same⟩
theorem r_sortSet {H : Hp} {Q : VK} {a : Addr} {ms : List Int} {n : Nat} (h : H a = some (SetO w a (fun j => decide (j ∈ ms)) n)) (few : n < 64) (q : ∀ (ns : List Int) p H2, ns.Pairwise (· < ·) → (∀ k, k ∈ ns ↔ k ∈ ms) → Same H H2 → H2 p = some (.lst (ns.map V.int)) → Q (.ref p) H2) : rSortedSet w [.ref a] H Q :=
  ⟨a, _, n, rfl, h, few, fun ns p hs hm _ hp => q ns p _ hs (fun k => (hm k).trans (by rw [decide_eq_true_eq])) (sm_new hp) upd_same⟩
/-- who is in, who is out: two new lists that rise -/
def spFixedBy : Sp := fun vs H Q _ => ∃ (a : Addr) (cs : List Lk), vs = [.ref a] ∧ Tab H a (cs.map eC) ∧ cs.length ≤ 200 ∧ (bsOf cs).length ≤ 60 ∧ (osOf cs).length ≤ 60 ∧
  ∀ (t i o : Addr) (I O : List Int) H', Same H H' → H' t = some (.tup [.ref i, .ref o]) → H' i = some (.lst (I.map V.int)) → H' o = some (.lst (O.map V.int)) → I.Pairwise (· < ·) → O.Pairwise (· < ·) → (∀ v, v ∈ I ↔ v ∈ bsOf cs) → (∀ v, v ∈ O ↔ v ∈ osOf cs) → Q (.ref t) H'
theorem ok_fixed_by {f : Addr} {fd : FuncData} (F : Fun K "fixed_by" "fixed_by" sfixed_by f fd) (T : Txt K mg) : FnOk P w K mg base CX0 1 f fd ["chain"] spFixedBy := by
  refine F.ok scfixed_by (fun vs H Q E h => ?_) (fun cdv A outer s H vs Q E hr h => ?_)
  · obtain ⟨a, cs, rfl, _⟩ := h; rfl
  obtain ⟨a, cs, rfl, ⟨ts, hl, prl⟩, l200, lB, lO, k⟩ := h
  have ll := tab_len prl
  have l3 : (ts.map V.ref).length = cs.length := by rw [List.length_map]; exact ll
  refine ⟨_, (pss_cons (ps_set (i := 1) scfixed_by.nd rfl (Or.inl rfl) (pe_callB (cr_sortedSet rfl) (by rfl) T.fSorted bt_sorted (pa_cons (pe_callTy (setLK (K := K) rfl) (by rfl) T.fSet bt_set (pa_cons (pe_lc (own := [("one", 3)]) rfl scfixed_by.nd (piLK (K := K) (pv 0)) (blkOk_by (own := [("one", 3)]) (N := ["chain", "ins", "outs", "one"]) (sc := defScope sfixed_by) (by decide +kernel)) (fun _ _ _ _ _ => (pg_name (i := 3) scfixed_by.nd rfl (Or.inl rfl))) (fun _ _ _ _ _ => (pts_one (pt_cmpR op_eq (pe_ix (ixTK (K := K)) (pv 3) pe_int (fun _ _ => rfl)) pe_str (nomark _)))) (fun _ _ _ _ _ => (pe_ix (ixTK (K := K)) (pv 3) pe_int (fun _ _ => rfl)))) pa_nil)) pa_nil)))
 (pss_cons (ps_set (i := 2) scfixed_by.nd rfl (Or.inl rfl) (pe_callB (cr_sortedSet rfl) (by rfl) T.fSorted bt_sorted (pa_cons (pe_callTy (setLK (K := K) rfl) (by rfl) T.fSet bt_set (pa_cons (pe_lc (own := [("one", 3)]) rfl scfixed_by.nd (piLK (K := K) (pv 0)) (blkOk_by (own := [("one", 3)]) (N := ["chain", "ins", "outs", "one"]) (sc := defScope sfixed_by) (by decide +kernel)) (fun _ _ _ _ _ => (pg_name (i := 3) scfixed_by.nd rfl (Or.inl rfl))) (fun _ _ _ _ _ => (pts_one (pt_cmpR op_ne (pe_ix (ixTK (K := K)) (pv 3) pe_int (fun _ _ => rfl)) pe_str (nomark _)))) (fun _ _ _ _ _ => (pe_ix (ixTK (K := K)) (pv 3) (pe_un un_neg pe_int) (fun _ _ => rfl)))) pa_nil)) pa_nil)))
 (pss_one (ps_ret (pe_tup (pa_cons (pv 1) (pa_cons (pv 2) pa_nil))))))), ?_⟩
  walk_at "s"
  refine k_list (fun i acc G => acc = (bsOf (cs.take i)).map V.int) hl (fun _ => rfl) ?_ ?_
  · intro D i x acc H' nD hx sm hD eA
    obtain ⟨t, c, rfl, ht, hci, hrow⟩ := tab_at prl hx
    have hr' := sm _ _ hrow
    have hlen : acc.length ≤ 200 := by
      have := bs_os (cs.take i)
      rw [List.length_take] at this
      rw [eA, List.length_map]; omega
    walk_at "s"
    refine ⟨rfl, ?_⟩
    walk_at "s"
    refine r_ixT (SqT.of hr') (eC_kind c) ?_
    walk_at "s"
    rw [kind_b]
    cases hb : c.isB with
    | true =>
      walk_at "s"
      refine r_ixT (SqT.of hr') (eC_two hb) ?_
      refine c_end (fun _ _ _ _ _ _ _ h => h) nD sm hD (by omega) ?_
      rw [eA, bsOf_snoc hci, hb, if_pos rfl, List.map_append]; rfl
    | false =>
      walk_at "s"
      refine c_skip nD sm hD ?_
      rw [eA, bsOf_snoc hci, hb, if_neg (by decide), List.append_nil]
  · intro D acc H1 nD s1 hD eA
    rw [l3, List.take_of_length_le (Nat.le_refl _)] at eA
    rw [eA] at hD
    walk_at "s"
    refine r_setOf (w := w) hD (by omega) fun S1 c1 H2 hc1 s2 hS => ?_
    walk_at "s"
    refine r_sortSet (w := w) hS (by omega) fun I iA H3 pw mem s3 hI => ?_
    have s03 := (s1.trans s2).trans s3
    have hl3 := s03 _ _ hl
    walk_at "s"
    refine k_list (fun i acc G => acc = (osOf (cs.take i)).map V.int) hl3 (fun _ => rfl) ?_ ?_
    · intro D i x acc H' nD hx sm hD eA
      obtain ⟨t, c, rfl, ht, hci, hrow⟩ := tab_at prl hx
      have hr' := sm _ _ (s03 _ _ hrow)
      have hlen : acc.length ≤ 200 := by
        have := bs_os (cs.take i)
        rw [List.length_take] at this
        rw [eA, List.length_map]; omega
      walk_at "s"
      refine ⟨rfl, ?_⟩
      walk_at "s"
      refine r_ixT (SqT.of hr') (eC_kind c) ?_
      walk_at "s"
      rw [kind_b]
      cases hb : c.isB with
      | true =>
        walk_at "s"
        refine c_skip nD sm hD ?_
        rw [eA, osOf_snoc hci, hb, if_pos rfl, List.append_nil]
      | false =>
        walk_at "s"
        refine r_ixT (SqT.of hr') (eC_last c) ?_
        refine c_end (fun _ _ _ _ _ _ _ h => h) nD sm hD (by omega) ?_
        rw [eA, osOf_snoc hci, hb, if_neg (by decide), List.map_append]; rfl
    · intro D2 acc2 H4 nD2 s4 hD2 eA2
      rw [l3, List.take_of_length_le (Nat.le_refl _)] at eA2
      rw [eA2] at hD2
      walk_at "s"
      refine r_setOf (w := w) hD2 (by omega) fun S2 c2 H5 hc2 s5 hS2 => ?_
      walk_at "s"
      refine r_sortSet (w := w) hS2 (by omega) fun O oA H6 pwO memO s6 hO => ?_
      walk_at "s"
      refine r_new fun t H7 nt s7 ht => ?_
      have s37 := ((s4.trans s5).trans s6).trans s7
      exact k t iA oA I O H7 (s03.trans s37) ht (s37 _ _ hI) (s7 _ _ hO) pw pwO mem memO
def spFixedPaper : Sp := fun vs H Q _ => ∃ (a : Addr) (ps es : List (Int × Int)), vs = [.ref a] ∧ WebAt H a ps es ∧ WebOk ps es ∧
  ∀ t l m n hs ds cs H', Same H H' → H' t = some (.tup [.ref l, .ref m, .ref n]) → Tab H' l (hs.map I2) → Tab H' m (ds.map I3) → Tab H' n (cs.map eC) → Told ps es hs ds → Whole ps es ds cs → Q (.ref t) H'
theorem ok_fixed_paper {f : Addr} {fd : FuncData} (F : Fun K "fixed_paper" "fixed_paper" sfixed_paper f fd) (T : Txt K mg) (ic : IsC K CC)
    (C_look_at_web : Can P w K mg base 5 "look_at_web" ["thing"] spLook) (C_paper_in : Can P w K mg base 6 "paper_in" ["web"] spPaperIn)
    (C_Chain : CanI P w K mg base CC 2 "Chain" ["self", "web", "dues"] (spChainInit CC)) (CM_whole : CanM P w K mg base CC 2 "whole" ["self"] (spWhole CC)) : FnOk P w K mg base CX0 7 f fd ["web"] spFixedPaper := by
  have cC := ic.cl
  refine F.ok scfixed_paper (fun vs H Q E h => ?_) (fun cdv A outer s H vs Q E hr h => ?_)
  · obtain ⟨a, ps, es, rfl, _⟩ := h; rfl
  obtain ⟨a, ps, es, rfl, web, ok, k⟩ := h
  have l120 := ok.t.len
  refine ⟨_, (pss_cons (ps_expr (pc_can C_look_at_web (hr.mono (by decide)) rfl (pa_cons (pv 0) pa_nil)))
 (pss_cons (ps_asg (pc_can C_paper_in (hr.mono (by decide)) rfl (pa_cons (pv 0) pa_nil)) (pgTK (K := K) (n := 2) rfl (pgs_cons (pg_name (i := 1) scfixed_paper.nd rfl (Or.inl rfl)) (pgs_cons (pg_name (i := 2) scfixed_paper.nd rfl (Or.inl rfl)) pgs_nil))))
 (pss_one (ps_ret (pe_tup (pa_cons (pv 1) (pa_cons (pv 2) (pa_cons (pc_meth0 (pc_mk C_Chain (hr.mono (by decide)) rfl (pa_cons (pv 0) (pa_cons (pv 2) pa_nil))) cC CM_whole (hr.mono (by decide))) pa_nil)))))))), ?_⟩
  walk_at "s"
  refine ⟨a, ps, es, rfl, web, ok, fun H1 s1 => ?_⟩
  walk_at "s"
  refine ⟨a, ps, es, rfl, web.sm s1, ok, fun t0 l m hs ds H2 s2 ht0 tl tm told => ?_⟩
  have s02 := s1.trans s2
  walk_at "s"
  intro x dx nx ndx nxd
  have sA : Same H2 (upd (upd H2 dx (.own x)) x (.ins CC dx [])) := fun b o e => by
    rw [upd_ne (ne_of_none e nx), upd_ne (ne_of_none e ndx)]; exact e
  have hx : (upd (upd H2 dx (.own x)) x (.ins CC dx [])) x = some (.ins CC dx []) := upd_same
  generalize upd (upd H2 dx (.own x)) x (.ins CC dx []) = H3 at sA hx ⊢
  have s03 := s02.trans sA
  have lds : ds.length ≤ 120 := by
    obtain ⟨rm, ws, _, _, _, _, _, e⟩ := told
    rw [e]
    exact Nat.le_trans (dueL_len _ _) l120
  refine ⟨x, dx, a, m, ps, es, ds, rfl, hx, web.sm s03, ok, tm.sm sA, by omega, fun H4 pr nr pd dt iA oA sb hc4 env hI hO nio m1 m2 m3 m4 m5 m6 fI fO => ⟨rfl, ?_⟩⟩
  have s24 : Same H2 H4 := fun b o e => sb _ _ (ne_of_none e nx) (sA _ _ e)
  walk_at "s"
  refine ⟨x, dx, pr, nr, pd, dt, iA, oA, ps, es, ds, rfl, hc4, env, ok, hI, hO, nio, m1, m2, m3, m4, m5, m6, fun n H5 cs nn q5 tn wh => ?_⟩
  have s25 : Same H2 H5 := fun b o e => q5 _ _ (fun z => by
    rw [z] at e
    rw [sA _ _ e] at fI
    cases fI) (fun z => by
    rw [z] at e
    rw [sA _ _ e] at fO
    cases fO) (s24 _ _ e)
  walk_at "s"
  refine r_new fun t H6 nt s6 ht => ?_
  exact k t l m n hs ds cs H6 ((s02.trans s25).trans s6) ht (tl.sm (s25.trans s6)) (tm.sm (s25.trans s6)) (tn.sm s6) told wh
def spFixedOf : Sp := fun vs H Q _ => ∃ (a : Addr) (ps es : List (Int × Int)), vs = [.ref a] ∧ WebAt H a ps es ∧ WebOk ps es ∧
  ∀ (t i o : Addr) (I O : List Int) hs ds cs H', Same H H' → H' t = some (.tup [.ref i, .ref o]) → H' i = some (.lst (I.map V.int)) → H' o = some (.lst (O.map V.int)) → I.Pairwise (· < ·) → O.Pairwise (· < ·) → (∀ v, v ∈ I ↔ v ∈ bsOf cs) → (∀ v, v ∈ O ↔ v ∈ osOf cs) → Told ps es hs ds → Whole ps es ds cs → Q (.ref t) H'
theorem ok_fixed_of {f : Addr} {fd : FuncData} (F : Fun K "fixed_of" "fixed_of" sfixed_of f fd) (T : Txt K mg)
    (C_fixed_by : Can P w K mg base 1 "fixed_by" ["chain"] spFixedBy) (C_fixed_paper : Can P w K mg base 7 "fixed_paper" ["web"] spFixedPaper) : FnOk P w K mg base CX0 8 f fd ["web"] spFixedOf := by
  refine F.ok scfixed_of (fun vs H Q E h => ?_) (fun cdv A outer s H vs Q E hr h => ?_)
  · obtain ⟨a, ps, es, rfl, _⟩ := h; rfl
  obtain ⟨a, ps, es, rfl, web, ok, k⟩ := h
  have l40 := ok.p.len
  refine ⟨_, (pss_one (ps_ret (pc_can C_fixed_by (hr.mono (by decide)) rfl (pa_cons (pe_ix (ixTK (K := K)) (pc_can C_fixed_paper (hr.mono (by decide)) rfl (pa_cons (pv 0) pa_nil)) pe_int (fun _ _ => rfl)) pa_nil)))), ?_⟩
  walk_at "s"
  refine ⟨a, ps, es, rfl, web, ok, fun t l m n hs ds cs H1 s1 ht tl tm tn told wh => ?_⟩
  have z1 := wh.len
  have z2 := wh.lenB
  have z3 := wh.lenO
  walk_at "s"
  refine ⟨n, cs, rfl, tn, by omega, by omega, by omega, fun t2 i o I O H2 s2 ht2 hI hO p1 p2 e1 e2 => ?_⟩
  exact k t2 i o I O hs ds cs H2 (s1.trans s2) ht2 hI hO p1 p2 e1 e2 told wh
end
end K33
set_option linter.all false
set_option maxRecDepth 100000
set_option maxHeartbeats 4000000
/-! MD: what a filled flow tells, as sums over the ties. -/
namespace K33
theorem sumR_four {f : Nat → Int} : ∀ {n : Nat}, sumR f (4 * n) = sumR (fun j => f (4 * j) + f (4 * j + 1) + f (4 * j + 2) + f (4 * j + 3)) n
  | 0 => rfl
  | n + 1 => by
    show sumR f (4 * n) + f (4 * n) + f (4 * n + 1) + f (4 * n + 2) + f (4 * n + 3) = sumR (fun j => f (4 * j) + f (4 * j + 1) + f (4 * j + 2) + f (4 * j + 3)) n + (f (4 * n) + f (4 * n + 1) + f (4 * n + 2) + f (4 * n + 3))
    rw [sumR_four (n := n)]
    omega
theorem sumR_ge {f : Nat → Int} {k : Nat} : ∀ {n : Nat}, (∀ a, a < n → 0 ≤ f a) → k < n → f k ≤ sumR f n
  | 0, _, h => by omega
  | n + 1, h, hk => by
    show f k ≤ sumR f n + f n
    have a := sumR_nonneg (f := f) (n := n) (fun a ha => h a (by omega))
    have b := h n (by omega)
    by_cases c : k = n
    · subst c; omega
    · have := sumR_ge (f := f) (n := n) (fun a ha => h a (by omega)) (by omega : k < n)
      omega
theorem getD_app_l {α : Type} {l m : List α} {i : Nat} {d : α} (h : i < l.length) : (l ++ m).getD i d = l.getD i d := by
  rw [List.getD_eq_getElem?_getD, List.getD_eq_getElem?_getD, List.getElem?_append_left h]
theorem getD_app_r {α : Type} {l m : List α} {i : Nat} {d : α} : (l ++ m).getD (l.length + i) d = m.getD i d := by
  rw [List.getD_eq_getElem?_getD, List.getD_eq_getElem?_getD, List.getElem?_append_right (by omega)]
  congr 2
  omega
/-! what stands where -/
theorem hdP_at {n i : Nat} : ∀ {m : Nat}, i < m → hh (hdP n m) (4 * i) = i ∧ hh (hdP n m) (4 * i + 1) = 2 * n ∧ hh (hdP n m) (4 * i + 2) = 2 * n + 1 ∧ hh (hdP n m) (4 * i + 3) = n + i
  | 0, h => by omega
  | m + 1, h => by
    have l := hdP_len n m
    have e : hdP n (m + 1) = hdP n m ++ [m, 2 * n, 2 * n + 1, n + m] := by
      show (hdP n m ++ [m, 2 * n]) ++ [2 * n + 1, n + m] = _
      rw [List.append_assoc]; rfl
    unfold hh at *
    rw [e]
    by_cases c : i < m
    · obtain ⟨a, b, c1, d⟩ := hdP_at (n := n) (m := m) c
      unfold hh at a b c1 d
      rw [getD_app_l (by omega), getD_app_l (by omega), getD_app_l (by omega), getD_app_l (by omega)]
      exact ⟨a, b, c1, d⟩
    · have : i = m := by omega
      subst this
      have e0 : 4 * i = (hdP n i).length + 0 := by omega
      have e1 : 4 * i + 1 = (hdP n i).length + 1 := by omega
      have e2 : 4 * i + 2 = (hdP n i).length + 2 := by omega
      have e3 : 4 * i + 3 = (hdP n i).length + 3 := by omega
      rw [e1, e2, e3, e0, getD_app_r, getD_app_r, getD_app_r, getD_app_r]
      exact ⟨rfl, rfl, rfl, rfl⟩
theorem rmP_at : ∀ {ps : List (Int × Int)} {i : Nat} {p : Int × Int}, ps[i]? = some p → rg (rmP ps) (4 * i) = p.2 ∧ rg (rmP ps) (4 * i + 1) = 0 ∧ rg (rmP ps) (4 * i + 2) = p.2 ∧ rg (rmP ps) (4 * i + 3) = 0
  | [], i, p, h => by simp at h
  | q :: ps, 0, p, h => by
    have : q = p := by simpa using h
    subst this
    exact ⟨rfl, rfl, rfl, rfl⟩
  | q :: ps, i + 1, p, h => by
    obtain ⟨a, b, c, d⟩ := rmP_at (ps := ps) (i := i) (p := p) (by simpa using h)
    have e : rmP (q :: ps) = [q.2, 0, q.2, 0] ++ rmP ps := rfl
    unfold rg at *
    have e0 : 4 * (i + 1) = ([q.2, 0, q.2, 0] : List Int).length + 4 * i := by show _ = 4 + 4 * i; omega
    rw [e, e0, Nat.add_assoc, Nat.add_assoc, Nat.add_assoc, getD_app_r, getD_app_r, getD_app_r, getD_app_r]
    exact ⟨a, b, c, d⟩
theorem rmT_at {R : Int} : ∀ {es : List (Int × Int)} {t : Nat}, t < es.length → rg (rmT R es) (4 * t) = R ∧ rg (rmT R es) (4 * t + 1) = 0 ∧ rg (rmT R es) (4 * t + 2) = R ∧ rg (rmT R es) (4 * t + 3) = 0
  | [], t, h => by simp at h
  | e :: es, 0, h => ⟨rfl, rfl, rfl, rfl⟩
  | e :: es, t + 1, h => by
    obtain ⟨a, b, c, d⟩ := rmT_at (R := R) (es := es) (t := t) (by simpa using h)
    have e1 : rmT R (e :: es) = [R, 0, R, 0] ++ rmT R es := rfl
    unfold rg at *
    have e0 : 4 * (t + 1) = ([R, 0, R, 0] : List Int).length + 4 * t := by show _ = 4 + 4 * t; omega
    rw [e1, e0, Nat.add_assoc, Nat.add_assoc, Nat.add_assoc, getD_app_r, getD_app_r, getD_app_r, getD_app_r]
    exact ⟨a, b, c, d⟩
theorem hdT_at {ps : List (Int × Int)} : ∀ {es : List (Int × Int)} {t : Nat} {e : Int × Int}, es[t]? = some e → hh (hdT ps es) (4 * t) = ps.length + ix ps e.2 ∧ hh (hdT ps es) (4 * t + 1) = ix ps e.1 ∧ hh (hdT ps es) (4 * t + 2) = ps.length + ix ps e.1 ∧ hh (hdT ps es) (4 * t + 3) = ix ps e.2
  | [], t, e, h => by simp at h
  | q :: es, 0, e, h => by
    have : q = e := by simpa using h
    subst this
    exact ⟨rfl, rfl, rfl, rfl⟩
  | q :: es, t + 1, e, h => by
    obtain ⟨a, b, c, d⟩ := hdT_at (ps := ps) (es := es) (t := t) (e := e) (by simpa using h)
    have e1 : hdT ps (q :: es) = [ps.length + ix ps q.2, ix ps q.1, ps.length + ix ps q.1, ix ps q.2] ++ hdT ps es := rfl
    unfold hh at *
    have e0 : 4 * (t + 1) = ([ps.length + ix ps q.2, ix ps q.1, ps.length + ix ps q.1, ix ps q.2] : List Nat).length + 4 * t := by show _ = 4 + 4 * t; omega
    rw [e1, e0, Nat.add_assoc, Nat.add_assoc, Nat.add_assoc, getD_app_r, getD_app_r, getD_app_r, getD_app_r]
    exact ⟨a, b, c, d⟩
section
variable {ps es : List (Int × Int)}
theorem hdW_P {i : Nat} (h : i < ps.length) : hh (hdW ps es) (4 * i) = i ∧ hh (hdW ps es) (4 * i + 1) = 2 * ps.length ∧ hh (hdW ps es) (4 * i + 2) = 2 * ps.length + 1 ∧ hh (hdW ps es) (4 * i + 3) = ps.length + i := by
  obtain ⟨a, b, c, d⟩ := hdP_at (n := ps.length) h
  have l := hdP_len ps.length ps.length
  unfold hdW hh at *
  rw [getD_app_l (by omega), getD_app_l (by omega), getD_app_l (by omega), getD_app_l (by omega)]
  exact ⟨a, b, c, d⟩
theorem hdW_T {t : Nat} {e : Int × Int} (h : es[t]? = some e) : hh (hdW ps es) (4 * ps.length + 4 * t) = ps.length + ix ps e.2 ∧ hh (hdW ps es) (4 * ps.length + 4 * t + 1) = ix ps e.1 ∧ hh (hdW ps es) (4 * ps.length + 4 * t + 2) = ps.length + ix ps e.1 ∧ hh (hdW ps es) (4 * ps.length + 4 * t + 3) = ix ps e.2 := by
  obtain ⟨a, b, c, d⟩ := hdT_at (ps := ps) h
  have l := hdP_len ps.length ps.length
  unfold hdW hh at *
  rw [Nat.add_assoc, Nat.add_assoc, Nat.add_assoc, ← l, getD_app_r, getD_app_r, getD_app_r, getD_app_r]
  exact ⟨a, b, c, d⟩
theorem rmW_P {i : Nat} {p : Int × Int} (h : ps[i]? = some p) : rg (rmW ps es) (4 * i) = p.2 ∧ rg (rmW ps es) (4 * i + 1) = 0 ∧ rg (rmW ps es) (4 * i + 2) = p.2 ∧ rg (rmW ps es) (4 * i + 3) = 0 := by
  obtain ⟨a, b, c, d⟩ := rmP_at h
  have l := rmP_len ps
  have hi := (List.getElem?_eq_some_iff.mp h).1
  unfold rmW rg at *
  rw [getD_app_l (by omega), getD_app_l (by omega), getD_app_l (by omega), getD_app_l (by omega)]
  exact ⟨a, b, c, d⟩
theorem rmW_T {t : Nat} (h : t < es.length) : rg (rmW ps es) (4 * ps.length + 4 * t) = (ps.map (·.2)).sum ∧ rg (rmW ps es) (4 * ps.length + 4 * t + 1) = 0 ∧ rg (rmW ps es) (4 * ps.length + 4 * t + 2) = (ps.map (·.2)).sum ∧ rg (rmW ps es) (4 * ps.length + 4 * t + 3) = 0 := by
  obtain ⟨a, b, c, d⟩ := rmT_at (R := (ps.map (·.2)).sum) h
  have l := rmP_len ps
  unfold rmW rg at *
  rw [Nat.add_assoc, Nat.add_assoc, Nat.add_assoc, ← l, getD_app_r, getD_app_r, getD_app_r, getD_app_r]
  exact ⟨a, b, c, d⟩
theorem par0 (k : Nat) : par (4 * k) = 4 * k + 1 := by unfold par; rw [if_pos (by omega)]
theorem par1 (k : Nat) : par (4 * k + 1) = 4 * k := by unfold par; rw [if_neg (by omega)]; omega
theorem par2 (k : Nat) : par (4 * k + 2) = 4 * k + 3 := by unfold par; rw [if_pos (by omega)]
theorem par3 (k : Nat) : par (4 * k + 3) = 4 * k + 2 := by unfold par; rw [if_neg (by omega)]; omega
theorem tl_at (hd : List Nat) (a : Nat) : tl hd a = hh hd (par a) := rfl
/-- what leaves a node, by places and ties -/
theorem S_eq (rm : List Int) (l : rm.length = 4 * ps.length + 4 * es.length) (v : Nat) : S (hdW ps es) rm v =
    sumR (fun i => (if 2 * ps.length = v then rg rm (4 * i) else 0) + (if i = v then rg rm (4 * i + 1) else 0) + (if ps.length + i = v then rg rm (4 * i + 2) else 0) + (if 2 * ps.length + 1 = v then rg rm (4 * i + 3) else 0)) ps.length +
    sumR (fun t => (if ix ps (es.getD t (0, 0)).1 = v then rg rm (4 * ps.length + 4 * t) else 0) + (if ps.length + ix ps (es.getD t (0, 0)).2 = v then rg rm (4 * ps.length + 4 * t + 1) else 0) + (if ix ps (es.getD t (0, 0)).2 = v then rg rm (4 * ps.length + 4 * t + 2) else 0) + (if ps.length + ix ps (es.getD t (0, 0)).1 = v then rg rm (4 * ps.length + 4 * t + 3) else 0)) es.length := by
  unfold S
  rw [l, sumR_split, sumR_four, sumR_four]
  refine congr (congrArg _ (sumR_congr fun i hi => ?_)) (sumR_congr fun t ht => ?_)
  · obtain ⟨a, b, c, d⟩ := hdW_P (es := es) hi
    rw [tl_at, tl_at, tl_at, tl_at, par0, par1, par2, par3, a, b, c, d]
  · have e : es[t]? = some es[t] := List.getElem?_eq_getElem ht
    obtain ⟨a, b, c, d⟩ := hdW_T (ps := ps) e
    have g : es.getD t (0, 0) = es[t] := by rw [List.getD_eq_getElem?_getD, e]; rfl
    have e4 : 4 * ps.length + 4 * t = 4 * (ps.length + t) := by omega
    rw [g, tl_at, tl_at, tl_at, tl_at]
    rw [show 4 * ps.length + (4 * t + 1) = 4 * (ps.length + t) + 1 by omega, show 4 * ps.length + (4 * t + 2) = 4 * (ps.length + t) + 2 by omega, show 4 * ps.length + (4 * t + 3) = 4 * (ps.length + t) + 3 by omega, e4, par0, par1, par2, par3]
    rw [e4] at a b c d
    rw [a, b, c, d]
/-- what goes out of a place on the left, what comes into it on the right -/
def outS (ps es : List (Int × Int)) (F G : Nat → Int) (i : Nat) : Int := sumR (fun t => (if ix ps (es.getD t (0, 0)).1 = i then F t else 0) + (if ix ps (es.getD t (0, 0)).2 = i then G t else 0)) es.length
def inS (ps es : List (Int × Int)) (F G : Nat → Int) (i : Nat) : Int := sumR (fun t => (if ix ps (es.getD t (0, 0)).2 = i then F t else 0) + (if ix ps (es.getD t (0, 0)).1 = i then G t else 0)) es.length
structure Fl (ps es : List (Int × Int)) (R : List Nat) (F G : Nat → Int) : Prop where
  nnF : ∀ t, 0 ≤ F t
  nnG : ∀ t, 0 ≤ G t
  outL : ∀ (i : Nat) p, ps[i]? = some p → outS ps es F G i ≤ p.2
  outE : ∀ (i : Nat) p, ps[i]? = some p → i ∉ R → outS ps es F G i = p.2
  inL : ∀ (i : Nat) p, ps[i]? = some p → inS ps es F G i ≤ p.2
  inE : ∀ (i : Nat) p, ps[i]? = some p → ps.length + i ∈ R → inS ps es F G i = p.2
  arc1 : ∀ (t : Nat) e, es[t]? = some e → ix ps e.1 ∈ R → ps.length + ix ps e.2 ∈ R
  arc2 : ∀ (t : Nat) e, es[t]? = some e → ix ps e.2 ∈ R → ps.length + ix ps e.1 ∈ R
  back1 : ∀ (t : Nat) e, es[t]? = some e → ps.length + ix ps e.2 ∈ R → 0 < F t → ix ps e.1 ∈ R
  back2 : ∀ (t : Nat) e, es[t]? = some e → ps.length + ix ps e.1 ∈ R → 0 < G t → ix ps e.2 ∈ R
theorem sum_two {l : List Int} (h : ∀ x ∈ l, 1 ≤ x) {i j : Nat} {x y : Int} (ne : i ≠ j) (hi : l[i]? = some x) (hj : l[j]? = some y) : x + y ≤ l.sum := by
  induction l generalizing i j with
  | nil => simp at hi
  | cons a l ih =>
    have ha := h a (by simp)
    have hl : ∀ x ∈ l, 1 ≤ x := fun x hx => h x (by simp [hx])
    have one : ∀ {k : Nat} {z : Int}, l[k]? = some z → z ≤ l.sum := by
      intro k z
      clear ih hi hj
      induction l generalizing k with
      | nil => intro q; simp at q
      | cons b l ih =>
        intro q
        have hb := hl b (by simp)
        have nn := sum_nn (l := l) fun x hx => by have := hl x (by simp [hx]); omega
        rw [List.sum_cons]
        cases k with
        | zero =>
          have : b = z := by simpa using q
          omega
        | succ k =>
          have := ih (fun x hx => h x (by simp at hx; rcases hx with e | e <;> simp [e])) (fun x hx => hl x (by simp [hx])) (k := k) (by simpa using q)
          omega
    rw [List.sum_cons]
    cases i with
    | zero =>
      cases j with
      | zero => exact absurd rfl ne
      | succ j =>
        have e1 : a = x := by simpa using hi
        have := one (k := j) (by simpa using hj)
        omega
    | succ i =>
      cases j with
      | zero =>
        have e1 : a = y := by simpa using hj
        have := one (k := i) (by simpa using hi)
        omega
      | succ j =>
        have := ih hl (i := i) (j := j) (by omega) (by simpa using hi) (by simpa using hj)
        omega
theorem flow_fl {rm : List Int} {ws : List (Nat × Option Nat)} (nd : (ps.map (·.1)).Nodup) (ppos : ∀ p ∈ ps, 1 ≤ p.2) (ends : ∀ e ∈ es, e.1 ∈ ps.map (·.1) ∧ e.2 ∈ ps.map (·.1) ∧ e.1 ≠ e.2) (l : rm.length = 4 * ps.length + 4 * es.length)
    (fil : Filled (hdW ps es) (rmW ps es) rm (2 * ps.length) (2 * ps.length + 1)) (met : Met (hdW ps es) rm (2 * ps.length + 2) (2 * ps.length) ws) (no : 2 * ps.length + 1 ∉ ws.map (·.1)) :
    Fl ps es (ws.map (·.1)) (fun t => rg rm (4 * ps.length + 4 * t + 1)) (fun t => rg rm (4 * ps.length + 4 * t + 3)) := by
  have lw := rmW_len ps es
  have lh := hdW_len ps es
  have ixl : ∀ t, t < es.length → ix ps (es.getD t (0, 0)).1 < ps.length ∧ ix ps (es.getD t (0, 0)).2 < ps.length := fun t ht => by
    have e : es.getD t (0, 0) = es[t] := by rw [List.getD_eq_getElem?_getD, List.getElem?_eq_getElem ht]; rfl
    rw [e]
    have q := ends es[t] (List.getElem_mem ht)
    exact ⟨ix_lt q.1, ix_lt q.2.1⟩
  have pairP : ∀ (i : Nat) p, ps[i]? = some p → rg rm (4 * i) + rg rm (4 * i + 1) = p.2 ∧ rg rm (4 * i + 2) + rg rm (4 * i + 3) = p.2 := fun i p hp => by
    obtain ⟨a, b, c, d⟩ := rmW_P (es := es) hp
    have q1 := fil.pair (4 * i)
    have q2 := fil.pair (4 * i + 2)
    rw [par0, a, b] at q1
    rw [par2, c, d] at q2
    omega
  have pairT : ∀ t, t < es.length → rg rm (4 * ps.length + 4 * t) + rg rm (4 * ps.length + 4 * t + 1) = (ps.map (·.2)).sum ∧ rg rm (4 * ps.length + 4 * t + 2) + rg rm (4 * ps.length + 4 * t + 3) = (ps.map (·.2)).sum := fun t ht => by
    obtain ⟨a, b, c, d⟩ := rmW_T (ps := ps) ht
    have q1 := fil.pair (4 * ps.length + 4 * t)
    have q2 := fil.pair (4 * ps.length + 4 * t + 2)
    have e4 : 4 * ps.length + 4 * t = 4 * (ps.length + t) := by omega
    rw [e4] at a b c d q1 q2 ⊢
    rw [par0, a, b] at q1
    rw [par2, c, d] at q2
    omega
  have out : ∀ (i : Nat) p, ps[i]? = some p → rg rm (4 * i + 1) = outS ps es (fun t => rg rm (4 * ps.length + 4 * t + 1)) (fun t => rg rm (4 * ps.length + 4 * t + 3)) i := by
    intro i p hp
    have hi := (List.getElem?_eq_some_iff.mp hp).1
    have q := fil.cons i (by omega) (by omega)
    rw [S_eq rm l, S_eq (rmW ps es) lw] at q
    have g : ∀ r : List Int, sumR (fun j => (if 2 * ps.length = i then rg r (4 * j) else 0) + (if j = i then rg r (4 * j + 1) else 0) + (if ps.length + j = i then rg r (4 * j + 2) else 0) + (if 2 * ps.length + 1 = i then rg r (4 * j + 3) else 0)) ps.length = rg r (4 * i + 1) := fun r => by
      refine (sumR_one hi fun a ha ne => ?_).trans ?_
      · rw [if_neg (by omega), if_neg ne, if_neg (by omega), if_neg (by omega)]; rfl
      · rw [if_neg (by omega), if_pos rfl, if_neg (by omega), if_neg (by omega)]; omega
    rw [g, g, (rmW_P (es := es) hp).2.1] at q
    have h : ∀ r : List Int, sumR (fun t => (if ix ps (es.getD t (0, 0)).1 = i then rg r (4 * ps.length + 4 * t) else 0) + (if ps.length + ix ps (es.getD t (0, 0)).2 = i then rg r (4 * ps.length + 4 * t + 1) else 0) + (if ix ps (es.getD t (0, 0)).2 = i then rg r (4 * ps.length + 4 * t + 2) else 0) + (if ps.length + ix ps (es.getD t (0, 0)).1 = i then rg r (4 * ps.length + 4 * t + 3) else 0)) es.length
        = sumR (fun t => (if ix ps (es.getD t (0, 0)).1 = i then rg r (4 * ps.length + 4 * t) else 0) + (if ix ps (es.getD t (0, 0)).2 = i then rg r (4 * ps.length + 4 * t + 2) else 0)) es.length := fun r => sumR_congr fun t ht => by
      rw [if_neg (c := ps.length + ix ps (es.getD t (0, 0)).2 = i) (by omega), if_neg (c := ps.length + ix ps (es.getD t (0, 0)).1 = i) (by omega)]
      omega
    rw [h, h] at q
    have z : sumR (fun t => (if ix ps (es.getD t (0, 0)).1 = i then rg (rmW ps es) (4 * ps.length + 4 * t) else 0) + (if ix ps (es.getD t (0, 0)).2 = i then rg (rmW ps es) (4 * ps.length + 4 * t + 2) else 0)) es.length
        = sumR (fun t => (if ix ps (es.getD t (0, 0)).1 = i then rg rm (4 * ps.length + 4 * t) else 0) + (if ix ps (es.getD t (0, 0)).2 = i then rg rm (4 * ps.length + 4 * t + 2) else 0)) es.length + outS ps es (fun t => rg rm (4 * ps.length + 4 * t + 1)) (fun t => rg rm (4 * ps.length + 4 * t + 3)) i := by
      unfold outS
      rw [← sumR_add]
      refine sumR_congr fun t ht => ?_
      obtain ⟨a, b, c, d⟩ := rmW_T (ps := ps) ht
      have p1 := (pairT t ht).1
      have p2 := (pairT t ht).2
      dsimp only
      rw [a, c]
      split <;> split <;> omega
    rw [z] at q
    omega
  have inn : ∀ (i : Nat) p, ps[i]? = some p → rg rm (4 * i + 2) + inS ps es (fun t => rg rm (4 * ps.length + 4 * t + 1)) (fun t => rg rm (4 * ps.length + 4 * t + 3)) i = p.2 := by
    intro i p hp
    have hi := (List.getElem?_eq_some_iff.mp hp).1
    have q := fil.cons (ps.length + i) (by omega) (by omega)
    rw [S_eq rm l, S_eq (rmW ps es) lw] at q
    have g : ∀ r : List Int, sumR (fun j => (if 2 * ps.length = ps.length + i then rg r (4 * j) else 0) + (if j = ps.length + i then rg r (4 * j + 1) else 0) + (if ps.length + j = ps.length + i then rg r (4 * j + 2) else 0) + (if 2 * ps.length + 1 = ps.length + i then rg r (4 * j + 3) else 0)) ps.length = rg r (4 * i + 2) := fun r => by
      refine (sumR_one hi fun a ha ne => ?_).trans ?_
      · rw [if_neg (by omega), if_neg (by omega), if_neg (by omega), if_neg (by omega)]; rfl
      · rw [if_neg (by omega), if_neg (by omega), if_pos rfl, if_neg (by omega)]; omega
    rw [g, g, (rmW_P (es := es) hp).2.2.1] at q
    have h : ∀ r : List Int, sumR (fun t => (if ix ps (es.getD t (0, 0)).1 = ps.length + i then rg r (4 * ps.length + 4 * t) else 0) + (if ps.length + ix ps (es.getD t (0, 0)).2 = ps.length + i then rg r (4 * ps.length + 4 * t + 1) else 0) + (if ix ps (es.getD t (0, 0)).2 = ps.length + i then rg r (4 * ps.length + 4 * t + 2) else 0) + (if ps.length + ix ps (es.getD t (0, 0)).1 = ps.length + i then rg r (4 * ps.length + 4 * t + 3) else 0)) es.length
        = inS ps es (fun t => rg r (4 * ps.length + 4 * t + 1)) (fun t => rg r (4 * ps.length + 4 * t + 3)) i := fun r => sumR_congr fun t ht => by
      have b := ixl t ht
      rw [if_neg (c := ix ps (es.getD t (0, 0)).1 = ps.length + i) (by omega), if_neg (c := ix ps (es.getD t (0, 0)).2 = ps.length + i) (by omega)]
      have c1 : (ps.length + ix ps (es.getD t (0, 0)).2 = ps.length + i) = (ix ps (es.getD t (0, 0)).2 = i) := propext ⟨fun h => by omega, fun h => by omega⟩
      have c2 : (ps.length + ix ps (es.getD t (0, 0)).1 = ps.length + i) = (ix ps (es.getD t (0, 0)).1 = i) := propext ⟨fun h => by omega, fun h => by omega⟩
      simp only [c1, c2]
      omega
    rw [h, h] at q
    have z : inS ps es (fun t => rg (rmW ps es) (4 * ps.length + 4 * t + 1)) (fun t => rg (rmW ps es) (4 * ps.length + 4 * t + 3)) i = 0 := sumR_zero fun t ht => by
      obtain ⟨a, b, c, d⟩ := rmW_T (ps := ps) ht
      dsimp only
      rw [b, d]
      split <;> split <;> rfl
    rw [z] at q
    omega
  have cl := met.closed
  have s0 : 2 * ps.length ∈ ws.map (·.1) := List.mem_map.mpr ⟨_, List.mem_of_getElem? met.first, rfl⟩
  have outle : ∀ (i : Nat) p, ps[i]? = some p → outS ps es (fun t => rg rm (4 * ps.length + 4 * t + 1)) (fun t => rg rm (4 * ps.length + 4 * t + 3)) i ≤ p.2 := fun i p hp => by
    have a := out i p hp
    have b := (pairP i p hp).1
    have c := fil.nn (4 * i)
    omega
  have less : ∀ (t : Nat) e, es[t]? = some e → rg rm (4 * ps.length + 4 * t + 1) < (ps.map (·.2)).sum ∧ rg rm (4 * ps.length + 4 * t + 3) < (ps.map (·.2)).sum := by
    intro t e he
    have ht := (List.getElem?_eq_some_iff.mp he).1
    have g : es.getD t (0, 0) = e := by rw [List.getD_eq_getElem?_getD, he]; rfl
    obtain ⟨k1, k2, k3⟩ := ends e (List.mem_of_getElem? he)
    obtain ⟨j1, p1, hp1, q1⟩ := place_at k1
    obtain ⟨j2, p2, hp2, q2⟩ := place_at k2
    have x1 := ix_at nd hp1
    have x2 := ix_at nd hp2
    rw [q1] at x1
    rw [q2] at x2
    have ne : j1 ≠ j2 := fun z => by
      subst z
      rw [hp1] at hp2
      cases hp2
      exact k3 (q1.symm.trans q2)
    have sm := sum_two (l := ps.map (·.2)) (fun x hx => by
      obtain ⟨p, hp, rfl⟩ := List.mem_map.mp hx
      exact ppos p hp) ne (x := p1.2) (y := p2.2) (by rw [List.getElem?_map, hp1]; rfl) (by rw [List.getElem?_map, hp2]; rfl)
    have pp1 := ppos p1 (List.mem_of_getElem? hp1)
    have pp2 := ppos p2 (List.mem_of_getElem? hp2)
    have nn : ∀ i a, a < es.length → 0 ≤ (if ix ps (es.getD a (0, 0)).1 = i then rg rm (4 * ps.length + 4 * a + 1) else 0) + (if ix ps (es.getD a (0, 0)).2 = i then rg rm (4 * ps.length + 4 * a + 3) else 0) := fun i a _ => by
      have a1 := fil.nn (4 * ps.length + 4 * a + 1)
      have a2 := fil.nn (4 * ps.length + 4 * a + 3)
      split <;> split <;> omega
    have o1 := outle j1 p1 hp1
    have o2 := outle j2 p2 hp2
    have g1 := sumR_ge (nn j1) ht
    have g2 := sumR_ge (nn j2) ht
    have ix12 : ¬ ix ps e.2 = j1 := fun z => ne (by omega)
    have ix21 : ¬ ix ps e.1 = j2 := fun z => ne (by omega)
    simp only [g, x1, x2, if_true, if_neg ix12, if_neg ix21] at g1 g2
    have a1 := fil.nn (4 * ps.length + 4 * t + 1)
    have a2 := fil.nn (4 * ps.length + 4 * t + 3)
    have h1 := Int.le_trans g1 o1
    have h2 := Int.le_trans g2 o2
    constructor
    · rw [if_neg (fun z => ne z.symm)] at h1
      omega
    · rw [if_neg ne] at h2
      omega
  refine ⟨fun t => fil.nn _, fun t => fil.nn _, outle, fun i p hp hR => ?_, fun i p hp => ?_, fun i p hp hR => ?_, fun t e he hR => ?_, fun t e he hR => ?_, fun t e he hR hF => ?_, fun t e he hR hG => ?_⟩
  · have hi := (List.getElem?_eq_some_iff.mp hp).1
    have w := hdW_P (es := es) hi
    have a := out i p hp
    have b := (pairP i p hp).1
    have c := fil.nn (4 * i)
    have d : ¬ 0 < rg rm (4 * i) := fun q => hR (by
      have := cl _ s0 (4 * i) (by omega) (by rw [tl_at, par0]; exact w.2.1) q
      rwa [w.1] at this)
    omega
  · have a := inn i p hp
    have c := fil.nn (4 * i + 2)
    omega
  · have hi := (List.getElem?_eq_some_iff.mp hp).1
    have w := hdW_P (es := es) hi
    have a := inn i p hp
    have c := fil.nn (4 * i + 2)
    have d : ¬ 0 < rg rm (4 * i + 2) := fun q => no (by
      have := cl _ hR (4 * i + 2) (by omega) (by rw [tl_at, par2]; exact w.2.2.2) q
      rwa [w.2.2.1] at this)
    omega
  all_goals
    have ht := (List.getElem?_eq_some_iff.mp he).1
    have w := hdW_T (ps := ps) he
    have e4 : 4 * ps.length + 4 * t = 4 * (ps.length + t) := by omega
    have p1 := (pairT t ht).1
    have p2 := (pairT t ht).2
    have le := less t e he
  · have := cl _ hR (4 * ps.length + 4 * t) (by omega) (by rw [e4] at w ⊢; rw [tl_at, par0]; exact w.2.1) (by omega)
    rwa [w.1] at this
  · have := cl _ hR (4 * ps.length + 4 * t + 2) (by omega) (by rw [e4] at w ⊢; rw [tl_at, par2]; exact w.2.2.2) (by omega)
    rwa [w.2.2.1] at this
  · have := cl _ hR (4 * ps.length + 4 * t + 1) (by omega) (by rw [e4] at w ⊢; rw [tl_at, par1]; exact w.1) hF
    rwa [w.2.1] at this
  · have := cl _ hR (4 * ps.length + 4 * t + 3) (by omega) (by rw [e4] at w ⊢; rw [tl_at, par3]; exact w.2.2.1) hG
    rwa [w.2.2.2] at this
end
end K33
set_option linter.all false
set_option maxRecDepth 100000
set_option maxHeartbeats 4000000
/-! ME: along a string (no program in sight). -/
namespace K33
/-- the one ahead -/
def bef (f : Nat → Int) (k : Nat) : Int := if k = 0 then 0 else f (k - 1)
theorem bef_zero (f : Nat → Int) : bef f 0 = 0 := rfl
theorem bef_succ (f : Nat → Int) (k : Nat) : bef f (k + 1) = f k := rfl
/-- twice the price of the k-th -/
def cap (a : Nat → Int) (x : Int) (k : Nat) : Int := bef a k + a k + (if k = 0 then 2 * x else 0)
/-- nothing bad stands anywhere even -/
theorem no_bad {n : Nat} {a z : Nat → Int} {x : Int} (hx : 0 < x) (an : ∀ k, n ≤ k + 1 → a k = 0) (zn : ∀ k, n ≤ k + 1 → z k = 0) (a0 : ∀ k, 0 ≤ a k) (B : Nat → Prop) (h1 : ∀ k, k < n → k % 2 = 0 → B k → bef z k + z k = cap a x k) (h2 : ∀ k, k < n → bef z k + z k ≤ cap a x k)
    (h3 : ∀ k, k + 2 < n → k % 2 = 0 → B k → 0 < z k → B (k + 2)) : ∀ m k, n ≤ k + m → k < n → k % 2 = 0 → B k → (k = 0 ∨ bef z k < bef a k) → False := by
  intro m
  induction m with
  | zero => intro k hm hk; omega
  | succ m ih =>
    intro k hm hk he hB hz
    have e1 := h1 k hk he hB
    have big : a k < z k := by
      unfold cap at e1
      rcases hz with h | h
      · subst h
        rw [bef_zero, bef_zero, if_pos rfl] at e1
        omega
      · split at e1 <;> omega
    by_cases c : k + 1 < n
    · have e2 := h2 (k + 1) c
      unfold cap at e2
      rw [bef_succ, bef_succ, if_neg (by omega)] at e2
      by_cases c2 : k + 2 < n
      · exact ih (k + 2) (by omega) c2 (by omega) (h3 k c2 he hB (by have := a0 k; omega)) (.inr (by rw [bef_succ, bef_succ]; omega))
      · have q1 := an (k + 1) (by omega)
        have q2 := zn (k + 1) (by omega)
        omega
    · have q1 := an k (by omega)
      have q2 := zn k (by omega)
      omega
/-- flows along a string -/
structure SF (n : Nat) (a : Nat → Int) (x : Int) (F G : Nat → Int) (Lm Rm : Nat → Prop) : Prop where
  nF : ∀ k, 0 ≤ F k
  nG : ∀ k, 0 ≤ G k
  zF : ∀ k, n ≤ k + 1 → F k = 0
  zG : ∀ k, n ≤ k + 1 → G k = 0
  outL : ∀ k, k < n → 2 * (F k + bef G k) ≤ cap a x k
  outE : ∀ k, k < n → ¬ Lm k → 2 * (F k + bef G k) = cap a x k
  inL : ∀ k, k < n → 2 * (bef F k + G k) ≤ cap a x k
  inE : ∀ k, k < n → Rm k → 2 * (bef F k + G k) = cap a x k
  arcF : ∀ k, k + 1 < n → Lm k → Rm (k + 1)
  arcG : ∀ k, k + 1 < n → Lm (k + 1) → Rm k
  backF : ∀ k, k + 1 < n → Rm (k + 1) → 0 < F k → Lm k
  backG : ∀ k, k + 1 < n → Rm k → 0 < G k → Lm (k + 1)
def Xf (F G : Nat → Int) (k : Nat) : Int := if k % 2 = 0 then 2 * F k else 2 * G k
theorem Xf_bef (F G : Nat → Int) (k : Nat) : bef (Xf F G) k = if k % 2 = 0 then 2 * bef G k else 2 * bef F k := by
  cases k with
  | zero => rfl
  | succ k =>
    rw [bef_succ, bef_succ, bef_succ]
    unfold Xf
    by_cases h : k % 2 = 0
    · rw [if_pos h, if_neg (by omega)]
    · rw [if_neg h, if_pos (by omega)]
section
variable {n : Nat} {a : Nat → Int} {x : Int} {F G : Nat → Int} {Lm Rm : Nat → Prop}
theorem SF.sum (h : SF n a x F G Lm Rm) {k : Nat} (hk : k < n) : bef (Xf F G) k + Xf F G k ≤ cap a x k := by
  rw [Xf_bef]
  unfold Xf
  have p := h.outL k hk
  have q := h.inL k hk
  split <;> omega
theorem SF.sumY (h : SF n a x F G Lm Rm) {k : Nat} (hk : k < n) : bef (Xf G F) k + Xf G F k ≤ cap a x k := by
  rw [Xf_bef]
  unfold Xf
  have p := h.outL k hk
  have q := h.inL k hk
  split <;> omega
theorem SF.evenL (h : SF n a x F G Lm Rm) (hx : 0 < x) (an : ∀ k, n ≤ k + 1 → a k = 0) (a0 : ∀ k, 0 ≤ a k) (apos : ∀ k, k + 1 < n → 0 < a k) : ∀ j, 2 * j < n → Lm (2 * j) := by
  have nb := no_bad (n := n) (a := a) (z := Xf F G) hx an (fun k hk => by unfold Xf; rw [h.zF k hk, h.zG k hk]; split <;> rfl) a0 (fun k => ¬ Lm k)
    (fun k hk he hB => by
      rw [Xf_bef]
      unfold Xf
      rw [if_pos he, if_pos he]
      have := h.outE k hk hB
      omega) (fun k hk => h.sum hk)
    (fun k hk he hB hz => by
      intro hL
      have r := h.arcG (k + 1) hk hL
      refine hB (h.backF k (by omega) r ?_)
      unfold Xf at hz
      rw [if_pos he] at hz
      omega)
  intro j
  induction j with
  | zero =>
    intro hj
    by_cases c : Lm (2 * 0)
    · exact c
    · exact (nb n (2 * 0) (by omega) hj rfl c (.inl rfl)).elim
  | succ j ih =>
    intro hj
    have l0 := ih (by omega)
    have e : 2 * (j + 1) = 2 * j + 2 := by omega
    rw [e] at hj ⊢
    have r := h.arcF (2 * j) (by omega) l0
    by_cases c : Lm (2 * j + 2)
    · exact c
    · by_cases z : 0 < G (2 * j + 1)
      · exact h.backG (2 * j + 1) hj r z
      · refine (nb n (2 * j + 2) (by omega) hj (by omega) c (.inr ?_)).elim
        rw [bef_succ, bef_succ]
        unfold Xf
        rw [if_neg (by omega)]
        have := apos (2 * j + 1) (by omega)
        omega
theorem SF.oddR (h : SF n a x F G Lm Rm) (hx : 0 < x) (an : ∀ k, n ≤ k + 1 → a k = 0) (a0 : ∀ k, 0 ≤ a k) (apos : ∀ k, k + 1 < n → 0 < a k) : ∀ j, 2 * j + 1 < n → Rm (2 * j + 1) := fun j hj => h.arcF (2 * j) hj (h.evenL hx an a0 apos j (by omega))
theorem SF.evenR (h : SF n a x F G Lm Rm) (hx : 0 < x) (an : ∀ k, n ≤ k + 1 → a k = 0) (a0 : ∀ k, 0 ≤ a k) (apos : ∀ k, k + 1 < n → 0 < a k) : ∀ j, 2 * j < n → ¬ Rm (2 * j) := by
  have nb := no_bad (n := n) (a := a) (z := Xf G F) hx an (fun k hk => by unfold Xf; rw [h.zF k hk, h.zG k hk]; split <;> rfl) a0 Rm
    (fun k hk he hB => by
      rw [Xf_bef]
      unfold Xf
      rw [if_pos he, if_pos he]
      have := h.inE k hk hB
      omega) (fun k hk => h.sumY hk)
    (fun k hk he hB hz => by
      have l := h.backG k (by omega) hB (by
        unfold Xf at hz
        rw [if_pos he] at hz
        omega)
      exact h.arcF (k + 1) hk l)
  intro j
  induction j with
  | zero =>
    intro hj c
    exact nb n (2 * 0) (by omega) hj rfl c (.inl rfl)
  | succ j ih =>
    intro hj c
    have r0 := ih (by omega)
    have e : 2 * (j + 1) = 2 * j + 2 := by omega
    rw [e] at hj c
    have nl : ¬ Lm (2 * j + 1) := fun l => r0 (h.arcG (2 * j) (by omega) l)
    have z : ¬ 0 < F (2 * j + 1) := fun z => nl (h.backF (2 * j + 1) hj c z)
    refine nb n (2 * j + 2) (by omega) hj (by omega) c (.inr ?_)
    rw [bef_succ, bef_succ]
    unfold Xf
    rw [if_neg (by omega)]
    have := apos (2 * j + 1) (by omega)
    omega
theorem SF.oddL (h : SF n a x F G Lm Rm) (hx : 0 < x) (an : ∀ k, n ≤ k + 1 → a k = 0) (a0 : ∀ k, 0 ≤ a k) (apos : ∀ k, k + 1 < n → 0 < a k) : ∀ j, 2 * j + 1 < n → ¬ Lm (2 * j + 1) := fun j hj l => h.evenR hx an a0 apos j (by omega) (h.arcG (2 * j) hj l)
/-- what is paid along a string -/
theorem SF.paid_le (h : SF n a x F G Lm Rm) {k : Nat} (hk : k < n) : (bef F k + bef G k) + (F k + G k) ≤ cap a x k := by
  have p := h.outL k hk
  have q := h.inL k hk
  omega
theorem SF.paid_odd (h : SF n a x F G Lm Rm) (hx : 0 < x) (an : ∀ k, n ≤ k + 1 → a k = 0) (a0 : ∀ k, 0 ≤ a k) (apos : ∀ k, k + 1 < n → 0 < a k) {k : Nat} (hk : k < n) (ho : k % 2 = 1) : (bef F k + bef G k) + (F k + G k) = cap a x k := by
  have e : k = 2 * (k / 2) + 1 := by omega
  have r := h.oddR hx an a0 apos (k / 2) (by omega)
  have l := h.oddL hx an a0 apos (k / 2) (by omega)
  rw [← e] at r l
  have p := h.outE k hk l
  have q := h.inE k hk r
  omega
end
/-- dues along a string -/
structure SD (n : Nat) (a : Nat → Int) (x : Int) (d : Nat → Int) : Prop where
  nn : ∀ k, 0 ≤ d k
  z : ∀ k, n ≤ k + 1 → d k = 0
  le : ∀ k, k < n → bef d k + d k ≤ cap a x k
  odd : ∀ k, k < n → k % 2 = 1 → bef d k + d k = cap a x k
/-- who is out, who is in -/
theorem SD.all {n : Nat} {a : Nat → Int} {x : Int} {d : Nat → Int} (h : SD n a x d) (hx : 0 < x) (an : ∀ k, n ≤ k + 1 → a k = 0) (a0 : ∀ k, 0 ≤ a k) (apos : ∀ k, k + 1 < n → 0 < a k) (Ou In : Nat → Prop)
    (lo : ∀ k, k < n → bef d k + d k < cap a x k → Ou k) (oiF : ∀ k, k + 1 < n → Ou k → In (k + 1)) (oiB : ∀ k, k + 1 < n → Ou (k + 1) → In k) (ioF : ∀ k, k + 1 < n → In k → 0 < d k → Ou (k + 1)) (ioB : ∀ k, k + 1 < n → In (k + 1) → 0 < d k → Ou k) :
    (∀ j, 2 * j < n → Ou (2 * j)) ∧ ∀ j, 2 * j + 1 < n → In (2 * j + 1) := by
  have nb := no_bad (n := n) (a := a) (z := d) hx an h.z a0 (fun k => ¬ Ou k)
    (fun k hk he hB => by
      have p := h.le k hk
      by_cases c : bef d k + d k < cap a x k
      · exact (hB (lo k hk c)).elim
      · omega) h.le
    (fun k hk he hB hz hO => hB (ioB k (by omega) (oiB (k + 1) hk hO) hz))
  have ev : ∀ j, 2 * j < n → Ou (2 * j) := by
    intro j
    induction j with
    | zero =>
      intro hj
      by_cases c : Ou (2 * 0)
      · exact c
      · exact (nb n (2 * 0) (by omega) hj rfl c (.inl rfl)).elim
    | succ j ih =>
      intro hj
      have e : 2 * (j + 1) = 2 * j + 2 := by omega
      rw [e] at hj ⊢
      have i1 := oiF (2 * j) (by omega) (ih (by omega))
      by_cases c : Ou (2 * j + 2)
      · exact c
      · by_cases z : 0 < d (2 * j + 1)
        · exact ioF (2 * j + 1) hj i1 z
        · refine (nb n (2 * j + 2) (by omega) hj (by omega) c (.inr ?_)).elim
          rw [bef_succ, bef_succ]
          have := apos (2 * j + 1) (by omega)
          omega
  exact ⟨ev, fun j hj => oiF (2 * j) hj (ev j (by omega))⟩
end K33
set_option linter.all false
set_option maxRecDepth 100000
set_option maxHeartbeats 4000000
/-! MF: strings as webs. -/
namespace K33
theorem perm_sum {l m : List Int} (h : l.Perm m) : l.sum = m.sum := by
  induction h with
  | nil => rfl
  | cons x _ ih => rw [List.sum_cons, List.sum_cons, ih]
  | swap x y l => rw [List.sum_cons, List.sum_cons, List.sum_cons, List.sum_cons]; omega
  | trans _ _ a b => exact a.trans b
theorem sum_app (l m : List Int) : (l ++ m).sum = l.sum + m.sum := by
  induction l with
  | nil => show m.sum = 0 + m.sum; omega
  | cons x l ih => rw [List.cons_append, List.sum_cons, List.sum_cons, ih]; omega
theorem sum_range (f : Nat → Int) : ∀ m, ((List.range m).map f).sum = sumR f m
  | 0 => rfl
  | m + 1 => by
    rw [List.range_succ, List.map_append, sum_app, sum_range f m]
    show sumR f m + (f m + 0) = sumR f m + f m
    omega
theorem getD_at {α : Type} {l : List α} {i : Nat} {x d : α} (h : l[i]? = some x) : l.getD i d = x := by rw [List.getD_eq_getElem?_getD, h]; rfl
theorem sum_list {α : Type} (d : α) (f : α → Int) (l : List α) : (l.map f).sum = sumR (fun t => f (l.getD t d)) l.length := by
  rw [← sum_range]
  congr 1
  refine List.ext_getElem? fun i => ?_
  rw [List.getElem?_map, List.getElem?_map]
  by_cases h : i < l.length
  · rw [List.getElem?_range h, List.getElem?_eq_getElem h]
    show some _ = some (f (l.getD i d))
    rw [getD_at (List.getElem?_eq_getElem h)]
  · rw [List.getElem?_eq_none (by omega), List.getElem?_eq_none (by rw [List.length_range]; omega)]; rfl
/-- two members of a sum that stand side by side -/
theorem sum_pick (f g : Nat → Int) (j : Nat) : ∀ m, sumR (fun k => (if k = j then f k else 0) + (if k + 1 = j then g k else 0)) m = (if j < m then f j else 0) + (if 0 < j ∧ j ≤ m then g (j - 1) else 0)
  | 0 => by
    rw [if_neg (by omega), if_neg (by omega)]; rfl
  | m + 1 => by
    show sumR _ m + ((if m = j then f m else 0) + (if m + 1 = j then g m else 0)) = _
    rw [sum_pick f g j m]
    by_cases c : m = j
    · subst c
      have h1 : ¬ m < m := Nat.lt_irrefl m
      have h2 : ¬ m + 1 = m := by omega
      have h3 : m < m + 1 := by omega
      rw [if_neg h1, if_pos rfl, if_neg h2, if_pos h3]
      by_cases c0 : 0 < m
      · rw [if_pos (⟨c0, Nat.le_refl m⟩ : 0 < m ∧ m ≤ m), if_pos (⟨c0, by omega⟩ : 0 < m ∧ m ≤ m + 1)]; omega
      · rw [if_neg (fun h => c0 h.1 : ¬ (0 < m ∧ m ≤ m)), if_neg (fun h => c0 h.1 : ¬ (0 < m ∧ m ≤ m + 1))]; omega
    · by_cases c1 : m + 1 = j
      · subst c1
        have h1 : ¬ m + 1 < m := by omega
        have h2 : ¬ (0 < m + 1 ∧ m + 1 ≤ m) := by omega
        have h3 : ¬ m + 1 < m + 1 := by omega
        have h4 : 0 < m + 1 ∧ m + 1 ≤ m + 1 := by omega
        rw [if_neg h1, if_neg h2, if_neg c, if_pos rfl, if_neg h3, if_pos h4]
        show 0 + 0 + (0 + g m) = 0 + g m
        omega
      · rw [if_neg c, if_neg c1]
        have h1 : (j < m + 1) = (j < m) := propext ⟨fun h => by omega, fun h => by omega⟩
        have h2 : (0 < j ∧ j ≤ m + 1) = (0 < j ∧ j ≤ m) := propext ⟨fun h => by omega, fun h => by omega⟩
        simp only [h1, h2]
        omega
def oA (o : List Int) (k : Nat) : Int := o.getD k 0
def aA (am : List Int) (k : Nat) : Int := am.getD k 0
def tieA (o : List Int) (k : Nat) : Int × Int := (mn (oA o k) (oA o (k + 1)), mx (oA o k) (oA o (k + 1)))
def prA (am : List Int) (x : Int) (k : Nat) : Int := cap (aA am) x k / 2
structure Strg (o am : List Int) (x : Int) : Prop where
  nd : o.Nodup
  rng : ∀ v ∈ o, 0 ≤ v ∧ v ≤ 999
  pos : 1 ≤ o.length
  len : o.length ≤ 40
  lam : am.length + 1 = o.length
  am : ∀ a ∈ am, 2 ≤ a ∧ a ≤ 2000000000 ∧ a % 2 = 0
  x : 1 ≤ x ∧ x ≤ 1000000000
structure StrWeb (o am : List Int) (x : Int) (ps es : List (Int × Int)) : Prop where
  s : Strg o am x
  pP : ps.Perm ((List.range o.length).map fun k => (oA o k, prA am x k))
  pR : ps.Pairwise (fun a b => a.1 < b.1)
  eP : es.Perm ((List.range am.length).map (tieA o))
  eR : es.Pairwise lt2
section
variable {o am : List Int} {x : Int} {ps es : List (Int × Int)}
theorem oA_at {k : Nat} (h : k < o.length) : o[k]? = some (oA o k) := by
  unfold oA
  rw [getD_at (List.getElem?_eq_getElem h)]
  exact List.getElem?_eq_getElem h
theorem oA_mem {k : Nat} (h : k < o.length) : oA o k ∈ o := List.mem_of_getElem? (oA_at h)
theorem mem_oA {v : Int} (h : v ∈ o) : ∃ k, k < o.length ∧ v = oA o k := by
  obtain ⟨k, hk⟩ := List.getElem?_of_mem h
  have l := (List.getElem?_eq_some_iff.mp hk).1
  rw [oA_at l] at hk
  exact ⟨k, l, (Option.some.inj hk).symm⟩
theorem oA_inj (nd : o.Nodup) {j k : Nat} (hj : j < o.length) (hk : k < o.length) (e : oA o j = oA o k) : j = k   := L2.nd_ix nd (oA_at hj) (by rw [oA_at hk, e])
theorem Strg.aZ (s : Strg o am x) {k : Nat} (h : o.length ≤ k + 1) : aA am k = 0 := by
  unfold aA
  rw [List.getD_eq_getElem?_getD, List.getElem?_eq_none (by have := s.lam; omega)]; rfl
theorem Strg.aIn (s : Strg o am x) {k : Nat} (h : k + 1 < o.length) : 2 ≤ aA am k ∧ aA am k ≤ 2000000000 ∧ aA am k % 2 = 0 := by
  have l : k < am.length := by have := s.lam; omega
  unfold aA
  rw [getD_at (List.getElem?_eq_getElem l)]
  exact s.am _ (List.getElem_mem l)
theorem Strg.a_all (s : Strg o am x) (k : Nat) : 0 ≤ aA am k ∧ aA am k ≤ 2000000000 ∧ aA am k % 2 = 0 := by
  by_cases h : k + 1 < o.length
  · have := s.aIn h; omega
  · rw [s.aZ (by omega)]; omega
theorem Strg.cap_all (s : Strg o am x) {k : Nat} (hk : k < o.length) : 2 * prA am x k = cap (aA am) x k ∧ 1 ≤ prA am x k ∧ prA am x k ≤ 3000000000 := by
  unfold prA cap
  have b := s.a_all k
  have xx := s.x
  cases k with
  | zero =>
    rw [bef_zero, if_pos rfl]
    omega
  | succ k =>
    have a := s.aIn (k := k) hk
    rw [bef_succ, if_neg (by omega)]
    omega
theorem StrWeb.mem (h : StrWeb o am x ps es) (p : Int × Int) : p ∈ ps ↔ ∃ k, k < o.length ∧ p = (oA o k, prA am x k) := by
  rw [h.pP.mem_iff, List.mem_map]
  exact ⟨fun ⟨k, hk, e⟩ => ⟨k, List.mem_range.mp hk, e.symm⟩, fun ⟨k, hk, e⟩ => ⟨k, List.mem_range.mpr hk, e.symm⟩⟩
theorem StrWeb.keys (h : StrWeb o am x ps es) (v : Int) : v ∈ ps.map (·.1) ↔ v ∈ o := by
  constructor
  · intro m
    obtain ⟨p, hp, e⟩ := List.mem_map.mp m
    obtain ⟨k, hk, rfl⟩ := (h.mem p).mp hp
    rw [← e]
    exact oA_mem hk
  · intro m
    obtain ⟨k, hk, e⟩ := mem_oA m
    rw [e]
    exact List.mem_map.mpr ⟨_, (h.mem _).mpr ⟨k, hk, rfl⟩, rfl⟩
theorem StrWeb.lenP (h : StrWeb o am x ps es) : ps.length = o.length := by have := h.pP.length_eq; rwa [List.length_map, List.length_range] at this
theorem StrWeb.lenE (h : StrWeb o am x ps es) : es.length = am.length := by have := h.eP.length_eq; rwa [List.length_map, List.length_range] at this
theorem StrWeb.tie (h : StrWeb o am x ps es) (e : Int × Int) : e ∈ es ↔ ∃ k, k + 1 < o.length ∧ e = tieA o k := by
  have l := h.s.lam
  rw [h.eP.mem_iff, List.mem_map]
  exact ⟨fun ⟨k, hk, e⟩ => ⟨k, by have := List.mem_range.mp hk; omega, e.symm⟩, fun ⟨k, hk, e⟩ => ⟨k, List.mem_range.mpr (by omega), e.symm⟩⟩
theorem tieA_or (nd : o.Nodup) {k : Nat} (hk : k + 1 < o.length) : (oA o k < oA o (k + 1) ∧ tieA o k = (oA o k, oA o (k + 1))) ∨ (oA o (k + 1) < oA o k ∧ tieA o k = (oA o (k + 1), oA o k)) := by
  have ne : oA o k ≠ oA o (k + 1) := fun e => by have := oA_inj nd (by omega) hk e; omega
  unfold tieA mn mx
  by_cases c : oA o k < oA o (k + 1)
  · exact .inl ⟨c, by rw [if_neg (by omega), if_pos (by omega)]⟩
  · exact .inr ⟨by omega, by rw [if_pos (by omega), if_neg (by omega)]⟩
theorem tieA_inj (nd : o.Nodup) {j k : Nat} (hj : j + 1 < o.length) (hk : k + 1 < o.length) (e : tieA o j = tieA o k) : j = k := by
  rcases tieA_or nd hj with ⟨_, a⟩ | ⟨_, a⟩ <;> rcases tieA_or nd hk with ⟨_, b⟩ | ⟨_, b⟩ <;> rw [a, b] at e <;> injection e with e1 e2
  · exact oA_inj nd (by omega) (by omega) e1
  · have := oA_inj nd (by omega) (by omega) e1
    have := oA_inj nd (by omega) (by omega) e2
    omega
  · have := oA_inj nd (by omega) (by omega) e1
    have := oA_inj nd (by omega) (by omega) e2
    omega
  · exact oA_inj nd (by omega) (by omega) e2
theorem StrWeb.nd (h : StrWeb o am x ps es) : (ps.map (·.1)).Nodup := by
  rw [List.Nodup, List.pairwise_map]
  exact h.pR.imp fun q e => by omega
theorem lt2_irr {a : Int × Int} (h : lt2 a a) : False := by
  unfold lt2 at h
  omega
theorem StrWeb.ndE (h : StrWeb o am x ps es) : es.Nodup := by
  unfold List.Nodup
  exact h.eR.imp fun q e => by
    subst e
    exact lt2_irr q
theorem sum_le {l : List Int} {B : Int} (h : ∀ x ∈ l, x ≤ B) : l.sum ≤ B * l.length := by
  induction l with
  | nil => simp
  | cons a l ih =>
    have h1 := h a (by simp)
    have h2 := ih fun x hx => h x (by simp [hx])
    rw [List.sum_cons, List.length_cons]
    have : B * ((l.length + 1 : Nat) : Int) = B * (l.length : Int) + B := by
      rw [Int.natCast_add, Int.mul_add]; simp
    omega
theorem StrWeb.ok (h : StrWeb o am x ps es) : WebOk ps es := by
  have s := h.s
  have lp := h.lenP
  have l40 := s.len
  refine ⟨⟨by omega, h.pR, fun p hp => ?_, ?_⟩, ⟨by have := h.lenE; have := s.lam; omega, h.eR, fun e he => ?_⟩⟩
  · obtain ⟨k, hk, rfl⟩ := (h.mem p).mp hp
    have a := s.rng _ (oA_mem hk)
    have b := s.cap_all hk
    exact ⟨a.1, a.2, b.2.1⟩
  · have := sum_le (l := ps.map (·.2)) (B := 3000000000) fun y hy => by
      obtain ⟨p, hp, rfl⟩ := List.mem_map.mp hy
      obtain ⟨k, hk, rfl⟩ := (h.mem p).mp hp
      exact (s.cap_all hk).2.2
    rw [List.length_map] at this
    omega
  · obtain ⟨k, hk, rfl⟩ := (h.tie e).mp he
    rcases tieA_or s.nd hk with ⟨a, b⟩ | ⟨a, b⟩ <;> rw [b]
    · exact ⟨a, (h.keys _).mpr (oA_mem (by omega)), (h.keys _).mpr (oA_mem hk)⟩
    · exact ⟨a, (h.keys _).mpr (oA_mem hk), (h.keys _).mpr (oA_mem (by omega))⟩
theorem StrWeb.hv (h : StrWeb o am x ps es) {k : Nat} (hk : k < o.length) : hv ps (oA o k) = prA am x k := hv_mem (p := (oA o k, prA am x k)) h.nd ((h.mem _).mpr ⟨k, hk, rfl⟩)
theorem StrWeb.hv2 (h : StrWeb o am x ps es) {k : Nat} (hk : k < o.length) : 2 * K33.hv ps (oA o k) = cap (aA am) x k := by rw [h.hv hk]; exact (h.s.cap_all hk).1
/-- along a tie of the string -/
def alongA (o : List Int) (es : List (Int × Int)) (F G : Nat → Int) (k : Nat) : Int := if k + 1 < o.length then (if oA o k < oA o (k + 1) then F (es.idxOf (tieA o k)) else G (es.idxOf (tieA o k))) else 0
theorem idx_at (nd : es.Nodup) {t : Nat} (h : t < es.length) : es.idxOf (es.getD t (0, 0)) = t := by
  rw [getD_at (List.getElem?_eq_getElem h)]
  exact List.Nodup.idxOf_getElem nd t h
/-- what touches a place, tie by tie -/
theorem StrWeb.touch (h : StrWeb o am x ps es) (F G : Nat → Int) {j : Nat} (hj : j < o.length) :
    sumR (fun t => (if (es.getD t (0, 0)).1 = oA o j then F t else 0) + (if (es.getD t (0, 0)).2 = oA o j then G t else 0)) es.length = alongA o es F G j + bef (alongA o es G F) j := by
  have s := h.s
  have l := s.lam
  have e1 : sumR (fun t => (if (es.getD t (0, 0)).1 = oA o j then F t else 0) + (if (es.getD t (0, 0)).2 = oA o j then G t else 0)) es.length
      = (es.map fun e => (if e.1 = oA o j then F (es.idxOf e) else 0) + (if e.2 = oA o j then G (es.idxOf e) else 0)).sum := by
    rw [sum_list (0, 0)]
    refine sumR_congr fun t ht => ?_
    rw [idx_at h.ndE ht]
  rw [e1, perm_sum (h.eP.map _), List.map_map, sum_range]
  have e2 : sumR ((fun e => (if e.1 = oA o j then F (es.idxOf e) else 0) + (if e.2 = oA o j then G (es.idxOf e) else 0)) ∘ tieA o) am.length
      = sumR (fun k => (if k = j then alongA o es F G k else 0) + (if k + 1 = j then alongA o es G F k else 0)) am.length := by
    refine sumR_congr fun k hk => ?_
    show (if (tieA o k).1 = oA o j then F (es.idxOf (tieA o k)) else 0) + (if (tieA o k).2 = oA o j then G (es.idxOf (tieA o k)) else 0) = _
    have k1 : k + 1 < o.length := by omega
    have i1 : (oA o k = oA o j) = (k = j) := propext ⟨oA_inj s.nd (by omega) hj, fun e => by rw [e]⟩
    have i2 : (oA o (k + 1) = oA o j) = (k + 1 = j) := propext ⟨oA_inj s.nd k1 hj, fun e => by rw [e]⟩
    unfold alongA
    rw [if_pos k1, if_pos k1]
    rcases tieA_or s.nd k1 with ⟨a, b⟩ | ⟨a, b⟩
    · rw [if_pos a, if_pos a, b]
      simp only [i1, i2]
    · have a' : ¬ oA o k < oA o (k + 1) := by omega
      rw [if_neg a', if_neg a', b]
      simp only [i1, i2]
      omega
  rw [e2, sum_pick]
  cases j with
  | zero =>
    have z : ¬ (0 < 0 ∧ 0 ≤ am.length) := by omega
    rw [bef_zero, if_neg z]
    by_cases c : 0 < am.length
    · rw [if_pos c]
    · have : alongA o es F G 0 = 0 := by unfold alongA; rw [if_neg (by omega)]
      rw [if_neg c, this]
  | succ j =>
    rw [bef_succ, if_pos (by omega : 0 < j + 1 ∧ j + 1 ≤ am.length)]
    by_cases c : j + 1 < am.length
    · rw [if_pos c]; rfl
    · rw [if_neg c]
      have : alongA o es F G (j + 1) = 0 := by unfold alongA; rw [if_neg (by omega)]
      rw [this]; rfl
end
end K33
set_option linter.all false
set_option maxRecDepth 100000
set_option maxHeartbeats 4000000
/-! MG: what is told over a string. -/
namespace K33
section
variable {o am : List Int} {x : Int} {ps es : List (Int × Int)}
theorem StrWeb.at_ (h : StrWeb o am x ps es) {k : Nat} (hk : k < o.length) : ps[ix ps (oA o k)]? = some (oA o k, prA am x k) := by
  obtain ⟨i, hi⟩ := List.getElem?_of_mem ((h.mem _).mpr ⟨k, hk, rfl⟩)
  rw [ix_at h.nd hi]
  exact hi
theorem ix_inj (nd : (ps.map (·.1)).Nodup) {u v : Int} (hu : u ∈ ps.map (·.1)) (hv : v ∈ ps.map (·.1)) (e : ix ps u = ix ps v) : u = v := by
  obtain ⟨i, p, hp, rfl⟩ := place_at hu
  obtain ⟨j, q, hq, rfl⟩ := place_at hv
  rw [ix_at nd hp, ix_at nd hq] at e
  subst e
  rw [hp] at hq
  cases hq
  rfl
theorem StrWeb.es_at (h : StrWeb o am x ps es) {k : Nat} (hk : k + 1 < o.length) : es[es.idxOf (tieA o k)]? = some (tieA o k) := by
  have m := (h.tie _).mpr ⟨k, hk, rfl⟩
  have l := List.idxOf_lt_length_of_mem m
  rw [List.getElem?_eq_getElem l, List.getElem_idxOf l]
theorem StrWeb.outS (h : StrWeb o am x ps es) (F G : Nat → Int) {j : Nat} (hj : j < o.length) : K33.outS ps es F G (ix ps (oA o j)) = alongA o es F G j + bef (alongA o es G F) j := by
  rw [← h.touch F G hj]
  unfold K33.outS
  refine sumR_congr fun t ht => ?_
  have m : es.getD t (0, 0) ∈ es := by rw [getD_at (List.getElem?_eq_getElem ht)]; exact List.getElem_mem ht
  have q := h.ok.t.each _ m
  have kj := (h.keys _).mpr (oA_mem hj)
  have i1 : (ix ps (es.getD t (0, 0)).1 = ix ps (oA o j)) = ((es.getD t (0, 0)).1 = oA o j) := propext ⟨ix_inj h.nd q.2.1 kj, fun e => by rw [e]⟩
  have i2 : (ix ps (es.getD t (0, 0)).2 = ix ps (oA o j)) = ((es.getD t (0, 0)).2 = oA o j) := propext ⟨ix_inj h.nd q.2.2 kj, fun e => by rw [e]⟩
  simp only [i1, i2]
theorem StrWeb.inS (h : StrWeb o am x ps es) (F G : Nat → Int) {j : Nat} (hj : j < o.length) : K33.inS ps es F G (ix ps (oA o j)) = alongA o es G F j + bef (alongA o es F G) j := by
  rw [← h.outS G F hj]
  unfold K33.outS K33.inS
  refine sumR_congr fun t ht => ?_
  exact Int.add_comm _ _
theorem alongA_nn (F G : Nat → Int) (nF : ∀ t, 0 ≤ F t) (nG : ∀ t, 0 ≤ G t) (k : Nat) : 0 ≤ alongA o es F G k := by
  unfold alongA
  split
  · split
    · exact nF _
    · exact nG _
  · exact Int.le_refl 0
theorem alongA_z (F G : Nat → Int) {k : Nat} (h : o.length ≤ k + 1) : alongA o es F G k = 0 := by unfold alongA; rw [if_neg (by omega)]
theorem StrWeb.sf (h : StrWeb o am x ps es) {R : List Nat} {F G : Nat → Int} (f : Fl ps es R F G) : SF o.length (aA am) x (alongA o es F G) (alongA o es G F) (fun k => ix ps (oA o k) ∈ R) (fun k => ps.length + ix ps (oA o k) ∈ R) := by
  refine ⟨alongA_nn F G f.nnF f.nnG, alongA_nn G F f.nnG f.nnF, fun k => alongA_z F G, fun k => alongA_z G F, fun k hk => ?_, fun k hk hm => ?_, fun k hk => ?_, fun k hk hm => ?_, fun k hk hm => ?_, fun k hk hm => ?_, fun k hk hm hz => ?_, fun k hk hm hz => ?_⟩
  · have a := f.outL _ _ (h.at_ hk)
    have b := (h.s.cap_all hk).1
    rw [h.outS F G hk] at a
    dsimp only at a
    omega
  · have a := f.outE _ _ (h.at_ hk) hm
    have b := (h.s.cap_all hk).1
    rw [h.outS F G hk] at a
    dsimp only at a
    omega
  · have a := f.inL _ _ (h.at_ hk)
    have b := (h.s.cap_all hk).1
    rw [h.inS F G hk] at a
    dsimp only at a
    omega
  · have a := f.inE _ _ (h.at_ hk) hm
    have b := (h.s.cap_all hk).1
    rw [h.inS F G hk] at a
    dsimp only at a
    omega
  all_goals
    have a1 := f.arc1 _ _ (h.es_at hk)
    have a2 := f.arc2 _ _ (h.es_at hk)
    have b1 := f.back1 _ _ (h.es_at hk)
    have b2 := f.back2 _ _ (h.es_at hk)
    rcases tieA_or h.s.nd hk with ⟨c, e⟩ | ⟨c, e⟩
  · rw [e] at a1; exact a1 hm
  · rw [e] at a2; exact a2 hm
  · rw [e] at a2; exact a2 hm
  · rw [e] at a1; exact a1 hm
  · unfold alongA at hz
    rw [if_pos hk, if_pos c] at hz
    rw [e] at b1 hz
    exact b1 hm hz
  · have c' : ¬ oA o k < oA o (k + 1) := by omega
    unfold alongA at hz
    rw [if_pos hk, if_neg c'] at hz
    rw [e] at b2 hz
    exact b2 hm hz
  · unfold alongA at hz
    rw [if_pos hk, if_pos c] at hz
    rw [e] at b2 hz
    exact b2 hm hz
  · have c' : ¬ oA o k < oA o (k + 1) := by omega
    unfold alongA at hz
    rw [if_pos hk, if_neg c'] at hz
    rw [e] at b1 hz
    exact b1 hm hz
/-- the halves of a string -/
def halS (o : List Int) (ps : List (Int × Int)) : List (Int × Int) := ps.map fun p => (p.1, 2 * ((o.idxOf p.1 % 2 : Nat) : Int))
theorem idx_oA (nd : o.Nodup) {k : Nat} (hk : k < o.length) : o.idxOf (oA o k) = k := by
  have e := oA_at hk
  obtain ⟨l, q⟩ := List.getElem?_eq_some_iff.mp e
  rw [← q]
  exact List.Nodup.idxOf_getElem nd k l
theorem Strg.a_pos (s : Strg o am x) : ∀ k, k + 1 < o.length → 0 < aA am k := fun k hk => by have := s.aIn hk; omega
theorem StrWeb.halves (h : StrWeb o am x ps es) {R : List Nat} {F G : Nat → Int} (f : Fl ps es R F G) : hal ps (halfAt ps.length R) = halS o ps := by
  have s := h.s
  have sf := h.sf f
  have hx : 0 < x := by have := s.x; omega
  have an : ∀ k, o.length ≤ k + 1 → aA am k = 0 := fun k hk => s.aZ hk
  have a0 : ∀ k, 0 ≤ aA am k := fun k => (s.a_all k).1
  refine List.ext_getElem? fun i => ?_
  unfold hal halS
  rw [List.getElem?_map, List.getElem?_map, List.getElem?_zipIdx]
  cases hp : ps[i]? with
  | none => rfl
  | some p =>
    obtain ⟨k, hk, rfl⟩ := (h.mem p).mp (List.mem_of_getElem? hp)
    have ei := ix_at h.nd hp
    show some ((oA o k, halfAt ps.length R (0 + i)) : Int × Int) = some (oA o k, 2 * ((o.idxOf (oA o k) % 2 : Nat) : Int))
    rw [Nat.zero_add, idx_oA s.nd hk]
    have ei : ix ps (oA o k) = i := ei
    unfold halfAt
    rw [← ei]
    by_cases c : k % 2 = 0
    · have e : k = 2 * (k / 2) := by omega
      have r := sf.evenR hx an a0 s.a_pos (k / 2) (by omega)
      have l := sf.evenL hx an a0 s.a_pos (k / 2) (by omega)
      rw [← e] at r l
      rw [if_neg r, if_pos l, c]; rfl
    · have e : k = 2 * (k / 2) + 1 := by omega
      have r := sf.oddR hx an a0 s.a_pos (k / 2) (by omega)
      rw [← e] at r
      have c1 : k % 2 = 1 := by omega
      rw [if_pos r, c1]; rfl
/-! dues -/
structure DueD (o : List Int) (es : List (Int × Int)) (ds : List (Int × Int × Int)) (d : Nat → Int) : Prop where
  rise : ds.Pairwise fun a b => lt2 (a.1, a.2.1) (b.1, b.2.1)
  each : ∀ e ∈ ds, 1 ≤ e.2.2 ∧ (e.1, e.2.1) ∈ es
  len : ds.length ≤ es.length
  paid : ∀ j, j < o.length → paidOf ds (oA o j) = bef d j + d j
  sum : dueSum ds = sumR d o.length
  pos : ∀ k, k + 1 < o.length → (tieA o k ∈ ds.map pr2 ↔ 0 < d k)
theorem dueL_sub (g : Nat → Int) : ∀ (es : List (Int × Int)) (k : Nat), (((es.zipIdx k).filterMap fun x => if 0 < g x.2 then some (x.1.1, x.1.2, g x.2) else none).map pr2).Sublist es
  | [], k => List.Sublist.slnil
  | e :: es, k => by
    rw [List.zipIdx_cons, List.filterMap_cons]
    by_cases c : 0 < g k
    · rw [if_pos c]
      exact List.Sublist.cons_cons e (dueL_sub g es (k + 1))
    · rw [if_neg c]
      exact List.Sublist.cons e (dueL_sub g es (k + 1))
theorem dueL_mem {g : Nat → Int} {es : List (Int × Int)} {d : Int × Int × Int} : d ∈ dueL es g ↔ ∃ t e, es[t]? = some e ∧ 0 < g t ∧ d = (e.1, e.2, g t) := by
  unfold dueL
  rw [List.mem_filterMap]
  constructor
  · rintro ⟨⟨e, t⟩, m, q⟩
    have m := List.mk_mem_zipIdx_iff_getElem?.mp m
    by_cases c : 0 < g t
    · rw [if_pos c] at q
      exact ⟨t, e, m, c, (Option.some.inj q).symm⟩
    · rw [if_neg c] at q
      cases q
  · rintro ⟨t, e, m, c, q⟩
    exact ⟨(e, t), List.mk_mem_zipIdx_iff_getElem?.mpr m, by rw [if_pos c, q]⟩
theorem paid_app (a b : List (Int × Int × Int)) (v : Int) : paidOf (a ++ b) v = paidOf a v + paidOf b v := by
  unfold paidOf
  rw [List.map_append, sum_app]
theorem dueSum_app (a b : List (Int × Int × Int)) : dueSum (a ++ b) = dueSum a + dueSum b := by
  unfold dueSum
  rw [List.map_append, sum_app]
theorem paid_dueL {g : Nat → Int} (ng : ∀ t, 0 ≤ g t) (v : Int) : ∀ i, i ≤ es.length → paidOf (dueL (es.take i) g) v = sumR (fun t => (if (es.getD t (0, 0)).1 = v then g t else 0) + (if (es.getD t (0, 0)).2 = v then g t else 0)) i
  | 0, _ => rfl
  | i + 1, hi => by
    have e : es[i]? = some es[i] := List.getElem?_eq_getElem (by omega)
    rw [dueL_snoc e, paid_app, paid_dueL ng v i (by omega)]
    show _ = sumR _ i + ((if (es.getD i (0, 0)).1 = v then g i else 0) + (if (es.getD i (0, 0)).2 = v then g i else 0))
    rw [getD_at e]
    congr 1
    have n := ng i
    by_cases c : 0 < g i
    · rw [if_pos c]
      unfold paidOf
      rw [List.map_cons, List.sum_cons]
      exact Int.add_zero _
    · have z : g i = 0 := by omega
      rw [if_neg c, z]
      show (0 : Int) = _
      split <;> split <;> rfl
theorem sum_dueL {g : Nat → Int} (ng : ∀ t, 0 ≤ g t) : ∀ i, i ≤ es.length → dueSum (dueL (es.take i) g) = sumR g i
  | 0, _ => rfl
  | i + 1, hi => by
    have e : es[i]? = some es[i] := List.getElem?_eq_getElem (by omega)
    rw [dueL_snoc e, dueSum_app, sum_dueL ng i (by omega)]
    show _ = sumR _ i + g i
    congr 1
    have n := ng i
    by_cases c : 0 < g i
    · rw [if_pos c]
      show g i + 0 = g i
      omega
    · rw [if_neg c]
      show (0 : Int) = g i
      omega
theorem StrWeb.sum_ties (h : StrWeb o am x ps es) (g : Nat → Int) : sumR g es.length = sumR (alongA o es g g) o.length := by
  have l := h.s.lam
  have e1 : sumR g es.length = (es.map fun e => g (es.idxOf e)).sum := by
    rw [sum_list (0, 0)]
    exact sumR_congr fun t ht => by rw [idx_at h.ndE ht]
  rw [e1, perm_sum (h.eP.map _), List.map_map, sum_range, ← l]
  show _ = sumR _ am.length + alongA o es g g am.length
  rw [alongA_z g g (by omega), Int.add_zero]
  refine sumR_congr fun k hk => ?_
  show g (es.idxOf (tieA o k)) = _
  unfold alongA
  rw [if_pos (by omega)]
  split <;> rfl
theorem StrWeb.dueL (h : StrWeb o am x ps es) {g : Nat → Int} (ng : ∀ t, 0 ≤ g t) : DueD o es (K33.dueL es g) (alongA o es g g) := by
  have sub := dueL_sub g es 0
  have tk : es.take es.length = es := List.take_of_length_le (Nat.le_refl _)
  refine ⟨?_, fun e he => ?_, ?_, fun j hj => ?_, ?_, fun k hk => ?_⟩
  · have := List.Pairwise.sublist sub h.eR
    rw [List.pairwise_map] at this
    exact this
  · obtain ⟨t, e', he', hg, rfl⟩ := dueL_mem.mp he
    exact ⟨hg, List.mem_of_getElem? he'⟩
  · have := sub.length_le
    rw [List.length_map] at this
    exact this
  · have := paid_dueL (es := es) ng (oA o j) es.length (Nat.le_refl _)
    rw [tk] at this
    rw [this, h.touch g g hj]
    omega
  · have := sum_dueL (es := es) ng es.length (Nat.le_refl _)
    rw [tk] at this
    rw [this, h.sum_ties]
  · have ea : alongA o es g g k = g (es.idxOf (tieA o k)) := by
      unfold alongA
      rw [if_pos hk]
      split <;> rfl
    rw [ea]
    constructor
    · intro m
      obtain ⟨d, hd, e⟩ := List.mem_map.mp m
      obtain ⟨t, e', he', hg, rfl⟩ := dueL_mem.mp hd
      have e : e' = tieA o k := e
      have ht := (List.getElem?_eq_some_iff.mp he').1
      have : es.idxOf e' = t := by
        have q := idx_at h.ndE ht
        rwa [getD_at he'] at q
      rw [← e, this]
      exact hg
    · intro hg
      exact List.mem_map.mpr ⟨_, dueL_mem.mpr ⟨_, _, h.es_at hk, hg, rfl⟩, rfl⟩
theorem StrWeb.law_sd (s : Strg o am x) : SD o.length (aA am) x (aA am) :=
  ⟨fun k => (s.a_all k).1, fun k hk => s.aZ hk, fun k hk => by
    have := s.x
    unfold cap
    split <;> omega, fun k hk ho => by
    unfold cap
    rw [if_neg (by omega)]
    omega⟩
/-- the dues of the string itself -/
def tieD (o am : List Int) (k : Nat) : Int × Int × Int := ((tieA o k).1, (tieA o k).2, aA am k)
theorem StrWeb.law_due (h : StrWeb o am x ps es) {ds : List (Int × Int × Int)} (p : ds.Perm ((List.range am.length).map (tieD o am))) (r : ds.Pairwise fun a b => lt2 (a.1, a.2.1) (b.1, b.2.1)) : DueD o es ds (aA am) := by
  have l := h.s.lam
  refine ⟨r, fun e he => ?_, ?_, fun j hj => ?_, ?_, fun k hk => ?_⟩
  · obtain ⟨k, hk, rfl⟩ := List.mem_map.mp (p.mem_iff.mp he)
    have hk := List.mem_range.mp hk
    have a := h.s.aIn (k := k) (by omega)
    exact ⟨by show 1 ≤ aA am k; omega, (h.tie _).mpr ⟨k, by omega, rfl⟩⟩
  · have := p.length_eq
    rw [List.length_map, List.length_range] at this
    rw [this, h.lenE]
    exact Nat.le_refl _
  · unfold paidOf
    rw [perm_sum (p.map _), List.map_map, sum_range]
    have e2 : sumR ((fun d : Int × Int × Int => (if d.1 = oA o j then d.2.2 else 0) + (if d.2.1 = oA o j then d.2.2 else 0)) ∘ tieD o am) am.length = sumR (fun k => (if k = j then aA am k else 0) + (if k + 1 = j then aA am k else 0)) am.length := by
      refine sumR_congr fun k hk => ?_
      show (if (tieA o k).1 = oA o j then aA am k else 0) + (if (tieA o k).2 = oA o j then aA am k else 0) = _
      have k1 : k + 1 < o.length := by omega
      have i1 : (oA o k = oA o j) = (k = j) := propext ⟨oA_inj h.s.nd (by omega) hj, fun e => by rw [e]⟩
      have i2 : (oA o (k + 1) = oA o j) = (k + 1 = j) := propext ⟨oA_inj h.s.nd k1 hj, fun e => by rw [e]⟩
      rcases tieA_or h.s.nd k1 with ⟨a, b⟩ | ⟨a, b⟩
      · rw [b]; simp only [i1, i2]
      · rw [b]; simp only [i1, i2]; omega
    rw [e2, sum_pick]
    have zz : ¬ j < am.length → aA am j = 0 := fun c => h.s.aZ (by omega)
    cases j with
    | zero =>
      have z : ¬ (0 < 0 ∧ 0 ≤ am.length) := by omega
      rw [bef_zero, if_neg z]
      by_cases c : 0 < am.length
      · rw [if_pos c]; omega
      · rw [if_neg c, zz c]
    | succ j =>
      rw [bef_succ, if_pos (by omega : 0 < j + 1 ∧ j + 1 ≤ am.length)]
      by_cases c : j + 1 < am.length
      · rw [if_pos c]; exact Int.add_comm _ _
      · rw [if_neg c, zz c]; exact Int.add_comm _ _
  · unfold dueSum
    rw [perm_sum (p.map _), List.map_map, sum_range, ← l]
    show _ = sumR _ am.length + aA am am.length
    rw [h.s.aZ (Nat.le_of_eq l.symm), Int.add_zero]
    exact sumR_congr fun k hk => rfl
  · have a := h.s.aIn hk
    constructor
    · intro _; omega
    · intro _
      exact List.mem_map.mpr ⟨tieD o am k, p.mem_iff.mpr (List.mem_map.mpr ⟨k, List.mem_range.mpr (by omega), rfl⟩), rfl⟩
theorem DueD.ok (h : StrWeb o am x ps es) {ds : List (Int × Int × Int)} {d : Nat → Int} (dd : DueD o es ds d) (sd : SD o.length (aA am) x d) : DuesOk ps es ds := by
  refine ⟨dd.len, dd.each, dd.rise, fun v hv => ?_⟩
  obtain ⟨k, hk, rfl⟩ := mem_oA ((h.keys v).mp hv)
  rw [dd.paid k hk, h.hv2 hk]
  exact sd.le k hk
theorem odd_sum (d : Nat → Int) : ∀ n, sumR (fun k => if k % 2 = 1 then bef d k + d k else 0) n = sumR d n - (if n % 2 = 1 then bef d n else 0)
  | 0 => rfl
  | n + 1 => by
    show sumR _ n + (if n % 2 = 1 then bef d n + d n else 0) = sumR d n + d n - _
    rw [odd_sum d n, bef_succ]
    by_cases c : n % 2 = 1
    · rw [if_pos c, if_pos c, if_neg (by omega)]; omega
    · rw [if_neg c, if_neg c, if_pos (by omega)]; omega
theorem StrWeb.cost (h : StrWeb o am x ps es) : costOf ps (halS o ps) = sumR (fun k => if k % 2 = 1 then cap (aA am) x k else 0) o.length := by
  unfold costOf halS
  rw [List.map_map, perm_sum (h.pP.map _), List.map_map, sum_range]
  refine sumR_congr fun k hk => ?_
  show K33.hv ps (oA o k) * (2 * ((o.idxOf (oA o k) % 2 : Nat) : Int)) = _
  rw [idx_oA h.s.nd hk]
  have := h.hv2 hk
  by_cases c : k % 2 = 1
  · rw [if_pos c, c]
    show _ * (2 * 1) = _
    omega
  · have c0 : k % 2 = 0 := by omega
    rw [if_neg c, c0]
    show _ * (2 * 0) = _
    omega
theorem DueD.cost (h : StrWeb o am x ps es) {ds : List (Int × Int × Int)} {d : Nat → Int} (dd : DueD o es ds d) (sd : SD o.length (aA am) x d) : dueSum ds = costOf ps (halS o ps) := by
  rw [h.cost, dd.sum]
  have q := odd_sum d o.length
  have e : sumR (fun k => if k % 2 = 1 then bef d k + d k else 0) o.length = sumR (fun k => if k % 2 = 1 then cap (aA am) x k else 0) o.length := sumR_congr fun k hk => by
    by_cases c : k % 2 = 1
    · rw [if_pos c, if_pos c, sd.odd k hk c]
    · rw [if_neg c, if_neg c]
  rw [e] at q
  have z : bef d o.length = 0 := by
    have p := h.s.pos
    have e : o.length = (o.length - 1) + 1 := by omega
    rw [e, bef_succ]
    exact sd.z _ (by omega)
  rw [z] at q
  have q2 : sumR d o.length - (if o.length % 2 = 1 then (0 : Int) else 0) = sumR d o.length := by split <;> omega
  omega
theorem StrWeb.shape (h : StrWeb o am x ps es) : Shape ps (halS o ps) := by
  refine ⟨by unfold halS; rw [List.map_map]; rfl, fun e he => ?_⟩
  obtain ⟨p, _, rfl⟩ := List.mem_map.mp he
  dsimp only
  omega
theorem StrWeb.hvS (h : StrWeb o am x ps es) {k : Nat} (hk : k < o.length) : K33.hv (halS o ps) (oA o k) = 2 * ((k % 2 : Nat) : Int) := by
  have m : (oA o k, 2 * ((o.idxOf (oA o k) % 2 : Nat) : Int)) ∈ halS o ps := List.mem_map.mpr ⟨_, (h.mem _).mpr ⟨k, hk, rfl⟩, rfl⟩
  rw [hv_mem (p := (oA o k, 2 * ((o.idxOf (oA o k) % 2 : Nat) : Int))) (by rw [h.shape.keys]; exact h.nd) m, idx_oA h.s.nd hk]
theorem StrWeb.cover (h : StrWeb o am x ps es) : Cover es (halS o ps) := by
  intro e he
  obtain ⟨k, hk, rfl⟩ := (h.tie e).mp he
  have a := h.hvS (k := k) (by omega)
  have b := h.hvS hk
  rcases tieA_or h.s.nd hk with ⟨_, c⟩ | ⟨_, c⟩ <;> rw [c] <;> dsimp only <;> omega
/-- what is told over a string -/
theorem StrWeb.told (h : StrWeb o am x ps es) {hs : List (Int × Int)} {ds : List (Int × Int × Int)} (t : Told ps es hs ds) : hs = halS o ps ∧ ∃ d, SD o.length (aA am) x d ∧ DueD o es ds d := by
  obtain ⟨rm, ws, l, fil, met, no, rfl, rfl⟩ := t
  have ok := h.ok
  have fl := flow_fl h.nd (fun p hp => (ok.p.each p hp).2.2) (fun e he => ⟨(ok.t.each e he).2.1, (ok.t.each e he).2.2, by have := (ok.t.each e he).1; omega⟩) l fil met no
  have sf := h.sf fl
  have s := h.s
  have hx : 0 < x := by have := s.x; omega
  refine ⟨h.halves fl, _, ?_, h.dueL (g := dueAt ps.length rm) fun t => ?_⟩
  · have e : ∀ k, alongA o es (dueAt ps.length rm) (dueAt ps.length rm) k = alongA o es (fun t => rg rm (4 * ps.length + 4 * t + 1)) (fun t => rg rm (4 * ps.length + 4 * t + 3)) k + alongA o es (fun t => rg rm (4 * ps.length + 4 * t + 3)) (fun t => rg rm (4 * ps.length + 4 * t + 1)) k := by
      intro k
      unfold alongA
      by_cases c : k + 1 < o.length
      · rw [if_pos c, if_pos c, if_pos c]
        unfold dueAt
        dsimp only
        split <;> omega
      · rw [if_neg c, if_neg c, if_neg c]; rfl
    have eb : ∀ k, bef (alongA o es (dueAt ps.length rm) (dueAt ps.length rm)) k = bef (alongA o es (fun t => rg rm (4 * ps.length + 4 * t + 1)) (fun t => rg rm (4 * ps.length + 4 * t + 3))) k + bef (alongA o es (fun t => rg rm (4 * ps.length + 4 * t + 3)) (fun t => rg rm (4 * ps.length + 4 * t + 1))) k := by
      intro k
      cases k with
      | zero => rfl
      | succ k => exact e k
    refine ⟨fun k => ?_, fun k hk => alongA_z _ _ hk, fun k hk => ?_, fun k hk ho => ?_⟩
    · have a := sf.nF k
      have b := sf.nG k
      rw [e]; omega
    · rw [e, eb]
      exact sf.paid_le hk
    · rw [e, eb]
      exact sf.paid_odd hx (fun k hk => s.aZ hk) (fun k => (s.a_all k).1) s.a_pos hk ho
  · have a := fl.nnF t
    have b := fl.nnG t
    unfold dueAt
    omega
end
end K33
set_option linter.all false
set_option maxRecDepth 100000
set_option maxHeartbeats 4000000
/-! MH: chains over a string. -/
namespace K33
/-- the chain of a string -/
def lkA (o : List Int) (k : Nat) : Lk := if k = 0 then .loose (oA o 0) else if k % 2 = 1 then .beside (oA o (k - 1)) (oA o k) else .tight (oA o (k - 1)) (oA o k)
def chA (o : List Int) : List Lk := (List.range o.length).map (lkA o)
theorem lkA_last (o : List Int) (k : Nat) : (lkA o k).last = oA o k := by
  unfold lkA
  split
  · rename_i h; subst h; rfl
  · split <;> rfl
theorem lkA_isB (o : List Int) (k : Nat) : (lkA o k).isB = decide (k % 2 = 1) := by
  unfold lkA
  split
  · rename_i h; subst h; rfl
  · split
    · rename_i h; exact (decide_eq_true h).symm
    · rename_i h; exact (decide_eq_false h).symm
theorem chA_ins (o : List Int) (m : Nat) (v : Int) : v ∈ insAll ((List.range m).map (lkA o)) ↔ ∃ k, k < m ∧ k % 2 = 1 ∧ v = oA o k := by
  rw [insAll_mem]
  constructor
  · rintro ⟨c, hc, b, e⟩
    obtain ⟨k, hk, rfl⟩ := List.mem_map.mp hc
    rw [lkA_isB] at b
    rw [lkA_last] at e
    exact ⟨k, List.mem_range.mp hk, of_decide_eq_true b, e.symm⟩
  · rintro ⟨k, hk, ho, e⟩
    exact ⟨lkA o k, List.mem_map.mpr ⟨k, List.mem_range.mpr hk, rfl⟩, by rw [lkA_isB]; exact decide_eq_true ho, by rw [lkA_last]; exact e.symm⟩
theorem chA_outs (o : List Int) (m : Nat) (v : Int) : v ∈ outsAll ((List.range m).map (lkA o)) ↔ ∃ k, k < m ∧ k % 2 = 0 ∧ v = oA o k := by
  rw [outsAll_mem]
  constructor
  · rintro ⟨c, hc, b, e⟩
    obtain ⟨k, hk, rfl⟩ := List.mem_map.mp hc
    rw [lkA_isB] at b
    rw [lkA_last] at e
    exact ⟨k, List.mem_range.mp hk, by have := of_decide_eq_false b; omega, e.symm⟩
  · rintro ⟨k, hk, ho, e⟩
    exact ⟨lkA o k, List.mem_map.mpr ⟨k, List.mem_range.mpr hk, rfl⟩, by rw [lkA_isB]; exact decide_eq_false (by omega), by rw [lkA_last]; exact e.symm⟩
theorem mn_comm (a b : Int) : mn a b = mn b a := by unfold mn; split <;> split <;> omega
theorem mx_comm (a b : Int) : mx a b = mx b a := by unfold mx; split <;> split <;> omega
theorem okL_mono {ps es es' : List (Int × Int)} {ds : List (Int × Int × Int)} {I I' O O' : List Int} (he : ∀ e ∈ es, e ∈ es') (hI : ∀ v ∈ I, v ∈ I') (hO : ∀ v ∈ O, v ∈ O') {c : Lk} (h : okL ps es ds I O c) : okL ps es' ds I' O' c := by
  cases c with
  | loose v => exact h
  | beside u v => exact ⟨hO _ h.1, h.2.elim (fun m => .inl (he _ m)) (fun m => .inr (he _ m))⟩
  | tight u v => exact ⟨hI _ h.1, h.2⟩
theorem runOk_mono {ps es es' : List (Int × Int)} {ds : List (Int × Int × Int)} (he : ∀ e ∈ es, e ∈ es') : ∀ {cs : List Lk} {I I' O O' : List Int}, (∀ v ∈ I, v ∈ I') → (∀ v ∈ O, v ∈ O') → runOk ps es ds I O cs → runOk ps es' ds I' O' cs
  | [], _, _, _, _, _, _, _ => trivial
  | c :: cs, I, I', O, O', hI, hO, h => by
    refine ⟨okL_mono he hI hO h.1, runOk_mono he (cs := cs) (fun v hv => ?_) (fun v hv => ?_) h.2⟩
    · cases c with
      | beside u w => exact (insS_mem _ _ _).mpr (((insS_mem _ _ _).mp hv).imp id (hI v))
      | loose w => exact hI v hv
      | tight u w => exact hI v hv
    · cases c with
      | beside u w => exact hO v hv
      | loose w => exact (insS_mem _ _ _).mpr (((insS_mem _ _ _).mp hv).imp id (hO v))
      | tight u w => exact (insS_mem _ _ _).mpr (((insS_mem _ _ _).mp hv).imp id (hO v))
theorem runOk_two {ps es : List (Int × Int)} {ds : List (Int × Int × Int)} {cs bs : List Lk} (a : runOk ps es ds [] [] cs) (b : runOk ps es ds [] [] bs) : runOk ps es ds [] [] (cs ++ bs) :=
  runOk_app.mpr ⟨a, runOk_mono (fun _ h => h) (fun v hv => by cases hv) (fun v hv => by cases hv) b⟩
section
variable {o am : List Int} {x : Int} {ps es : List (Int × Int)} {ds : List (Int × Int × Int)}
theorem StrWeb.tied (h : StrWeb o am x ps es) {k : Nat} (hk : k + 1 < o.length) : Tied es (oA o k) (oA o (k + 1)) ∧ Tied es (oA o (k + 1)) (oA o k) := by
  have m := (h.tie _).mpr ⟨k, hk, rfl⟩
  rcases tieA_or h.s.nd hk with ⟨_, e⟩ | ⟨_, e⟩ <;> rw [e] at m
  · exact ⟨.inl m, .inr m⟩
  · exact ⟨.inr m, .inl m⟩
theorem StrWeb.tied_of (h : StrWeb o am x ps es) {j : Nat} (hj : j < o.length) {v : Int} (t : Tied es (oA o j) v) : ∃ k, k < o.length ∧ v = oA o k ∧ (k = j + 1 ∨ j = k + 1) := by
  have nd := h.s.nd
  rcases t with m | m
  all_goals
    obtain ⟨k, hk, e⟩ := (h.tie _).mp m
    rcases tieA_or nd hk with ⟨_, q⟩ | ⟨_, q⟩ <;> rw [q] at e <;> injection e with e1 e2
  · have := oA_inj nd hj (by omega) e1
    exact ⟨k + 1, hk, e2, .inl (by omega)⟩
  · have := oA_inj nd hj hk e1
    exact ⟨k, by omega, e2, .inr (by omega)⟩
  · have := oA_inj nd hj hk e2
    exact ⟨k, by omega, e1, .inr (by omega)⟩
  · have := oA_inj nd hj (by omega) e2
    exact ⟨k + 1, hk, e1, .inl (by omega)⟩
/-- the chain of the string holds -/
theorem StrWeb.run (h : StrWeb o am x ps es) (dd : DueD o es ds (aA am)) : ∀ m, m ≤ o.length → runOk ps es ds [] [] ((List.range m).map (lkA o))
  | 0, _ => trivial
  | m + 1, hm => by
    rw [List.range_succ, List.map_append]
    refine runOk_snoc.mpr ⟨h.run dd m (by omega), ?_⟩
    unfold lkA
    by_cases c : m = 0
    · subst c
      rw [if_pos rfl]
      show paidOf ds (oA o 0) < 2 * K33.hv ps (oA o 0)
      rw [dd.paid 0 (by omega), h.hv2 (by omega)]
      unfold cap
      rw [if_pos rfl]
      have := h.s.x
      omega
    · have e : m = (m - 1) + 1 := by omega
      have t := h.tied (k := m - 1) (by omega)
      rw [← e] at t
      rw [if_neg c]
      by_cases p : m % 2 = 1
      · rw [if_pos p]
        exact ⟨(chA_outs o m _).mpr ⟨m - 1, by omega, by omega, rfl⟩, t.1⟩
      · rw [if_neg p]
        refine ⟨(chA_ins o m _).mpr ⟨m - 1, by omega, by omega, rfl⟩, ?_⟩
        have := (dd.pos (m - 1) (by omega)).mpr (h.s.a_pos _ (by omega))
        unfold tieA at this
        rwa [← e] at this
theorem chA_take (o : List Int) {m : Nat} (hm : m ≤ o.length) : (chA o).take m = (List.range m).map (lkA o) := by
  unfold chA
  rw [← List.map_take, List.take_range, Nat.min_eq_left hm]
theorem chA_len (o : List Int) : (chA o).length = o.length := by unfold chA; rw [List.length_map, List.length_range]
theorem chA_at (o : List Int) {k : Nat} (hk : k < o.length) : (chA o)[k]? = some (lkA o k) := by
  unfold chA
  rw [List.getElem?_map, List.getElem?_range hk]; rfl
theorem StrWeb.runC (h : StrWeb o am x ps es) (dd : DueD o es ds (aA am)) : runOk ps es ds [] [] (chA o) := h.run dd o.length (Nat.le_refl _)
/-- without one thing it holds where that one is the last -/
theorem StrWeb.without (h : StrWeb o am x ps es) (dd : DueD o es ds (aA am)) {i : Nat} (hi : i < o.length) : runOk ps es ds [] [] ((chA o).take i ++ (chA o).drop (i + 1)) ↔ i + 1 = o.length := by
  rw [chA_take o (by omega)]
  constructor
  · intro r
    by_cases c : i + 1 < o.length
    · exfalso
      have dr : (chA o).drop (i + 1) = lkA o (i + 1) :: (chA o).drop (i + 2) := by
        rw [List.drop_eq_getElem_cons (by rw [chA_len]; exact c)]
        have q := chA_at o c
        rw [List.getElem?_eq_getElem (by rw [chA_len]; exact c)] at q
        rw [Option.some.inj q]
      rw [dr, runOk_app] at r
      have ok := r.2.1
      unfold lkA at ok
      rw [if_neg (by omega)] at ok
      by_cases p : (i + 1) % 2 = 1
      · rw [if_pos p] at ok
        obtain ⟨k, hk, _, e⟩ := (chA_outs o i _).mp ok.1
        have := oA_inj h.s.nd (by omega) (by omega) e
        omega
      · rw [if_neg p] at ok
        obtain ⟨k, hk, _, e⟩ := (chA_ins o i _).mp ok.1
        have := oA_inj h.s.nd (by omega) (by omega) e
        omega
    · omega
  · intro e
    rw [List.drop_eq_nil_of_le (by rw [chA_len]; omega), List.append_nil]
    exact h.run dd i (by omega)
theorem StrWeb.no_loose (h : StrWeb o am x ps es) (dd : DueD o es ds (aA am)) {j : Nat} (h0 : 0 < j) (hj : j < o.length) {I O : List Int} : ¬ okL ps es ds I O (.loose (oA o j)) := by
  intro ok
  have ok : paidOf ds (oA o j) < 2 * K33.hv ps (oA o j) := ok
  rw [dd.paid j hj, h.hv2 hj] at ok
  unfold cap at ok
  rw [if_neg (by omega)] at ok
  omega
theorem chA_at_mem (o : List Int) : ∀ c ∈ chA o, ∀ p ∈ c.at, p ∈ o := by
  intro c hc p hp
  obtain ⟨k, hk, rfl⟩ := List.mem_map.mp hc
  have hk := List.mem_range.mp hk
  unfold lkA at hp
  split at hp
  · have : p = oA o 0 := by simpa [Lk.at] using hp
    rw [this]; exact oA_mem (by omega)
  · have q : p = oA o (k - 1) ∨ p = oA o k := by
      split at hp <;> simpa [Lk.at] using hp
    rcases q with e | e <;> rw [e] <;> exact oA_mem (by omega)
/-! who is in, who is out -/
def Ev (o : List Int) (v : Int) : Prop := ∃ k, k < o.length ∧ k % 2 = 0 ∧ v = oA o k
def Od (o : List Int) (v : Int) : Prop := ∃ k, k < o.length ∧ k % 2 = 1 ∧ v = oA o k
theorem StrWeb.sound (h : StrWeb o am x ps es) {d : Nat → Int} (dd : DueD o es ds d) (sd : SD o.length (aA am) x d) : ∀ (cs : List Lk) (I O : List Int), runOk ps es ds I O cs → (∀ v ∈ I, Od o v) → (∀ v ∈ O, Ev o v) → (∀ c ∈ cs, ∀ p ∈ c.at, p ∈ ps.map (·.1)) → ∀ c ∈ cs, (c.isB = true → Od o c.last) ∧ (c.isB = false → Ev o c.last)
  | [], _, _, _, _, _, _ => fun c hc => by cases hc
  | c :: cs, I, O, r, hI, hO, hat => by
    have one : (c.isB = true → Od o c.last) ∧ (c.isB = false → Ev o c.last) := by
      have ok := r.1
      cases c with
      | loose v =>
        refine ⟨fun z => Bool.noConfusion z, fun _ => ?_⟩
        obtain ⟨k, hk, e⟩ := mem_oA ((h.keys v).mp (hat (.loose v) (by simp) v (by simp [Lk.at])))
        have ok : paidOf ds v < 2 * K33.hv ps v := ok
        rw [e, dd.paid k hk, h.hv2 hk] at ok
        by_cases p : k % 2 = 1
        · have := sd.odd k hk p
          omega
        · exact ⟨k, hk, by omega, e⟩
      | beside u v =>
        refine ⟨fun _ => ?_, fun z => Bool.noConfusion z⟩
        obtain ⟨j, hj, hp, rfl⟩ := hO u ok.1
        obtain ⟨k, hk, e, q⟩ := h.tied_of hj ok.2
        exact ⟨k, hk, by omega, e⟩
      | tight u v =>
        refine ⟨fun z => Bool.noConfusion z, fun _ => ?_⟩
        obtain ⟨j, hj, hp, rfl⟩ := hI u ok.1
        obtain ⟨e, he, q⟩ := List.mem_map.mp ok.2
        have m := (dd.each e he).2
        have q : (e.1, e.2.1) = (mn (oA o j) v, mx (oA o j) v) := q
        rw [q] at m
        have t : Tied es (oA o j) v := by
          unfold mn mx at m
          by_cases c : oA o j < v
          · rw [if_neg (by omega), if_pos (by omega)] at m
            exact .inl m
          · by_cases c2 : v < oA o j
            · rw [if_pos c2, if_neg (by omega)] at m
              exact .inr m
            · rw [if_neg c2, if_neg (by omega)] at m
              have : v = oA o j := by omega
              rw [this]
              exact .inl m
        obtain ⟨k, hk, e, q⟩ := h.tied_of hj t
        exact ⟨k, hk, by omega, e⟩
    have I' : ∀ v ∈ insOf I c, Od o v := fun v hv => by
      cases c with
      | beside u w => exact ((insS_mem _ _ _).mp hv).elim (fun e => by rw [e]; exact one.1 rfl) (hI v)
      | loose w => exact hI v hv
      | tight u w => exact hI v hv
    have O' : ∀ v ∈ outsOf O c, Ev o v := fun v hv => by
      cases c with
      | beside u w => exact hO v hv
      | loose w => exact ((insS_mem _ _ _).mp hv).elim (fun e => by rw [e]; exact one.2 rfl) (hO v)
      | tight u w => exact ((insS_mem _ _ _).mp hv).elim (fun e => by rw [e]; exact one.2 rfl) (hO v)
    intro c2 hc2
    rcases List.mem_cons.mp hc2 with e | e
    · rw [e]; exact one
    · exact h.sound dd sd cs _ _ r.2 I' O' (fun c hc => hat c (by simp [hc])) c2 e
theorem StrWeb.whole (h : StrWeb o am x ps es) {d : Nat → Int} (dd : DueD o es ds d) (sd : SD o.length (aA am) x d) {cs : List Lk} (w : Whole ps es ds cs) : (∀ v, v ∈ bsOf cs ↔ Od o v) ∧ ∀ v, v ∈ osOf cs ↔ Ev o v := by
  have s := h.s
  have snd := h.sound dd sd cs [] [] w.run (fun v hv => by cases hv) (fun v hv => by cases hv) w.at_
  have tieD : ∀ k, k + 1 < o.length → (mn (oA o k) (oA o (k + 1)), mx (oA o k) (oA o (k + 1))) = tieA o k := fun k _ => rfl
  have all := sd.all (by have := s.x; omega) (fun k hk => s.aZ hk) (fun k => (s.a_all k).1) s.a_pos (fun k => oA o k ∈ outsAll cs) (fun k => oA o k ∈ insAll cs)
    (fun k hk hl => w.lo _ ((h.keys _).mpr (oA_mem hk)) (by rw [dd.paid k hk, h.hv2 hk]; exact hl))
    (fun k hk ho => w.out _ ho _ (h.tied hk).1) (fun k hk ho => w.out _ ho _ (h.tied hk).2)
    (fun k hk hi hd => w.ins _ hi _ (h.tied hk).1 ((dd.pos k hk).mpr hd))
    (fun k hk hi hd => w.ins _ hi _ (h.tied hk).2 (by rw [mn_comm, mx_comm]; exact (dd.pos k hk).mpr hd))
  refine ⟨fun v => ?_, fun v => ?_⟩
  · rw [bsOf_mem, insAll_mem]
    constructor
    · rintro ⟨c, hc, b, e⟩
      rw [← e]
      exact (snd c hc).1 b
    · rintro ⟨k, hk, ho, rfl⟩
      have q := all.2 (k / 2) (by omega)
      have e : 2 * (k / 2) + 1 = k := by omega
      rw [e] at q
      exact (insAll_mem _ _).mp q
  · rw [osOf_mem, outsAll_mem]
    constructor
    · rintro ⟨c, hc, b, e⟩
      rw [← e]
      exact (snd c hc).2 b
    · rintro ⟨k, hk, ho, rfl⟩
      have q := all.1 (k / 2) (by omega)
      have e : 2 * (k / 2) = k := by omega
      rw [e] at q
      exact (outsAll_mem _ _).mp q
theorem chA_bs (o : List Int) (v : Int) : v ∈ bsOf (chA o) ↔ Od o v := by
  rw [bsOf_mem]
  exact chA_ins o o.length v
theorem chA_os (o : List Int) (v : Int) : v ∈ osOf (chA o) ↔ Ev o v := by
  rw [osOf_mem]
  exact chA_outs o o.length v
/-- two lists that rise and have the same members -/
theorem rise_ext : ∀ {l m : List Int}, l.Pairwise (· < ·) → m.Pairwise (· < ·) → (∀ v, v ∈ l ↔ v ∈ m) → l = m
  | [], [], _, _, _ => rfl
  | [], y :: m, _, _, h => absurd ((h y).mpr (by simp)) (by simp)
  | x :: l, [], _, _, h => absurd ((h x).mp (by simp)) (by simp)
  | x :: l, y :: m, hl, hm, h => by
    obtain ⟨a, b⟩ := List.pairwise_cons.mp hl
    obtain ⟨c, d⟩ := List.pairwise_cons.mp hm
    have e : x = y := by
      rcases List.mem_cons.mp ((h x).mp (by simp)) with e | e
      · exact e
      · rcases List.mem_cons.mp ((h y).mpr (by simp)) with f | f
        · exact f.symm
        · have := a y f
          have := c x e
          omega
    subst e
    refine congrArg _ (rise_ext b d fun v => ?_)
    constructor
    · intro hv
      rcases List.mem_cons.mp ((h v).mp (by simp [hv])) with e | e
      · subst e
        have := a v hv
        omega
      · exact e
    · intro hv
      rcases List.mem_cons.mp ((h v).mpr (by simp [hv])) with e | e
      · subst e
        have := c v hv
        omega
      · exact e
/-- the places whose half is q -/
def pick (hs : List (Int × Int)) (q : Int) : List Int := (hs.filter fun h => decide (h.2 = q)).map (·.1)
theorem StrWeb.pick_rise (h : StrWeb o am x ps es) (q : Int) : (pick (halS o ps) q).Pairwise (· < ·) := by
  unfold pick
  rw [List.pairwise_map]
  refine List.Pairwise.sublist List.filter_sublist ?_
  unfold halS
  rw [List.pairwise_map]
  exact h.pR
theorem StrWeb.pick_in (h : StrWeb o am x ps es) (v : Int) : v ∈ pick (halS o ps) 2 ↔ Od o v := by
  unfold pick halS
  rw [List.mem_map]
  constructor
  · rintro ⟨a, ha, e⟩
    obtain ⟨m, q⟩ := List.mem_filter.mp ha
    obtain ⟨p, hp, rfl⟩ := List.mem_map.mp m
    obtain ⟨k, hk, rfl⟩ := (h.mem p).mp hp
    have q : 2 * ((o.idxOf (oA o k) % 2 : Nat) : Int) = 2 := of_decide_eq_true q
    rw [idx_oA h.s.nd hk] at q
    exact ⟨k, hk, by omega, e.symm⟩
  · rintro ⟨k, hk, ho, rfl⟩
    refine ⟨_, List.mem_filter.mpr ⟨List.mem_map.mpr ⟨_, (h.mem _).mpr ⟨k, hk, rfl⟩, rfl⟩, decide_eq_true ?_⟩, rfl⟩
    show 2 * ((o.idxOf (oA o k) % 2 : Nat) : Int) = 2
    rw [idx_oA h.s.nd hk]
    omega
theorem StrWeb.pick_out (h : StrWeb o am x ps es) (v : Int) : v ∈ pick (halS o ps) 0 ↔ Ev o v := by
  unfold pick halS
  rw [List.mem_map]
  constructor
  · rintro ⟨a, ha, e⟩
    obtain ⟨m, q⟩ := List.mem_filter.mp ha
    obtain ⟨p, hp, rfl⟩ := List.mem_map.mp m
    obtain ⟨k, hk, rfl⟩ := (h.mem p).mp hp
    have q : 2 * ((o.idxOf (oA o k) % 2 : Nat) : Int) = 0 := of_decide_eq_true q
    rw [idx_oA h.s.nd hk] at q
    exact ⟨k, hk, by omega, e.symm⟩
  · rintro ⟨k, hk, ho, rfl⟩
    refine ⟨_, List.mem_filter.mpr ⟨List.mem_map.mpr ⟨_, (h.mem _).mpr ⟨k, hk, rfl⟩, rfl⟩, decide_eq_true ?_⟩, rfl⟩
    show 2 * ((o.idxOf (oA o k) % 2 : Nat) : Int) = 0
    rw [idx_oA h.s.nd hk]
    omega
end
end K33
set_option linter.all false
set_option maxRecDepth 100000
set_option maxHeartbeats 4000000
/-! MI: papers that are bent. -/
namespace K33
theorem split_at {α : Type} {l : List α} {i : Nat} {x : α} (h : l[i]? = some x) : l = l.take i ++ x :: l.drop (i + 1) := by
  obtain ⟨hi, e⟩ := List.getElem?_eq_some_iff.mp h
  conv => lhs; rw [← List.take_append_drop i l]
  rw [List.drop_eq_getElem_cons hi, e]
def less (d : Int × Int × Int) : Int × Int × Int := (d.1, d.2.1, d.2.2 - 1)
theorem paid_cons (d : Int × Int × Int) (l : List (Int × Int × Int)) (v : Int) : paidOf (d :: l) v = ((if d.1 = v then d.2.2 else 0) + (if d.2.1 = v then d.2.2 else 0)) + paidOf l v := by
  unfold paidOf
  rw [List.map_cons, List.sum_cons]
theorem dueSum_cons (d : Int × Int × Int) (l : List (Int × Int × Int)) : dueSum (d :: l) = d.2.2 + dueSum l := by
  unfold dueSum
  rw [List.map_cons, List.sum_cons]
section
variable {o am : List Int} {x : Int} {ps es : List (Int × Int)} {ds : List (Int × Int × Int)}
theorem law_two (h : StrWeb o am x ps es) (p : ds.Perm ((List.range am.length).map (tieD o am))) : ∀ d ∈ ds, 2 ≤ d.2.2 := fun d hd => by
  obtain ⟨k, hk, rfl⟩ := List.mem_map.mp (p.mem_iff.mp hd)
  have hk := List.mem_range.mp hk
  have l := h.s.lam
  exact (h.s.aIn (k := k) (by omega)).1
theorem bent_less {i : Nat} {d : Int × Int × Int} (hd : ds[i]? = some d) (ok : DuesOk ps es ds) (two : 2 ≤ d.2.2) : DuesOk ps es (ds.take i ++ [less d] ++ ds.drop (i + 1)) ∧ dueSum (ds.take i ++ [less d] ++ ds.drop (i + 1)) = dueSum ds - 1 := by
  have e := split_at hd
  have e2 : ds.take i ++ [less d] ++ ds.drop (i + 1) = ds.take i ++ less d :: ds.drop (i + 1) := by rw [List.append_assoc]; rfl
  rw [e2]
  have mm : (ds.take i ++ less d :: ds.drop (i + 1)).map pr2 = ds.map pr2 := by
    conv => rhs; rw [e]
    rw [List.map_append, List.map_append]; rfl
  have ll : (ds.take i ++ less d :: ds.drop (i + 1)).length = ds.length := by
    have := congrArg List.length mm
    rwa [List.length_map, List.length_map] at this
  refine ⟨⟨by rw [ll]; exact ok.len, fun c hc => ?_, ?_, fun k hk => ?_⟩, ?_⟩
  · rcases List.mem_append.mp hc with m | m
    · exact ok.each c (List.mem_of_mem_take m)
    · rcases List.mem_cons.mp m with m | m
      · have q := ok.each d (List.mem_of_getElem? hd)
        rw [m]
        exact ⟨by show 1 ≤ d.2.2 - 1; omega, q.2⟩
      · exact ok.each c (List.mem_of_mem_drop m)
  · have r : (ds.map pr2).Pairwise lt2 := by rw [List.pairwise_map]; exact ok.rise
    rw [← mm, List.pairwise_map] at r
    exact r
  · have q := ok.paid k hk
    rw [e, paid_app, paid_cons] at q
    rw [paid_app, paid_cons]
    have z : (if (less d).1 = k then (less d).2.2 else 0) + (if (less d).2.1 = k then (less d).2.2 else 0) ≤ (if d.1 = k then d.2.2 else 0) + (if d.2.1 = k then d.2.2 else 0) := by
      show (if d.1 = k then d.2.2 - 1 else 0) + (if d.2.1 = k then d.2.2 - 1 else 0) ≤ _
      split <;> split <;> omega
    omega
  · conv => rhs; rw [e]
    rw [dueSum_app, dueSum_app, dueSum_cons, dueSum_cons]
    show _ + (d.2.2 - 1 + _) = _
    omega
theorem bent_without {i : Nat} {d : Int × Int × Int} (hd : ds[i]? = some d) (ok : DuesOk ps es ds) : DuesOk ps es (ds.take i ++ ds.drop (i + 1)) ∧ dueSum (ds.take i ++ ds.drop (i + 1)) = dueSum ds - d.2.2 := by
  have e := split_at hd
  have q0 := ok.each d (List.mem_of_getElem? hd)
  have sub : (ds.take i ++ ds.drop (i + 1)).Sublist ds := by
    conv => rhs; rw [e]
    exact List.Sublist.append (List.Sublist.refl _) (List.sublist_cons_self _ _)
  refine ⟨⟨Nat.le_trans sub.length_le ok.len, fun c hc => ok.each c (sub.subset hc), List.Pairwise.sublist sub ok.rise, fun k hk => ?_⟩, ?_⟩
  · have q := ok.paid k hk
    rw [e, paid_app, paid_cons] at q
    rw [paid_app]
    have z : 0 ≤ (if d.1 = k then d.2.2 else 0) + (if d.2.1 = k then d.2.2 else 0) := by split <;> split <;> omega
    omega
  · conv => rhs; rw [e]
    rw [dueSum_app, dueSum_app, dueSum_cons]
    omega
theorem cost_app (ps a b : List (Int × Int)) : costOf ps (a ++ b) = costOf ps a + costOf ps b := by
  unfold costOf
  rw [List.map_append, sum_app]
theorem bent_half (h : StrWeb o am x ps es) {L : List (Int × Int)} {g : Int × Int} (e : halS o ps = L ++ [g]) : Shape ps (L ++ [(g.1, 1)]) ∧ costOf ps (L ++ [(g.1, 1)]) ≠ costOf ps (halS o ps) := by
  have sh := h.shape
  refine ⟨⟨?_, fun c hc => ?_⟩, fun q => ?_⟩
  · rw [← sh.keys, e, List.map_append, List.map_append]; rfl
  · rcases List.mem_append.mp hc with m | m
    · exact sh.each c (by rw [e]; exact List.mem_append.mpr (.inl m))
    · have : c = (g.1, 1) := by simpa using m
      rw [this]
      exact ⟨show (0 : Int) ≤ 1 by decide, show (1 : Int) ≤ 2 by decide⟩
  · rw [e, cost_app, cost_app] at q
    have m : g ∈ halS o ps := by rw [e]; simp
    obtain ⟨p, hp, eg⟩ := List.mem_map.mp m
    obtain ⟨k, hk, rfl⟩ := (h.mem p).mp hp
    rw [idx_oA h.s.nd hk] at eg
    have e1 : costOf ps [(g.1, 1)] = hv ps g.1 * 1 + 0 := rfl
    have e2 : costOf ps [g] = hv ps g.1 * g.2 + 0 := rfl
    have g1 : g.1 = oA o k := by rw [← eg]
    have g2 : g.2 = 2 * ((k % 2 : Nat) : Int) := by rw [← eg]
    have b := (h.s.cap_all hk).2.1
    rw [e1, e2, g1, g2, h.hv hk] at q
    by_cases c : k % 2 = 1
    · rw [c] at q
      have : prA am x k * (2 * ((1 : Nat) : Int)) = 2 * prA am x k := by
        show prA am x k * 2 = _
        omega
      omega
    · have c0 : k % 2 = 0 := by omega
      rw [c0] at q
      have : prA am x k * (2 * ((0 : Nat) : Int)) = 0 := by
        show prA am x k * 0 = 0
        omega
      omega
/-! one tie more -/
def tie13 (o : List Int) : Int × Int := (mn (oA o 1) (oA o 3), mx (oA o 1) (oA o 3))
theorem tie13_not (h : StrWeb o am x ps es) (l4 : 4 ≤ o.length) : tie13 o ∉ es := by
  intro m
  obtain ⟨k, hk, e⟩ := (h.tie _).mp m
  have nd := h.s.nd
  have ne : oA o 1 ≠ oA o 3 := fun e => by have := oA_inj nd (by omega) (by omega) e; omega
  have or13 : tie13 o = (oA o 1, oA o 3) ∨ tie13 o = (oA o 3, oA o 1) := by
    unfold tie13 mn mx
    by_cases c : oA o 1 < oA o 3
    · rw [if_neg (by omega), if_pos (by omega)]; exact .inl rfl
    · rw [if_pos (by omega), if_neg (by omega)]; exact .inr rfl
  rcases tieA_or nd hk with ⟨_, b⟩ | ⟨_, b⟩ <;> rcases or13 with a | a <;> rw [a, b] at e <;> injection e with e1 e2
  all_goals
    have q1 := oA_inj nd (by omega) (by omega) e1
    have q2 := oA_inj nd (by omega) (by omega) e2
    omega
theorem more_web (h : StrWeb o am x ps es) (l4 : 4 ≤ o.length) {es' : List (Int × Int)} (p : es'.Perm (es ++ [tie13 o])) (r : es'.Pairwise lt2) : WebOk ps es' ∧ (∀ e ∈ es, e ∈ es') ∧ Cover es' (halS o ps) := by
  have nd := h.s.nd
  have ne : oA o 1 ≠ oA o 3 := fun e => by have := oA_inj nd (by omega) (by omega) e; omega
  have ok := h.ok
  have l := p.length_eq
  rw [List.length_append, h.lenE] at l
  have l' : es'.length = am.length + 1 := l
  have sl := h.s.lam
  have s40 := h.s.len
  refine ⟨⟨ok.p, ⟨by omega, r, fun e he => ?_⟩⟩, fun e he => p.mem_iff.mpr (List.mem_append.mpr (.inl he)), fun e he => ?_⟩
  · rcases List.mem_append.mp (p.mem_iff.mp he) with m | m
    · exact ok.t.each e m
    · have : e = tie13 o := by simpa using m
      subst this
      have k1 := (h.keys _).mpr (oA_mem (o := o) (k := 1) (by omega))
      have k3 := (h.keys _).mpr (oA_mem (o := o) (k := 3) (by omega))
      unfold tie13 mn mx
      by_cases c : oA o 1 < oA o 3
      · rw [if_neg (by omega), if_pos (by omega)]
        exact ⟨c, k1, k3⟩
      · rw [if_pos (by omega), if_neg (by omega)]
        exact ⟨by show oA o 3 < oA o 1; omega, k3, k1⟩
  · rcases List.mem_append.mp (p.mem_iff.mp he) with m | m
    · exact h.cover e m
    · have : e = tie13 o := by simpa using m
      subst this
      have h1 := h.hvS (k := 1) (by omega)
      have h3 := h.hvS (k := 3) (by omega)
      unfold tie13 mn mx
      by_cases c : oA o 1 < oA o 3
      · rw [if_neg (by omega), if_pos (by omega)]
        show 2 ≤ hv (halS o ps) (oA o 1) + hv (halS o ps) (oA o 3)
        omega
      · rw [if_pos (by omega), if_neg (by omega)]
        show 2 ≤ hv (halS o ps) (oA o 3) + hv (halS o ps) (oA o 1)
        omega
theorem more_dues {es' : List (Int × Int)} (sub : ∀ e ∈ es, e ∈ es') (le : es.length ≤ es'.length) (ok : DuesOk ps es ds) : DuesOk ps es' ds :=
  ⟨Nat.le_trans ok.len le, fun d hd => ⟨(ok.each d hd).1, sub _ (ok.each d hd).2⟩, ok.rise, ok.paid⟩
theorem no_tight (h : StrWeb o am x ps es) (l4 : 4 ≤ o.length) (ok : DuesOk ps es ds) {es' : List (Int × Int)} {I O : List Int} : ¬ okL ps es' ds I O (.tight (oA o 1) (oA o 3)) := by
  intro q
  obtain ⟨d, hd, e⟩ := List.mem_map.mp q.2
  have m := (ok.each d hd).2
  have e : (d.1, d.2.1) = tie13 o := e
  rw [e] at m
  exact tie13_not h l4 m
theorem run_five {cs : List Lk} (r : runOk ps es ds [] [] cs) : ∀ n, runOk ps es ds [] [] (List.replicate n cs).flatten
  | 0 => trivial
  | n + 1 => by
    rw [List.replicate_succ, List.flatten_cons]
    exact runOk_two r (run_five r n)
end
end K33
set_option Elab.async false
set_option linter.all false
set_option maxRecDepth 100000
set_option maxHeartbeats 4000000
/-! L1: the law's own small defs. -/
namespace K33
open PySem L2
/-! one step of a reading -/
local macro_rules | `(tactic| walk_at "look") => `(tactic| first | assumption | exact upd_same | (refine Same.at' (by assumption) ?_; walk_at "look"))
local macro_rules | `(tactic| walk_at "side") => `(tactic| first | exact .inr ⟨by decide, by decide⟩ | exact .inl ⟨by decide, by decide⟩ | (show (0 : Int) < _; decide) | exact ⟨by decide, by decide⟩ | omega)
local macro_rules | `(tactic| walk_at "tt") => `(tactic| first | assumption | exact decide_eq_true (by assumption) | exact decide_eq_true rfl | (rw [decide_eq_false (by assumption)]; rfl) | rfl | exact decide_eq_true (by omega) | (rw [decide_eq_false (by omega)]; rfl))
local macro_rules | `(tactic| walk_at "ff") => `(tactic| first | assumption | exact decide_eq_false (by assumption) | (rw [decide_eq_true (by assumption)]; rfl) | (rw [decide_eq_true rfl]; rfl) | rfl | exact decide_eq_false (by omega) | (rw [decide_eq_true (by omega)]; rfl))
local macro_rules | `(tactic| walk_at "fld") => `(tactic| fail)
local macro_rules | `(tactic| walk_at "s1") => `(tactic| first
  | with_reducible refine r_seq ?_
  | with_reducible refine r_asg ?_
  | with_reducible refine r_name ?_
  | ((with_reducible refine' r_var ?hv ?_); (case hv => exact rfl))
  | with_reducible refine r_c ?_
  | with_reducible refine r_op ?_
  | with_reducible refine r_un ?_
  | with_reducible refine r_neg ?_
  | with_reducible refine r_I0 ?_
  | ((with_reducible refine' r_I ?hc ?_); (case hc => walk_at "side"))
  | with_reducible refine r_eqI ?_
  | with_reducible refine r_neI ?_
  | with_reducible refine r_eqS ?_
  | with_reducible refine r_neS ?_
  | with_reducible refine r_B ?_
  | with_reducible refine r_test ?_
  | with_reducible refine r_chain ?_
  | with_reducible refine r_and ?_
  | with_reducible refine r_or ?_
  | with_reducible refine r_not ?_
  | with_reducible refine r_andV ?_
  | with_reducible refine r_orV ?_
  | with_reducible refine r_notV ?_
  | with_reducible refine r_nil ?_
  | with_reducible refine r_cons ?_
  | with_reducible refine r_call ?_
  | with_reducible refine r_CB ?_
  | with_reducible refine r_fld ?_
  | with_reducible refine r_tup ?_
  | walk_at "fld"
  | with_reducible refine r_lst ?_
  | with_reducible refine r_if ?_
  | with_reducible refine r_drop ?_
  | with_reducible refine r_ret ?_
  | with_reducible refine r_retN ?_
  | with_reducible refine r_next ?_
  | with_reducible refine r_cont ?_
  | with_reducible refine r_bm ?_
  | with_reducible refine r_gcons ?_
  | with_reducible refine r_gnil ?_
  | with_reducible refine r_for ?_
  | with_reducible refine r_lc ?_
  | with_reducible refine r_yes ?_
  | with_reducible refine r_iEnum ?_
  | with_reducible refine r_iList ?_
  | with_reducible refine r_iTup ?_
  | with_reducible refine r_iZip ?_
  | with_reducible refine r_iRng1 ?_
  | with_reducible refine r_iRng2 ?_
  | with_reducible refine r_din ?_
  | with_reducible refine r_dnotin ?_
  | with_reducible refine r_dget ?_
  | with_reducible refine r_dget2 ?_
  | with_reducible refine r_dput ?_
  | with_reducible refine r_dnewK ?_
  | with_reducible refine r_gsub ?_
  | ((with_reducible refine' r_dinL (Rd.of ?h) ?_); (case h => walk_at "look"))
  | ((with_reducible refine' r_isD (Rd.of ?h) ?_); (case h => walk_at "look"))
  | ((with_reducible refine' r_dget2L (Rd.of ?h) ?_); (case h => walk_at "look"))
  | ((with_reducible refine' r_dgetL (Rd.of ?h) ?e ?_); (case h => walk_at "look"); (case e => first | assumption | rfl))
  | ((with_reducible refine' r_dgetL (rd_frz ?h) ?e ?_); (case h => assumption); (case e => first | assumption | rfl))
  | ((with_reducible refine' r_lt2 ?h1 ?h2 ?_); (case h1 => walk_at "look"); (case h2 => walk_at "look"))
  | with_reducible refine r_sl ?_
  | with_reducible refine r_noPart ?_
  | with_reducible refine r_part ?_
  | with_reducible refine r_exi ?_
  | ((with_reducible refine' r_tyL ?h ?_); (case h => walk_at "look"))
  | with_reducible refine r_isN ?_
  | with_reducible refine r_notN ?_
  | with_reducible refine r_isB ?_
  | with_reducible refine r_notB ?_
  | with_reducible refine r_min2' ?_
  | with_reducible refine r_max2' ?_
  | with_reducible refine r_isi (.base (.int _)) kII ?_
  | with_reducible refine r_isi (.base (.int _)) kIB ?_
  | with_reducible refine r_isi (.base (.str _)) kSS ?_
  | with_reducible refine r_isi (.base (.bl _)) kBB ?_
  | ((with_reducible refine' r_isi (.base (.tup ?h)) kTT ?_); (case h => walk_at "look"))
  | ((with_reducible refine' r_isi (.base (.lst ?h)) kLL ?_); (case h => walk_at "look"))
  | ((with_reducible refine' r_lenS (Or.inr (SqT.of ?h)) ?_); (case h => walk_at "look"))
  | ((with_reducible refine' r_lenS (Or.inl (SqL.of ?h)) ?_); (case h => walk_at "look"))
  | ((with_reducible refine' r_ixT (SqT.of ?h) ?e ?_); (case h => walk_at "look"); (case e => rfl))
  | ((with_reducible refine' r_gtup (SqT.of ?h) ?e ?_); (case h => walk_at "look"); (case e => rfl))
  | ((with_reducible refine r_tlen ?e ?_); (case e => exact Nat.le_of_ble_eq_true rfl))
  | with_reducible refine r_iteT ?_
  | with_reducible refine r_iteF ?_
  | with_reducible refine r_exb2 ?_
  | ((with_reducible refine r_iteP ?hc ?_); (case hc => walk_at "tt"))
  | ((with_reducible refine r_iteN ?hc ?_); (case hc => walk_at "ff")))
local macro_rules | `(tactic| walk_at "s") => `(tactic| repeat (walk_at "s1"))

local macro_rules | `(tactic| walk_at "side") => `(tactic| exact ⟨by decide, by decide, by decide⟩)
def StateAt (H : Hp) (p : Addr) : Prop := ∃ (c s : Int) (b : Bool), H p = some (.lst [.int c, .int s, .bl b]) ∧ 0 ≤ s ∧ s < 2147483647
theorem StateAt.sm {H H' : Hp} {p : Addr} (s : Same H H') (h : StateAt H p) : StateAt H' p := let ⟨c, d, b, e, q⟩ := h; ⟨c, d, b, s _ _ e, q⟩
theorem divW {i m : Int} (h1 : 1 ≤ m) (h2 : m ≤ 1000000000) : CDivW i m := ⟨by omega, by
  have h3 : m.natAbs < 2 ^ 30 := by omega
  have h4 : m.natAbs ≠ 0 := by omega
  exact Nat.lt_of_lt_of_le ((Nat.log2_lt h4).mpr h3) (by decide)⟩
section
variable {P : Program} {w : World} {K : PySem.W.Frag} {mg : Str → Option Value} {base : Heap}
theorem r_list {H : Hp} {Q : VK} {p : Addr} {ys : List V} (h : H p = some (.lst ys)) (q : New H (.lst ys) Q) : rListS K [.ref p] H Q := ⟨p, ys, rfl, .inl (SqL.of h), fun l hl => q l hl⟩
def spOwn : Sp := fun vs H Q _ => ∃ (a : Addr) (ps es : List (Int × Int)), vs = [.ref a] ∧ WebAt H a ps es ∧ ∀ t H', Same H H' → WebAt H' t ps es → Q (.ref t) H'
theorem ok_own {f : Addr} {fd : FuncData} (F : Fun K "_law_own" "_law_own" s_law_own f fd) (T : Txt K mg) : FnOk P w K mg base CX0 1 f fd ["_law_web"] spOwn := by
  refine F.ok sc_law_own (fun vs H Q E h => ?_) (fun cdv A outer s H vs Q E hr h => ?_)
  · obtain ⟨a, ps, es, rfl, _⟩ := h; rfl
  obtain ⟨a, ps, es, rfl, ⟨pa, ea, hw, ⟨ts, hp, prp⟩, ⟨us, hu, pru⟩⟩, k⟩ := h
  refine ⟨_, (pss_one (ps_ret (pe_tup (pa_cons (pe_callTy (listK (K := K)) (by rfl) T.fList bt_list (pa_cons (pe_ix (ixTK (K := K)) (pv 0) pe_int (fun _ _ => rfl)) pa_nil)) (pa_cons (pe_callTy (listK (K := K)) (by rfl) T.fList bt_list (pa_cons (pe_ix (ixTK (K := K)) (pv 0) pe_int (fun _ _ => rfl)) pa_nil)) pa_nil))))), ?_⟩
  walk_at "s"
  refine r_list hp (r_new fun l H1 nl s1 h1 => ?_)
  have hw1 := s1 _ _ hw
  walk_at "s"
  refine r_list (s1 _ _ hu) (r_new fun m H2 nm s2 h2 => ?_)
  walk_at "s"
  refine r_new fun t H3 nt s3 h3 => ?_
  have s03 := (s1.trans s2).trans s3
  exact k t H3 s03 ⟨l, m, h3, ⟨ts, s3 _ _ (s2 _ _ h1), tab_sm s03 prp⟩, ⟨us, s3 _ _ h2, tab_sm s03 pru⟩⟩
theorem sql_sm {H H' : Hp} {a : Addr} {xs : List V} (e : Same H H') (h : SqL K H a xs) : SqL K H' a xs := h.imp (sm_rd e) id
def spBegun (K : PySem.W.Frag) : Sp := fun vs H Q _ => ∃ (a : Addr) (ns : List Int) (k : Nat), vs = [.ref a, .int (k : Nat)] ∧ SqL K H a (ns.map V.int) ∧ k ≤ 1000 ∧ ∀ p H', H p = none → Same H H' → StateAt H' p → Q (.ref p) H'
theorem ok_begun {f : Addr} {fd : FuncData} (F : Fun K "_law_begun" "_law_begun" s_law_begun f fd) (T : Txt K mg) : FnOk P w K mg base CX0 1 f fd ["_law_script", "_law_k"] (spBegun K) := by
  refine F.ok sc_law_begun (fun vs H Q E h => ?_) (fun cdv A outer s H vs Q E hr h => ?_)
  · obtain ⟨a, ns, k, rfl, _⟩ := h; rfl
  obtain ⟨a, ns, n, rfl, ha, hn, k⟩ := h
  refine ⟨_, (pss_cons (ps_set (i := 2) sc_law_begun.nd rfl (Or.inl rfl) pe_int)
 (pss_cons (ps_if (pt_cmpR op_lt (pv 1) (pe_callB (lenK (K := K)) (by rfl) T.fLen bt_len (pa_cons (pv 0) pa_nil)) (nomark _))
 (pss_one (ps_set (i := 2) sc_law_begun.nd rfl (Or.inl rfl) (pe_ix (ixLK (K := K)) (pv 0) (pv 1) (fun _ _ => rfl))))
 pss_nil)
 (pss_cons (ps_set (i := 3) sc_law_begun.nd rfl (Or.inl rfl) (pe_op op_add (pe_op op_add (pe_op op_mod (pv 2) pe_int) (pe_op op_mul pe_int (pv 1))) (pe_op op_mul pe_int (pe_op op_fdiv (pv 1) pe_int))))
 (pss_one (ps_ret (pe_lst (pa_cons (pv 2) (pa_cons (pe_op op_mod (pv 3) pe_int) (pa_cons (pe_cmpR op_ge (pv 2) (pe_op op_pow pe_int pe_int) (nomark _)) pa_nil))))))))), ?_⟩
  have lm : (ns.map V.int).length = ns.length := List.length_map ..
  walk_at "s"
  refine r_lenS (Or.inl ha) ?_
  walk_at "s"
  rw [lm]
  by_cases c : n < ns.length
  · have e : (ns.map V.int)[n]? = some (.int ns[n]) := by rw [List.getElem?_map, List.getElem?_eq_getElem c]; rfl
    walk_at "s"
    refine r_ixL ha (at_of rfl e) ?_
    walk_at "s"
    refine r_new fun p H1 np s1 h1 => ?_
    exact k p H1 np s1 ⟨_, _, _, h1, by omega, by omega⟩
  · walk_at "s"
    refine r_new fun p H1 np s1 h1 => ?_
    exact k p H1 np s1 ⟨_, _, _, h1, by omega, by omega⟩
/-- a number is taken: only the state's list changes -/
def spTakeN : Sp := fun vs H Q _ => ∃ (p : Addr) (m : Int), vs = [.ref p, .int m] ∧ StateAt H p ∧ 1 ≤ m ∧ m ≤ 1000000000 ∧ ∀ d H', 0 ≤ d → d < m → SB p H H' → StateAt H' p → (∀ b, H b = none → H' b = none) → Q (.int d) H'
theorem ok_takeN {f : Addr} {fd : FuncData} (F : Fun K "_law_take" "_law_take" s_law_take f fd) (T : Txt K mg) : FnOk P w K mg base CX0 1 f fd ["_law_state", "_law_many"] spTakeN := by
  refine F.ok sc_law_take (fun vs H Q E h => ?_) (fun cdv A outer s H vs Q E hr h => ?_)
  · obtain ⟨p, m, rfl, _⟩ := h; rfl
  obtain ⟨p, m, rfl, ⟨c, s0, b, hp, s1, s2⟩, h1, h2, k⟩ := h
  have fin : ∀ d H', 0 ≤ d → d < m → (∀ b, b ≠ p → H' b = H b) → StateAt H' p → Q (.int d) H' := fun d H' a b fr st => k d H' a b (fun x o n e => by rw [fr x n]; exact e) st (fun x hx => by
    rw [fr x (fun z => by rw [z, hp] at hx; cases hx)]; exact hx)
  have dv := fun i => divW (i := i) h1 h2
  refine ⟨_, (pss_cons (ps_if (pt_val (pe_ix (ixLK (K := K)) (pv 0) pe_int (fun _ _ => rfl)))
 (pss_cons (ps_set (i := 2) sc_law_take.nd rfl (Or.inl rfl) (pe_op op_mod (pe_ix (ixLK (K := K)) (pv 0) pe_int (fun _ _ => rfl)) (pv 1)))
 (pss_cons (ps_asg (pe_op op_fdivW (pe_ix (ixLK (K := K)) (pv 0) pe_int (fun _ _ => rfl)) (pv 1)) (pg_sub (pv 0) pe_int set_list))
 (pss_cons (ps_asg (pe_cmpR op_gt (pe_ix (ixLK (K := K)) (pv 0) pe_int (fun _ _ => rfl)) pe_int (nomark _)) (pg_sub (pv 0) pe_int set_list))
 (pss_one (ps_ret (pv 2))))))
 pss_nil)
 (pss_cons (ps_asg (pe_op op_mod (pe_op op_add (pe_op op_mul (pe_ix (ixLK (K := K)) (pv 0) pe_int (fun _ _ => rfl)) pe_int) pe_int) pe_int) (pg_sub (pv 0) pe_int set_list))
 (pss_cons (ps_set (i := 3) sc_law_take.nd rfl (Or.inl rfl) (pe_op op_fdiv (pe_op op_mod (pe_op op_mul (pe_ix (ixLK (K := K)) (pv 0) pe_int (fun _ _ => rfl)) (pe_ix (ixLK (K := K)) (pv 0) pe_int (fun _ _ => rfl))) pe_int) pe_int))
 (pss_cons (ps_if (pt_cmpR op_gt (pv 1) (pe_op op_pow pe_int pe_int) (nomark _))
 (pss_cons (ps_asg (pe_op op_mod (pe_op op_add (pe_op op_mul (pe_ix (ixLK (K := K)) (pv 0) pe_int (fun _ _ => rfl)) pe_int) pe_int) pe_int) (pg_sub (pv 0) pe_int set_list))
 (pss_one (ps_set (i := 3) sc_law_take.nd rfl (Or.inl rfl) (pe_op op_add (pe_op op_mul (pv 3) pe_int) (pe_ix (ixLK (K := K)) (pv 0) pe_int (fun _ _ => rfl))))))
 pss_nil)
 (pss_one (ps_ret (pe_op op_mod (pv 3) (pv 1)))))))), ?_⟩
  walk_at "s"
  refine r_ixI hp (i := 2) rfl rfl ?_
  cases b with
  | true =>
    walk_at "s"
    refine r_ixI hp (i := 0) rfl rfl ?_
    walk_at "s"
    refine r_ixI hp (i := 0) rfl rfl ?_
    walk_at "s"
    refine r_I (dv c) ?_
    walk_at "s"
    refine r_setL hp (j := 0) rfl (show 0 < 3 by decide) fun H1 q1 e1 => ?_
    walk_at "s"
    refine r_ixI e1 (i := 0) rfl rfl ?_
    walk_at "s"
    refine r_setL e1 (j := 2) rfl (show 2 < 3 by decide) fun H2 q2 e2 => ?_
    walk_at "s"
    exact fin _ _ (Int.emod_nonneg _ (by omega)) (Int.emod_lt_of_pos _ (by omega)) (fun b n => by rw [q2 b n, q1 b n]) ⟨_, _, _, e2, s1, s2⟩
  | false =>
    walk_at "s"
    refine r_ixI hp (i := 1) rfl rfl ?_
    walk_at "s"
    refine r_setL hp (j := 1) rfl (show 1 < 3 by decide) fun H1 q1 e1 => ?_
    walk_at "s"
    refine r_ixI e1 (i := 1) rfl rfl ?_
    walk_at "s"
    refine r_ixI e1 (i := 1) rfl rfl ?_
    refine r_I (.inl ⟨by omega, by omega⟩) ?_
    walk_at "s"
    by_cases c6 : 10 ^ (6 : Int).toNat < m
    · refine r_iteP (decide_eq_true c6) ?_
      walk_at "s"
      refine r_ixI e1 (i := 1) rfl rfl ?_
      walk_at "s"
      refine r_setL e1 (j := 1) rfl (show 1 < 3 by decide) fun H2 q2 e2 => ?_
      walk_at "s"
      refine r_ixI e2 (i := 1) rfl rfl ?_
      walk_at "s"
      exact fin _ _ (Int.emod_nonneg _ (by omega)) (Int.emod_lt_of_pos _ (by omega)) (fun b n => by rw [q2 b n, q1 b n]) ⟨_, _, _, e2, by omega, by omega⟩
    · refine r_iteN (decide_eq_false c6) ?_
      walk_at "s"
      exact fin _ _ (Int.emod_nonneg _ (by omega)) (Int.emod_lt_of_pos _ (by omega)) (fun b n => by rw [q1 b n]) ⟨_, _, _, e1, by omega, by omega⟩
/-- an order: different places -/
def spOrder : Sp := fun vs H Q _ => ∃ (p : Addr) (n : Nat), vs = [.ref p, .int (n : Nat)] ∧ StateAt H p ∧ n ≤ 40 ∧ ∀ l (o : List Int) H', SB p H H' → StateAt H' p → l ≠ p → H' l = some (.lst (o.map V.int)) → o.Nodup → o.length = n → (∀ v ∈ o, 0 ≤ v ∧ v ≤ 999) → Q (.ref l) H'
theorem ok_order {f : Addr} {fd : FuncData} (F : Fun K "_law_order" "_law_order" s_law_order f fd) (T : Txt K mg) (C_law_take : Can P w K mg base 1 "_law_take" ["_law_state", "_law_many"] spTakeN) : FnOk P w K mg base CX0 2 f fd ["_law_state", "_law_count"] spOrder := by
  refine F.ok sc_law_order (fun vs H Q E h => ?_) (fun cdv A outer s H vs Q E hr h => ?_)
  · obtain ⟨p, n, rfl, _⟩ := h; rfl
  obtain ⟨p, n, rfl, st, hn, k⟩ := h
  obtain ⟨_, _, _, hp, _⟩ := id st
  refine ⟨_, (pss_cons (ps_set (i := 2) sc_law_order.nd rfl (Or.inl rfl) (pe_un un_neg pe_int))
 (pss_cons (ps_set (i := 3) sc_law_order.nd rfl (Or.inl rfl) (pe_lst pa_nil))
 (pss_cons (ps_set (i := 4) sc_law_order.nd rfl (Or.inl rfl) (pc_can C_law_take (hr.mono (by decide)) rfl (pa_cons (pv 0) (pa_cons pe_int pa_nil))))
 (pss_cons (ps_for PassesOwn.never rfl (pi_range1 rfl T.fRange (pa_cons (pv 1) pa_nil)) (pg_name (i := 5) sc_law_order.nd rfl (Or.inl rfl))
 (pss_cons (ps_set (i := 2) sc_law_order.nd rfl (Or.inl rfl) (pe_op op_add (pe_op op_add (pv 2) pe_int) (pc_can C_law_take (hr.mono (by decide)) rfl (pa_cons (pv 0) (pa_cons (pe_ix (ixLK (K := K)) (pe_lst (pa_cons pe_int (pa_cons pe_int (pa_cons pe_int pa_nil)))) (pc_can C_law_take (hr.mono (by decide)) rfl (pa_cons (pv 0) (pa_cons pe_int pa_nil))) (fun _ _ => rfl)) pa_nil)))))
 (pss_cons (ps_set (i := 6) sc_law_order.nd rfl (Or.inl rfl) (pv 5))
 (pss_cons (ps_if (pt_cmpR op_eq (pv 4) pe_int (nomark _))
 (pss_one (ps_set (i := 6) sc_law_order.nd rfl (Or.inl rfl) (pc_can C_law_take (hr.mono (by decide)) rfl (pa_cons (pv 0) (pa_cons (pe_op op_add (pv 5) pe_int) pa_nil)))))
 pss_nil)
 (pss_one (ps_expr (peMK (K := K) PySem.F.plainAttrs_list PySem.F.slot_list_insert PySem.F.type_list_insert mtInsert (pv 3) (pa_cons (pv 6) (pa_cons (pv 2) pa_nil)))))))))
 (pss_one (ps_ret (pv 3))))))), ?_⟩
  walk_at "s"
  refine r_new fun l H1 nl s1 h1 => ?_
  have nlp : l ≠ p := (ne_of_none hp nl).symm
  walk_at "s"
  refine ⟨p, 2, rfl, st.sm s1, by decide, by decide, fun tn H2 t1 t2 b2 st2 fr2 => ?_⟩
  have b02 : SB p H H2 := (SB.of s1).trans b2
  have h2 := b2 _ _ nlp h1
  walk_at "s"
  refine l_rng1 (fun i σ H' => ∃ (o : List Int) (nu : Int) (v1 v2 : Option V), σ = [some (.ref p), some (.int (n : Nat)), some (.int nu), some (.ref l), some (.int tn), v1, v2] ∧ SB p H H' ∧ StateAt H' p ∧ H' l = some (.lst (o.map V.int)) ∧ o.Nodup ∧ o.length = i ∧ (∀ v ∈ o, 0 ≤ v ∧ v ≤ nu) ∧ -1 ≤ nu ∧ nu ≤ 23 * (i : Nat) - 1) (by omega)
    ⟨[], -1, none, none, rfl, b02, st2, h2, List.nodup_nil, rfl, fun v h => absurd h (by simp), by omega, by decide⟩ (by omega) ?_ ?_
  · rintro i σ H3 hi ⟨o, nu, v1, v2, rfl, b3, st3, h3, nd, lo, ho, n1, n2⟩
    walk_at "s"
    refine r_new fun q H4 nq s4 h4 => ?_
    have nlq : l ≠ q := ne_of_none h3 nq
    obtain ⟨_, _, _, hp3, _⟩ := id st3
    have npq : q ≠ p := (ne_of_none hp3 nq).symm
    walk_at "s"
    refine ⟨p, 3, rfl, st3.sm s4, by decide, by decide, fun t3 H5 t1' t2' b5 st5 fr5 => ?_⟩
    have h5 := b5 _ _ npq h4
    have e3 : ∃ g : Int, 1 ≤ g ∧ g ≤ 23 ∧ atI ([.int 1, .int 2, .int 23] : List V) t3 = some (.int g) := by
      have : t3 = 0 ∨ t3 = 1 ∨ t3 = 2 := by omega
      rcases this with e | e | e <;> subst e
      · exact ⟨1, by decide, by decide, rfl⟩
      · exact ⟨2, by decide, by decide, rfl⟩
      · exact ⟨23, by decide, by decide, rfl⟩
    obtain ⟨g, g1, g2, eg⟩ := e3
    refine r_ixL (SqL.of h5) eg ?_
    walk_at "s"
    refine ⟨p, g, rfl, st5, g1, by omega, fun dg H6 dg1 dg2 b6 st6 fr6 => ?_⟩
    have b46 : SB p H3 H6 := ((SB.of s4).trans b5).trans b6
    have b06 : SB p H H6 := b3.trans b46
    have h6 := b46 _ _ nlp h3
    have fin : ∀ (at_ : Int) H7, 0 ≤ at_ → at_ ≤ (i : Nat) → SB p H6 H7 → StateAt H7 p → ∀ v1 v2, rInsert (.ref l) [.int at_, .int (nu + 1 + dg)] H7 fun _ H8 => ∃ (o : List Int) (nu' : Int) (v1' v2' : Option V), [some (.ref p), some (.int (n : Nat)), some (.int (nu + 1 + dg)), some (.ref l), some (.int tn), v1, v2] = [some (.ref p), some (.int (n : Nat)), some (.int nu'), some (.ref l), some (.int tn), v1', v2'] ∧ SB p H H8 ∧ StateAt H8 p ∧ H8 l = some (.lst (o.map V.int)) ∧ o.Nodup ∧ o.length = i + 1 ∧ (∀ v ∈ o, 0 ≤ v ∧ v ≤ nu') ∧ -1 ≤ nu' ∧ nu' ≤ 23 * ((i + 1 : Nat) : Int) - 1 := by
      intro at_ H7 a1 a2 b7 st7 v1 v2
      have h7 := b7 _ _ nlp h6
      have fresh : nu + 1 + dg ∉ o := fun m => by have := ho _ m; omega
      refine ⟨l, _, at_, _, rfl, rfl, h7, sz_lt (by rw [List.length_map]; omega), a1, by omega, o.take at_.toNat ++ [nu + 1 + dg] ++ o.drop at_.toNat, _, _, _, rfl, fun b o' nb e => ?_, ?_, ?_, ?_, ?_, ?_, by omega, by omega⟩
      · rw [upd_ne (ne_of_none e nl)]
        exact b7 _ _ nb (b06 _ _ nb e)
      · obtain ⟨c, s', b, e, q⟩ := st7
        exact ⟨c, s', b, by rw [upd_ne nlp.symm]; exact e, q⟩
      · rw [upd_same, List.map_append, List.map_append, List.map_take, List.map_drop]; rfl
      · have nd' : (o.take at_.toNat ++ o.drop at_.toNat).Nodup := by rw [List.take_append_drop]; exact nd
        rw [List.append_assoc]
        obtain ⟨x1, x2, x3⟩ := List.nodup_append.mp nd'
        refine List.nodup_append.mpr ⟨x1, List.nodup_cons.mpr ⟨fun m => fresh (List.mem_of_mem_drop m), x2⟩, fun a ha b hb => ?_⟩
        rcases List.mem_cons.mp hb with e | e
        · intro z
          exact fresh (by rw [← e, ← z]; exact List.mem_of_mem_take ha)
        · exact x3 a ha b e
      · rw [List.length_append, List.length_append, List.length_take, List.length_drop]
        show min at_.toNat o.length + 1 + _ = _
        omega
      · intro v hv
        rcases List.mem_append.mp hv with m | m
        · rcases List.mem_append.mp m with m | m
          · have := ho v (List.mem_of_mem_take m); omega
          · have : v = nu + 1 + dg := by simpa using m
            omega
        · have := ho v (List.mem_of_mem_drop m); omega
    walk_at "s"
    by_cases ct : tn = 1
    · walk_at "s"
      refine ⟨p, _, rfl, st6, by omega, by omega, fun at_ H7 a1 a2 b7 st7 fr7 => ?_⟩
      have h7 := b7 _ _ nlp h6
      walk_at "s"
      exact fin at_ H7 a1 (by omega) b7 st7 _ _
    · walk_at "s"
      exact fin i H6 (by omega) (by omega) (SB.refl p H6) st6 _ _
  · rintro σ H3 ⟨o, nu, v1, v2, rfl, b3, st3, h3, nd, lo, ho, n1, n2⟩
    walk_at "s"
    exact k l o H3 b3 st3 nlp h3 nd (by omega) fun v hv => by have := ho v hv; omega
end
end K33
set_option Elab.async false
set_option linter.all false
set_option maxRecDepth 100000
set_option maxHeartbeats 4000000
/-! L2: leaves of the law's string. -/
namespace K33
open PySem L2
theorem code_two {B a b c d : Int} (h1 : TS.Bd B [a, b]) (h2 : TS.Bd B [c, d]) (h : TS.code B [a, b] ≤ TS.code B [c, d]) (ne : (a, b) ≠ (c, d)) : lt2 (a, b) (c, d) := by
  rcases code_lex h1 h2 h with z | ⟨z, y⟩
  · exact .inl z
  · refine .inr ⟨z, ?_⟩
    have : b ≠ d := fun e => ne (by rw [z, e])
    show b < d
    omega
theorem code_three {B a b x c d y : Int} (h1 : TS.Bd B [a, b, x]) (h2 : TS.Bd B [c, d, y]) (h : TS.code B [a, b, x] ≤ TS.code B [c, d, y]) (ne : (a, b) ≠ (c, d)) : lt2 (a, b) (c, d) := by
  by_cases q1 : c < a
  · have : TS.code B [c, d, y] < TS.code B [a, b, x] := TS.code_lt rfl h2.tail h1.tail q1
    omega
  · by_cases q2 : a = c
    · subst q2
      by_cases q3 : d < b
      · have t : TS.code B [d, y] < TS.code B [b, x] := TS.code_lt rfl h2.tail.tail h1.tail.tail q3
        have t2 : TS.code B [a, d, y] < TS.code B [a, b, x] := (TS.code_same (r := [d, y]) (q := [b, x]) rfl).mpr t
        omega
      · have : b ≠ d := fun e => ne (by rw [e])
        exact .inr ⟨rfl, show b < d by omega⟩
    · exact .inl (show a < c by omega)
section
variable {K : PySem.W.Frag}
theorem zip_tab {α : Type} {H : Hp} {enc : α → List V} {us : List Addr} {rows : List α} (pr : Paired (fun t r => H t = some (.tup r)) us (rows.map enc)) : (us.zip rows).map Prod.fst = us ∧ (us.zip rows).map Prod.snd = rows ∧ ∀ z ∈ us.zip rows, H z.1 = some (.tup (enc z.2)) := by
  have l := tab_len pr
  refine ⟨List.map_fst_zip (by omega), List.map_snd_zip (by omega), fun z hz => ?_⟩
  obtain ⟨i, hi⟩ := List.getElem?_of_mem hz
  obtain ⟨h1, h2⟩ := List.getElem?_zip_eq_some.mp hi
  obtain ⟨r, hr, e⟩ := paired_get' pr h1
  rw [List.getElem?_map, h2] at hr
  cases hr
  exact e
theorem paired_zip {α : Type} {H : Hp} {enc : α → List V} : ∀ zs : List (Addr × α), (∀ z ∈ zs, H z.1 = some (.tup (enc z.2))) → Paired (fun t r => H t = some (.tup r)) (zs.map Prod.fst) ((zs.map Prod.snd).map enc)
  | [], _ => .nil
  | z :: zs, h => .cons (h z (by simp)) (paired_zip zs fun y hy => h y (by simp [hy]))
/-- sorted(list of tuples of ints) -/
theorem r_sortT {α : Type} {H : Hp} {Q : VK} {a : Addr} {rows : List α} {d : Nat} {B : Int} (nums : α → List Int) (h : Tab H a (rows.map fun r => (nums r).map V.int)) (few : rows.length < 64) (len : ∀ r ∈ rows, (nums r).length = d) (bd : ∀ r ∈ rows, TS.Bd B (nums r))
    (q : ∀ (rows' : List α) p H2, rows'.Perm rows → rows'.Pairwise (fun x y => TS.code B (nums x) ≤ TS.code B (nums y)) → Same H H2 → H p = none → Tab H2 p (rows'.map fun r => (nums r).map V.int) → Q (.ref p) H2) : rSortU K d B [.ref a] H Q := by
  obtain ⟨us, hl, pr⟩ := h
  obtain ⟨e1, e2, e3⟩ := zip_tab pr
  have lu := tab_len pr
  refine ⟨a, us.map V.ref, rfl, SqL.of hl, by rw [List.length_map]; omega, fun x hx => ?_, fun ys p pm pw hp => ?_⟩
  · obtain ⟨u, hu, rfl⟩ := List.mem_map.mp hx
    rw [← e1] at hu
    obtain ⟨z, hz, rfl⟩ := List.mem_map.mp hu
    have m : z.2 ∈ rows := by rw [← e2]; exact List.mem_map.mpr ⟨z, hz, rfl⟩
    exact ⟨nums z.2, ⟨z.1, rfl, SqT.of (e3 z hz)⟩, len _ m, bd _ m⟩
  · obtain ⟨zs, pz, ez⟩ := perm_lift (fun z : Addr × α => V.ref z.1) pm (us.zip rows) (by
      refine Eq.trans ?_ (congrArg (List.map V.ref) e1)
      rw [List.map_map]; rfl)
    have all : ∀ z ∈ zs, H z.1 = some (.tup ((nums z.2).map V.int)) := fun z hz => e3 z (pz.mem_iff.mp hz)
    refine q (zs.map Prod.snd) p _ ?_ ?_ (sm_new hp) hp ⟨zs.map Prod.fst, ?_, ?_⟩
    · have := pz.map Prod.snd
      rwa [e2] at this
    · rw [← ez, List.pairwise_map] at pw
      rw [List.pairwise_map]
      exact List.Pairwise.imp_of_mem (fun {x y} hx hy h => h _ _ ⟨x.1, rfl, SqT.of (all x hx)⟩ ⟨y.1, rfl, SqT.of (all y hy)⟩) pw
    · rw [upd_same, List.map_map, ← ez]; rfl
    · exact paired_zip zs fun z hz => by rw [upd_ne (ne_of_none (all z hz) hp)]; exact all z hz
end
end K33
set_option Elab.async false
set_option linter.all false
set_option maxRecDepth 100000
set_option maxHeartbeats 4000000
/-! L3: the law's string. -/
namespace K33
open PySem L2
/-! one step of a reading -/
local macro_rules | `(tactic| walk_at "look") => `(tactic| first | assumption | exact upd_same | (refine Same.at' (by assumption) ?_; walk_at "look"))
local macro_rules | `(tactic| walk_at "side") => `(tactic| first | exact .inr ⟨by decide, by decide⟩ | exact .inl ⟨by decide, by decide⟩ | (show (0 : Int) < _; decide) | exact ⟨by decide, by decide⟩ | omega)
local macro_rules | `(tactic| walk_at "tt") => `(tactic| first | assumption | exact decide_eq_true (by assumption) | exact decide_eq_true rfl | (rw [decide_eq_false (by assumption)]; rfl) | rfl | exact decide_eq_true (by omega) | (rw [decide_eq_false (by omega)]; rfl))
local macro_rules | `(tactic| walk_at "ff") => `(tactic| first | assumption | exact decide_eq_false (by assumption) | (rw [decide_eq_true (by assumption)]; rfl) | (rw [decide_eq_true rfl]; rfl) | rfl | exact decide_eq_false (by omega) | (rw [decide_eq_true (by omega)]; rfl))
local macro_rules | `(tactic| walk_at "fld") => `(tactic| fail)
local macro_rules | `(tactic| walk_at "s1") => `(tactic| first
  | with_reducible refine r_seq ?_
  | with_reducible refine r_asg ?_
  | with_reducible refine r_name ?_
  | ((with_reducible refine' r_var ?hv ?_); (case hv => exact rfl))
  | with_reducible refine r_c ?_
  | with_reducible refine r_op ?_
  | with_reducible refine r_un ?_
  | with_reducible refine r_neg ?_
  | with_reducible refine r_I0 ?_
  | ((with_reducible refine' r_I ?hc ?_); (case hc => walk_at "side"))
  | with_reducible refine r_eqI ?_
  | with_reducible refine r_neI ?_
  | with_reducible refine r_eqS ?_
  | with_reducible refine r_neS ?_
  | with_reducible refine r_B ?_
  | with_reducible refine r_test ?_
  | with_reducible refine r_chain ?_
  | with_reducible refine r_and ?_
  | with_reducible refine r_or ?_
  | with_reducible refine r_not ?_
  | with_reducible refine r_andV ?_
  | with_reducible refine r_orV ?_
  | with_reducible refine r_notV ?_
  | with_reducible refine r_nil ?_
  | with_reducible refine r_cons ?_
  | with_reducible refine r_call ?_
  | with_reducible refine r_CB ?_
  | with_reducible refine r_fld ?_
  | with_reducible refine r_tup ?_
  | walk_at "fld"
  | with_reducible refine r_lst ?_
  | with_reducible refine r_if ?_
  | with_reducible refine r_drop ?_
  | with_reducible refine r_ret ?_
  | with_reducible refine r_retN ?_
  | with_reducible refine r_next ?_
  | with_reducible refine r_cont ?_
  | with_reducible refine r_bm ?_
  | with_reducible refine r_gcons ?_
  | with_reducible refine r_gnil ?_
  | with_reducible refine r_for ?_
  | with_reducible refine r_lc ?_
  | with_reducible refine r_yes ?_
  | with_reducible refine r_iEnum ?_
  | with_reducible refine r_iList ?_
  | with_reducible refine r_iTup ?_
  | with_reducible refine r_iZip ?_
  | with_reducible refine r_iRng1 ?_
  | with_reducible refine r_iRng2 ?_
  | with_reducible refine r_din ?_
  | with_reducible refine r_dnotin ?_
  | with_reducible refine r_dget ?_
  | with_reducible refine r_dget2 ?_
  | with_reducible refine r_dput ?_
  | with_reducible refine r_dnewK ?_
  | with_reducible refine r_gsub ?_
  | ((with_reducible refine' r_dinL (Rd.of ?h) ?_); (case h => walk_at "look"))
  | ((with_reducible refine' r_isD (Rd.of ?h) ?_); (case h => walk_at "look"))
  | ((with_reducible refine' r_dget2L (Rd.of ?h) ?_); (case h => walk_at "look"))
  | ((with_reducible refine' r_dgetL (Rd.of ?h) ?e ?_); (case h => walk_at "look"); (case e => first | assumption | rfl))
  | ((with_reducible refine' r_dgetL (rd_frz ?h) ?e ?_); (case h => assumption); (case e => first | assumption | rfl))
  | ((with_reducible refine' r_lt2 ?h1 ?h2 ?_); (case h1 => walk_at "look"); (case h2 => walk_at "look"))
  | with_reducible refine r_sl ?_
  | with_reducible refine r_noPart ?_
  | with_reducible refine r_part ?_
  | with_reducible refine r_exi ?_
  | ((with_reducible refine' r_tyL ?h ?_); (case h => walk_at "look"))
  | with_reducible refine r_isN ?_
  | with_reducible refine r_notN ?_
  | with_reducible refine r_isB ?_
  | with_reducible refine r_notB ?_
  | with_reducible refine r_min2' ?_
  | with_reducible refine r_max2' ?_
  | with_reducible refine r_isi (.base (.int _)) kII ?_
  | with_reducible refine r_isi (.base (.int _)) kIB ?_
  | with_reducible refine r_isi (.base (.str _)) kSS ?_
  | with_reducible refine r_isi (.base (.bl _)) kBB ?_
  | ((with_reducible refine' r_isi (.base (.tup ?h)) kTT ?_); (case h => walk_at "look"))
  | ((with_reducible refine' r_isi (.base (.lst ?h)) kLL ?_); (case h => walk_at "look"))
  | ((with_reducible refine' r_lenS (Or.inr (SqT.of ?h)) ?_); (case h => walk_at "look"))
  | ((with_reducible refine' r_lenS (Or.inl (SqL.of ?h)) ?_); (case h => walk_at "look"))
  | ((with_reducible refine' r_ixT (SqT.of ?h) ?e ?_); (case h => walk_at "look"); (case e => rfl))
  | ((with_reducible refine' r_gtup (SqT.of ?h) ?e ?_); (case h => walk_at "look"); (case e => rfl))
  | ((with_reducible refine r_tlen ?e ?_); (case e => exact Nat.le_of_ble_eq_true rfl))
  | with_reducible refine r_iteT ?_
  | with_reducible refine r_iteF ?_
  | with_reducible refine r_exb2 ?_
  | ((with_reducible refine r_iteP ?hc ?_); (case hc => walk_at "tt"))
  | ((with_reducible refine r_iteN ?hc ?_); (case hc => walk_at "ff")))
local macro_rules | `(tactic| walk_at "s") => `(tactic| repeat (walk_at "s1"))

local macro_rules | `(tactic| walk_at "side") => `(tactic| exact ⟨by decide, by decide, by decide⟩)
theorem StateAt.ne {H : Hp} {p a : Addr} {us : List Addr} (st : StateAt H p) (h : H a = some (.lst (us.map V.ref))) : a ≠ p := fun z => by
  obtain ⟨c, s, b, e, _⟩ := st
  rw [z, e] at h
  cases us with
  | nil => cases h
  | cons u us => cases h
theorem Tab.sb {H H' : Hp} {p a : Addr} {rows : List (List V)} (st : StateAt H p) (s : SB p H H') (h : Tab H a rows) : Tab H' a rows := by
  obtain ⟨us, e, pr⟩ := h
  obtain ⟨c, d, b, ep, _⟩ := id st
  exact ⟨us, s _ _ (st.ne e) e, L2.Paired.mapP pr fun t r q => s _ _ (ne_of q ep (fun z => by cases z)) q⟩
theorem WebAt.sb {H H' : Hp} {p a : Addr} {ps es : List (Int × Int)} (st : StateAt H p) (s : SB p H H') (h : WebAt H a ps es) : WebAt H' a ps es := by
  obtain ⟨x, y, e, a1, a2⟩ := h
  obtain ⟨c, d, b, ep, _⟩ := id st
  exact ⟨x, y, s _ _ (ne_of e ep (fun z => by cases z)) e, a1.sb st s, a2.sb st s⟩
section
variable {σ : L2.St} {K : PySem.W.Frag} {g : TG} {te : TE}
/-- a comprehension that takes numbers -/
def PB (A : Nat → List V → Prop) (p : Addr) (H1 : Hp) (D : Addr) (i : Nat) (H : Hp) : Prop := H1 D = none ∧ D ≠ p ∧ SB p H1 H ∧ StateAt H p ∧ ∃ acc, H D = some (.lst acc) ∧ A i acc
theorem k_rngS {tt : TT} {vs : List Nat} {Q : VK} {n : Int} {p : Addr} {H : Hp} (A : Nat → List V → Prop) (st : StateAt H p) (hn : 0 ≤ n ∧ n ≤ 1000000) (h0 : A 0 [])
    (hs : ∀ D (i : Nat) acc H', H D = none → D ≠ p → (i : Int) < n → SB p H H' → StateAt H' p → H' D = some (.lst acc) → A i acc → g (.int (i : Nat)) (wipe σ vs) H' fun σ2 H2 => wipe σ2 vs = wipe σ vs ∧ tt σ2 H2 fun b H3 =>
      if b = true then te σ2 H3 fun y H4 => ∃ acc, H4 D = some (.lst acc) ∧ acc.length < sizeLine ∧ PB A p H D (i + 1) (upd H4 D (.lst (acc ++ [y]))) else PB A p H D (i + 1) H3)
    (hd : ∀ D acc H', H D = none → D ≠ p → SB p H H' → StateAt H' p → H' D = some (.lst acc) → A n.toNat acc → Q (.ref D) H') : ∃ j : Int, ([V.int n] : List V) = [.int j] ∧ -(2 ^ 62) ≤ j ∧ j < 2 ^ 62 ∧ CompP (Itr 0 j.toNat) g tt te vs σ H Q :=
  ⟨n, rfl, by omega, by omega, fun D nD => by
    obtain ⟨c, s, b, ep, q⟩ := id st
    have nDp : D ≠ p := (ne_of_none ep nD).symm
    exact lc_range (lo := 0) (n := n.toNat) (PB A p H D) ⟨nD, nDp, SB.of (sm_new nD), st.sm (sm_new nD), [], upd_same, h0⟩ (fun i H' hi ⟨nD, nDp, s, st, acc, e, a⟩ => by
      rw [Int.zero_add]
      exact hs D i acc H' nD nDp (by omega) s st e a) (fun H' ⟨nD, nDp, s, st, acc, e, a⟩ => hd D acc H' nD nDp s st e a)⟩
theorem b_end {A : Nat → List V → Prop} {p : Addr} {H1 H4 : Hp} {D : Addr} {i : Nat} {acc : List V} {y : V} (nD : H1 D = none) (nDp : D ≠ p) (s : SB p H1 H4) (st : StateAt H4 p) (e : H4 D = some (.lst acc)) (l : acc.length < 100000) (a : A (i + 1) (acc ++ [y])) :
    ∃ acc, H4 D = some (.lst acc) ∧ acc.length < sizeLine ∧ PB A p H1 D (i + 1) (upd H4 D (.lst (acc ++ [y]))) :=
  ⟨acc, e, sz_lt l, nD, nDp, fun b o n h => by rw [upd_ne (ne_of_none h nD)]; exact s b o n h, let ⟨c, d, b, q, r⟩ := st; ⟨c, d, b, by rw [upd_ne nDp.symm]; exact q, r⟩, acc ++ [y], upd_same, a⟩
theorem r_cat {H : Hp} {Q : VK} {l b : Addr} {xs zs : List V} (h1 : H l = some (.lst xs)) (h2 : H b = some (.lst zs)) (few : xs.length + zs.length ≤ 100000) (q : New H (.lst (xs ++ zs)) Q) : rCat (.ref l) (.ref b) H Q := ⟨l, b, xs, zs, rfl, rfl, h1, h2, sz_of few, q⟩
end
theorem both_at {am : List Int} {k : Nat} (h : k ≤ am.length + 1) : (([0] ++ am ++ [0] : List Int).map V.int)[k]? = some (.int (bef (aA am) k)) := by
  rw [List.getElem?_map]
  cases k with
  | zero => rfl
  | succ j =>
    rw [bef_succ]
    have e : ([0] ++ am ++ [0] : List Int) = 0 :: (am ++ [0]) := rfl
    rw [e, List.getElem?_cons_succ]
    unfold aA
    by_cases c : j < am.length
    · rw [List.getElem?_append_left c, getD_at (List.getElem?_eq_getElem c), List.getElem?_eq_getElem c]; rfl
    · have : j = am.length := by omega
      subst this
      rw [List.getElem?_append_right (Nat.le_refl _), Nat.sub_self, List.getD_eq_getElem?_getD, List.getElem?_eq_none (Nat.le_refl _)]; rfl
theorem r_index {K : PySem.W.Frag} {H : Hp} {Q : VK} {l : Addr} {o : List Int} {v : Int} (nd : o.Nodup) (h : H l = some (.lst (o.map V.int))) (m : v ∈ o) (q : Q (.int (o.idxOf v : Nat)) H) : rIndex K (.ref l) [.int v] H Q := by
  have hl := List.idxOf_lt_length_of_mem m
  refine ⟨l, o.map V.int, .int v, o.idxOf v, .int v, rfl, rfl, SqL.of h, rfl, by simp [flatV], by rw [List.getElem?_map, List.getElem?_eq_getElem hl, List.getElem_idxOf hl]; rfl, by simp [eqV], fun j z hj hz => ?_, q⟩
  rw [List.getElem?_map] at hz
  obtain ⟨u, hu, rfl⟩ := Option.map_eq_some_iff.mp hz
  have ne : u ≠ v := fun e => by
    subst e
    obtain ⟨lj, ej⟩ := List.getElem?_eq_some_iff.mp hu
    have := List.Nodup.idxOf_getElem nd j lj
    rw [ej] at this
    omega
  simp [eqV, ne]
/-- prices, but what the first has more -/
def pl0 (o am : List Int) (m : Nat) : List (Int × Int) := (List.range m).map fun k => (oA o k, (bef (aA am) k + aA am k) / 2)
theorem pl0_succ (o am : List Int) (m : Nat) : pl0 o am (m + 1) = pl0 o am m ++ [(oA o m, (bef (aA am) m + aA am m) / 2)] := by unfold pl0; rw [List.range_succ, List.map_append]; rfl
theorem pl0_keys (o am : List Int) (m : Nat) : (pl0 o am m).map (·.1) = (List.range m).map (oA o) := by unfold pl0; rw [List.map_map]; rfl
section
variable {P : Program} {w : World} {K : PySem.W.Frag} {mg : Str → Option Value} {base : Heap}
def spString : Sp := fun vs H Q _ => ∃ p : Addr, vs = [.ref p] ∧ StateAt H p ∧ ∀ (t a h d c : Addr) (o am : List Int) (x : Int) (ps es : List (Int × Int)) (ds : List (Int × Int × Int)) H', SB p H H' → StateAt H' p → H' t = some (.tup [.ref a, .ref h, .ref d, .ref c]) →
  WebAt H' a ps es → Tab H' h ((halS o ps).map I2) → Tab H' d (ds.map I3) → Tab H' c ((chA o).map eC) → StrWeb o am x ps es → ds.Perm ((List.range am.length).map (tieD o am)) → (ds.Pairwise fun a b => lt2 (a.1, a.2.1) (b.1, b.2.1)) → Q (.ref t) H'
theorem ok_string {f : Addr} {fd : FuncData} (F : Fun K "_law_string" "_law_string" s_law_string f fd) (T : Txt K mg) (C_law_take : Can P w K mg base 1 "_law_take" ["_law_state", "_law_many"] spTakeN) (C_law_order : Can P w K mg base 2 "_law_order" ["_law_state", "_law_count"] spOrder) : FnOk P w K mg base CX0 3 f fd ["_law_state"] spString := by
  refine F.ok sc_law_string (fun vs H Q E h => ?_) (fun cdv A outer s H vs Q E hr h => ?_)
  · obtain ⟨p, rfl, _⟩ := h; rfl
  obtain ⟨p, rfl, st, k⟩ := h
  refine ⟨_, (pss_cons (ps_set (i := 1) sc_law_string.nd rfl (Or.inr rfl) (pc_can C_law_order (hr.mono (by decide)) rfl (pa_cons (pv 0) (pa_cons (pe_op op_add pe_int (pc_can C_law_take (hr.mono (by decide)) rfl (pa_cons (pv 0) (pa_cons pe_int pa_nil)))) pa_nil))))
 (pss_cons (ps_set (i := 2) sc_law_string.nd rfl (Or.inr rfl) (pe_ix (ixLK (K := K)) (pe_lst (pa_cons pe_int (pa_cons pe_int (pa_cons (pe_op op_pow pe_int pe_int) pa_nil)))) (pc_can C_law_take (hr.mono (by decide)) rfl (pa_cons (pv 0) (pa_cons pe_int pa_nil))) (fun _ _ => rfl)))
 (pss_cons (ps_setLc (i := 4) (own := [("_law_k", 3)]) rfl sc_law_string.nd rfl rfl (sw_true rfl rfl rfl (by decide +kernel)) (pi_range1 rfl T.fRange (pa_cons (pe_op op_sub (pe_callB (lenK (K := K)) (by rfl) T.fLen bt_len (pa_cons (pv 1) pa_nil)) pe_int) pa_nil)) (blkOk_by (own := [("_law_k", 3)]) (N := ["_law_state", "_law_order_here", "_law_great", "_law_k", "_law_amounts", "_law_both", "_law_prices", "_law_places", "_law_dues", "_law_web", "_law_halves", "_law_chain", "_law_place", "_law_due"]) (sc := defScope s_law_string) (by decide +kernel)) (fun _ _ _ _ _ => (pg_name (i := 3) sc_law_string.nd rfl (Or.inl rfl))) (fun _ _ _ _ _ => pts_nil) (fun _ _ _ _ _ => (pe_op op_add pe_int (pe_op op_mul pe_int (pc_can C_law_take (hr.mono (by decide)) rfl (pa_cons (pv 0) (pa_cons (pv 2) pa_nil)))))))
 (pss_cons (ps_set (i := 5) sc_law_string.nd rfl (Or.inl rfl) (pe_op op_cat (pe_op op_cat (pe_lst (pa_cons pe_int pa_nil)) (pv 4)) (pe_lst (pa_cons pe_int pa_nil))))
 (pss_cons (ps_set (i := 6) sc_law_string.nd rfl (Or.inr rfl) pe_dnewK)
 (pss_cons (ps_for PassesOwn.never rfl (pi_range1 rfl T.fRange (pa_cons (pe_callB (lenK (K := K)) (by rfl) T.fLen bt_len (pa_cons (pv 1) pa_nil)) pa_nil)) (pg_name (i := 3) sc_law_string.nd rfl (Or.inl rfl))
 (pss_one (ps_dput (hu_of hr) (pv 6) (pe_ix (ixLK (K := K)) (pv 1) (pv 3) (fun _ _ => rfl)) (pe_op op_fdiv (pe_op op_add (pe_ix (ixLK (K := K)) (pv 5) (pv 3) (fun _ _ => rfl)) (pe_ix (ixLK (K := K)) (pv 5) (pe_op op_add (pv 3) pe_int) (fun _ _ => rfl))) pe_int) rfl)))
 (pss_cons (ps_dput (hu_of hr) (pv 6) (pe_ix (ixLK (K := K)) (pv 1) pe_int (fun _ _ => rfl)) (pe_op op_add (pe_op op_add (pe_dget (hu_of hr) (pv 6) (pe_ix (ixLK (K := K)) (pv 1) pe_int (fun _ _ => rfl)) (fun _ _ => rfl)) pe_int) (pc_can C_law_take (hr.mono (by decide)) rfl (pa_cons (pv 0) (pa_cons (pv 2) pa_nil)))) rfl)
 (pss_cons (ps_setLc (i := 7) (own := [("_law_place", 12)]) rfl sc_law_string.nd rfl rfl (sw_true rfl rfl rfl (by decide +kernel)) (piLK (K := K) (pe_callB (sortIK (K := K)) (by rfl) T.fSorted bt_sorted (pa_cons (pv 1) pa_nil))) (blkOk_by (own := [("_law_place", 12)]) (N := ["_law_state", "_law_order_here", "_law_great", "_law_k", "_law_amounts", "_law_both", "_law_prices", "_law_places", "_law_dues", "_law_web", "_law_halves", "_law_chain", "_law_place", "_law_due"]) (sc := defScope s_law_string) (by decide +kernel)) (fun _ _ _ _ _ => (pg_name (i := 12) sc_law_string.nd rfl (Or.inl rfl))) (fun _ _ _ _ _ => pts_nil) (fun _ _ _ _ _ => (pe_tup (pa_cons (pv 12) (pa_cons (pe_dget (hu_of hr) (pv 6) (pv 12) (fun _ _ => rfl)) pa_nil)))))
 (pss_cons (ps_set (i := 8) sc_law_string.nd rfl (Or.inl rfl) (pe_lst pa_nil))
 (pss_cons (ps_for PassesOwn.never rfl (pi_range1 rfl T.fRange (pa_cons (pe_callB (lenK (K := K)) (by rfl) T.fLen bt_len (pa_cons (pv 4) pa_nil)) pa_nil)) (pg_name (i := 3) sc_law_string.nd rfl (Or.inl rfl))
 (pss_one (ps_expr (peMK (K := K) PySem.F.plainAttrs_list PySem.F.slot_list_append PySem.F.type_list_append mt_append (pv 8) (pa_cons (pe_tup (pa_cons (pe_callB (min2 rfl) (by rfl) T.fMin bt_min (pa_cons (pe_ix (ixLK (K := K)) (pv 1) (pv 3) (fun _ _ => rfl)) (pa_cons (pe_ix (ixLK (K := K)) (pv 1) (pe_op op_add (pv 3) pe_int) (fun _ _ => rfl)) pa_nil))) (pa_cons (pe_callB (max2 rfl) (by rfl) T.fMax bt_max (pa_cons (pe_ix (ixLK (K := K)) (pv 1) (pv 3) (fun _ _ => rfl)) (pa_cons (pe_ix (ixLK (K := K)) (pv 1) (pe_op op_add (pv 3) pe_int) (fun _ _ => rfl)) pa_nil))) (pa_cons (pe_ix (ixLK (K := K)) (pv 4) (pv 3) (fun _ _ => rfl)) pa_nil)))) pa_nil)))))
 (pss_cons (ps_set (i := 9) sc_law_string.nd rfl (Or.inl rfl) (pe_tup (pa_cons (pv 7) (pa_cons (pe_callB (sortTK (K := K) (d := 2) (B := 1000000000000) (by decide)) (by rfl) T.fSorted bt_sorted (pa_cons (pe_lc (own := [("_law_due", 13)]) rfl sc_law_string.nd (piLK (K := K) (pv 8)) (blkOk_by (own := [("_law_due", 13)]) (N := ["_law_state", "_law_order_here", "_law_great", "_law_k", "_law_amounts", "_law_both", "_law_prices", "_law_places", "_law_dues", "_law_web", "_law_halves", "_law_chain", "_law_place", "_law_due"]) (sc := defScope s_law_string) (by decide +kernel)) (fun _ _ _ _ _ => (pg_name (i := 13) sc_law_string.nd rfl (Or.inl rfl))) (fun _ _ _ _ _ => pts_nil) (fun _ _ _ _ _ => (pe_slice (slTK (K := K)) (pv 13) po_none (po_some pe_int)))) pa_nil)) pa_nil))))
 (pss_cons (ps_setLc (i := 10) (own := [("_law_place", 12)]) rfl sc_law_string.nd rfl rfl (sw_true rfl rfl rfl (by decide +kernel)) (piLK (K := K) (pe_callB (sortIK (K := K)) (by rfl) T.fSorted bt_sorted (pa_cons (pv 1) pa_nil))) (blkOk_by (own := [("_law_place", 12)]) (N := ["_law_state", "_law_order_here", "_law_great", "_law_k", "_law_amounts", "_law_both", "_law_prices", "_law_places", "_law_dues", "_law_web", "_law_halves", "_law_chain", "_law_place", "_law_due"]) (sc := defScope s_law_string) (by decide +kernel)) (fun _ _ _ _ _ => (pg_name (i := 12) sc_law_string.nd rfl (Or.inl rfl))) (fun _ _ _ _ _ => pts_nil) (fun _ _ _ _ _ => (pe_tup (pa_cons (pv 12) (pa_cons (pe_op op_mul pe_int (pe_op op_mod (peMK (K := K) PySem.F.plainAttrs_list PySem.F.slot_list_index PySem.F.type_list_index (mtIndexK (K := K)) (pv 1) (pa_cons (pv 12) pa_nil)) pe_int)) pa_nil)))))
 (pss_cons (ps_set (i := 11) sc_law_string.nd rfl (Or.inl rfl) (pe_lst (pa_cons (pe_tup (pa_cons pe_str (pa_cons (pe_ix (ixLK (K := K)) (pv 1) pe_int (fun _ _ => rfl)) pa_nil))) pa_nil)))
 (pss_cons (ps_for PassesOwn.never rfl (pi_range2 rfl T.fRange (pa_cons pe_int (pa_cons (pe_callB (lenK (K := K)) (by rfl) T.fLen bt_len (pa_cons (pv 1) pa_nil)) pa_nil))) (pg_name (i := 3) sc_law_string.nd rfl (Or.inl rfl))
 (pss_one (ps_expr (peMK (K := K) PySem.F.plainAttrs_list PySem.F.slot_list_append PySem.F.type_list_append mt_append (pv 11) (pa_cons (pe_tup (pa_cons (pe_ix (ixLK (K := K)) (pe_lst (pa_cons pe_str (pa_cons pe_str pa_nil))) (pe_op op_mod (pv 3) pe_int) (fun _ _ => rfl)) (pa_cons (pe_ix (ixLK (K := K)) (pv 1) (pe_op op_sub (pv 3) pe_int) (fun _ _ => rfl)) (pa_cons (pe_ix (ixLK (K := K)) (pv 1) (pv 3) (fun _ _ => rfl)) pa_nil)))) pa_nil)))))
 (pss_one (ps_ret (pe_tup (pa_cons (pv 9) (pa_cons (pv 10) (pa_cons (pe_callB (sortTK (K := K) (d := 3) (B := 1000000000000) (by decide)) (by rfl) T.fSorted bt_sorted (pa_cons (pv 8) pa_nil)) (pa_cons (pv 11) pa_nil))))))))))))))))))))), ?_⟩
  walk_at "s"
  refine ⟨p, 40, rfl, st, by decide, by decide, fun d0 H1 a1 a2 b1 st1 _ => ?_⟩
  walk_at "s"
  obtain ⟨n, hn⟩ : ∃ n : Nat, 1 + d0 = (n : Int) := ⟨(1 + d0).toNat, by omega⟩
  rw [hn]
  refine ⟨p, n, rfl, st1, by omega, fun lo o H2 b2 st2 nlo h2 nd lenO rng => ?_⟩
  have b02 := b1.trans b2
  walk_at "s"
  refine r_new fun q H3 nq s3 h3 => ?_
  have st3 := st2.sm s3
  have b03 := b02.trans (SB.of s3)
  have nqp : q ≠ p := by
    obtain ⟨_, _, _, e, _⟩ := id st2
    exact (ne_of_none e nq).symm
  walk_at "s"
  refine ⟨p, 3, rfl, st3, by decide, by decide, fun t3 H4 a3 a4 b4 st4 _ => ?_⟩
  have b04 := b03.trans b4
  have eg : ∃ g : Int, 1 ≤ g ∧ g ≤ 1000000000 ∧ atI ([.int 1, .int 3, .int (10 ^ (9 : Int).toNat)] : List V) t3 = some (.int g) := by
    have : t3 = 0 ∨ t3 = 1 ∨ t3 = 2 := by omega
    rcases this with e | e | e <;> subst e
    · exact ⟨1, by decide, by decide, rfl⟩
    · exact ⟨3, by decide, by decide, rfl⟩
    · exact ⟨1000000000, by decide, by decide, rfl⟩
  obtain ⟨g, g1, g2, eg⟩ := eg
  refine r_ixL (SqL.of (b4 _ _ nqp h3)) eg ?_
  have h4 := b4 _ _ nlo (s3 _ _ h2)
  have lm : (o.map V.int).length = n := by rw [List.length_map]; exact lenO
  walk_at "s"
  rw [lm]
  refine k_rngS (fun i acc => ∃ am : List Int, acc = am.map V.int ∧ am.length = i ∧ ∀ a ∈ am, 2 ≤ a ∧ a ≤ 2000000000 ∧ a % 2 = 0) st4 (by omega) ⟨[], rfl, rfl, fun a h => absurd h (by simp)⟩ ?_ ?_
  · intro D i acc H' nD nDp hi sb st' hD ⟨am, eA, la, ha⟩
    walk_at "s"
    refine ⟨rfl, ?_⟩
    walk_at "s"
    refine ⟨p, g, rfl, st', g1, g2, fun dg H5 a5 a6 b5 st5 _ => ?_⟩
    walk_at "s"
    refine b_end nD nDp (sb.trans b5) st5 (b5 _ _ nDp hD) (by rw [eA, List.length_map]; omega) ⟨am ++ [2 + 2 * dg], by rw [eA, List.map_append]; rfl, by rw [List.length_append, la]; rfl, fun a ham => ?_⟩
    rcases List.mem_append.mp ham with m | m
    · exact ha a m
    · have : a = 2 + 2 * dg := by simpa using m
      omega
  · intro lam acc H5 nlam nlamp sb st5 hlam ⟨am, eA, la, ha⟩
    rw [eA] at hlam
    have b05 := b04.trans sb
    have h5 := sb _ _ nlo h4
    have lmo : am.length + 1 = o.length := by omega
    walk_at "s"
    refine r_new fun q1 H6 nq1 s6 h6 => ?_
    have hlam6 := s6 _ _ hlam
    walk_at "s"
    refine r_cat h6 hlam6 (by rw [List.length_map]; show 1 + _ ≤ _; omega) (r_new fun q2 H7 nq2 s7 h7 => ?_)
    walk_at "s"
    refine r_new fun q3 H8 nq3 s8 h8 => ?_
    walk_at "s"
    refine r_cat (s8 _ _ h7) h8 (by rw [List.length_append, List.length_map]; show 1 + _ + 1 ≤ _; omega) (r_new fun lb H9 nlb s9 h9 => ?_)
    have h9 : H9 lb = some (.lst (([0] ++ am ++ [0] : List Int).map V.int)) := by rw [h9, List.map_append, List.map_append]; rfl
    have s59 : Same H5 H9 := ((s6.trans s7).trans s8).trans s9
    have b09 := b05.trans (SB.of s59)
    have st9 := st5.sm s59
    have ho9 := s59 _ _ h5
    have hlam9 := s59 _ _ hlam
    walk_at "s"
    refine r_new fun pd H10 npd s10 hpd => ?_
    have ho10 := s10 _ _ ho9
    have st10 := st9.sm s10
    have b010 := b09.trans (SB.of s10)
    walk_at "s"
    rw [lm]
    have s910 := s10
    refine l_rng1 (fun i σ H' => ∃ (v3 v7 v8 v9 v10 v11 v12 v13 : Option V), σ = [some (.ref p), some (.ref lo), some (.int g), v3, some (.ref lam), some (.ref lb), some (.ref pd), v7, v8, v9, v10, v11, v12, v13] ∧ Same H9 H' ∧ H' pd = some (.dK (kvI (pbK (pl0 o am i))))) (by omega)
      ⟨_, _, _, _, _, _, _, _, rfl, s10, hpd⟩ (by omega) ?_ ?_
    · rintro i σ H11 hi ⟨v3, v7, v8, v9, v10, v11, v12, v13, rfl, s11, hpd11⟩
      have hb11 := s11 _ _ h9
      have ho11 := s11 _ _ ho9
      have io : (o.map V.int)[i]? = some (.int (oA o i)) := by rw [List.getElem?_map, oA_at (by omega)]; rfl
      walk_at "s"
      refine r_ixI hb11 rfl (both_at (k := i) (by omega)) ?_
      walk_at "s"
      refine r_ixI hb11 (i := i + 1) (by omega) (both_at (k := i + 1) (by omega)) ?_
      walk_at "s"
      refine r_ixI ho11 rfl io ?_
      walk_at "s"
      refine r_dputL hpd11 (sz_lt (by rw [kvI_len]; unfold pbK pl0; rw [List.length_map, List.length_map, List.length_range]; omega)) ?_
      refine ⟨_, _, _, _, _, _, _, _, rfl, sm_mut s11 npd, ?_⟩
      rw [upd_same, pl0_succ]
      congr 2
      have nk : oA o i ∉ (pl0 o am i).map (·.1) := by
        rw [pl0_keys]
        intro m
        obtain ⟨j, hj, e⟩ := List.mem_map.mp m
        have := oA_inj nd (by have := List.mem_range.mp hj; omega) (by omega) e
        have := List.mem_range.mp hj
        omega
      unfold pbK
      rw [List.map_append]
      exact kvI_put (by rw [List.map_map]; exact nk)
    · rintro σ H11 ⟨v3, v7, v8, v9, v10, v11, v12, v13, rfl, s11, hpd11⟩
      have nn : (n : Int).toNat = n := Int.toNat_natCast n
      rw [nn] at hpd11
      have ho11 := s11 _ _ ho9
      have st11 := st9.sm s11
      have b011 := b09.trans (SB.of s11)
      have i0 : (o.map V.int)[0]? = some (.int (oA o 0)) := by rw [List.getElem?_map, oA_at (by omega)]; rfl
      have hk0 : oA o 0 ∈ (pl0 o am n).map (·.1) := by rw [pl0_keys]; exact List.mem_map.mpr ⟨0, List.mem_range.mpr (by omega), rfl⟩
      have npdp : pd ≠ p := by
        obtain ⟨_, _, _, e, _⟩ := id st9
        exact (ne_of_none e npd).symm
      have nlopd : lo ≠ pd := ne_of_none ho9 npd
      walk_at "s"
      refine r_ixI ho11 (i := 0) rfl i0 ?_
      refine r_dgetL (Rd.of hpd11) (hv_some hk0) ?_
      walk_at "s"
      refine ⟨p, g, rfl, st11, g1, g2, fun ex H12 a12 c12 b12 st12 _ => ?_⟩
      have b012 := b011.trans b12
      have ho12 := b12 _ _ nlo ho11
      have hpd12 := b12 _ _ npdp hpd11
      walk_at "s"
      refine r_ixI ho12 (i := 0) rfl i0 ?_
      refine r_dputL hpd12 (sz_lt (by rw [kvI_len]; unfold pbK pl0; rw [List.length_map, List.length_map, List.length_range]; omega)) ?_
      rw [putP_put]
      obtain ⟨PL, ePL⟩ : ∃ PL, PL = putP (pl0 o am n) (oA o 0) (hv (pl0 o am n) (oA o 0) + 1 + ex) := ⟨_, rfl⟩
      rw [← ePL]
      have nH : H pd = none := by
        cases q : H pd with
        | none => rfl
        | some u =>
          have := b09 _ _ npdp q
          rw [npd] at this
          cases this
      have b013 : SB p H (upd H12 pd (.dK (kvI (pbK PL)))) := fun b u nb e => by rw [upd_ne (ne_of_none e nH)]; exact b012 _ _ nb e
      have ho13 : (upd H12 pd (.dK (kvI (pbK PL)))) lo = some (.lst (o.map V.int)) := by rw [upd_ne nlopd]; exact ho12
      have hlam13 : (upd H12 pd (.dK (kvI (pbK PL)))) lam = some (.lst (am.map V.int)) := by rw [upd_ne (ne_of_none hlam9 npd)]; exact b12 _ _ nlamp (s11 _ _ hlam9)
      have st13 : StateAt (upd H12 pd (.dK (kvI (pbK PL)))) p := let ⟨c, d, b, q, r⟩ := st12; ⟨c, d, b, by rw [upd_ne npdp.symm]; exact q, r⟩
      have hpd13 : (upd H12 pd (.dK (kvI (pbK PL)))) pd = some (.dK (kvI (pbK PL))) := upd_same
      generalize upd H12 pd (.dK (kvI (pbK PL))) = H13 at b013 ho13 hlam13 st13 hpd13 ⊢
      -- what stands in the book
      have s0 : Strg o am (1 + ex) := ⟨nd, rng, by omega, by omega, lmo, ha, by omega, by omega⟩
      have ro : (List.range o.length).map (oA o) = o := by
        refine List.ext_getElem? fun j => ?_
        rw [List.getElem?_map]
        by_cases c : j < o.length
        · rw [List.getElem?_range c, oA_at c]; rfl
        · rw [List.getElem?_eq_none (by rw [List.length_range]; omega), List.getElem?_eq_none (by omega)]; rfl
      have nd0 : ((pl0 o am n).map (·.1)).Nodup := by rw [pl0_keys, ← lenO, ro]; exact nd
      have hv0 : ∀ j, j < o.length → hv (pl0 o am n) (oA o j) = (bef (aA am) j + aA am j) / 2 := fun j hj => hv_mem (p := (oA o j, (bef (aA am) j + aA am j) / 2)) nd0 (List.mem_map.mpr ⟨j, List.mem_range.mpr (by omega), rfl⟩)
      have hvP : ∀ j, j < o.length → hv PL (oA o j) = prA am (1 + ex) j := fun j hj => by
        rw [ePL, putP_hv]
        unfold prA cap
        by_cases c : j = 0
        · subst c
          have a0 := (s0.a_all 0).2.2
          rw [if_pos rfl, if_pos rfl, hv0 0 (by omega), bef_zero]
          omega
        · rw [if_neg (fun e => c (oA_inj nd hj (by omega) e)), if_neg c, hv0 j hj, Int.add_zero]
      have inP : ∀ v ∈ o, v ∈ PL.map (·.1) := fun v hv => by
        rw [ePL, putP_keys]
        right
        rw [pl0_keys, ← lenO, ro]
        exact hv
      walk_at "s"
      refine r_sortI ho13 fun ns perm pw => r_new fun ls H14 nls s14 hls => ?_
      have ndns : ns.Nodup := perm.nodup_iff.mpr nd
      have rise : ns.Pairwise (· < ·) := by
        have := List.Pairwise.and pw ndns
        exact this.imp fun q => by have := q.1; have := q.2; omega
      have lns : ns.length = n := by rw [perm.length_eq]; exact lenO
      refine k_list (fun i acc G => ∃ us : List Addr, acc = us.map V.ref ∧ Paired (fun t r => G t = some (.tup r)) us (((ns.take i).map fun v => (v, hv PL v)).map I2)) hls (fun G => ⟨[], rfl, by simpa using Paired.nil⟩) ?_ ?_
      · intro D i v acc H' nD hx sm hD ⟨us, eA, pu⟩
        rw [List.getElem?_map] at hx
        obtain ⟨v', hv', rfl⟩ := Option.map_eq_some_iff.mp hx
        have hpd' := sm _ _ (s14 _ _ hpd13)
        have vin : v' ∈ o := perm.mem_iff.mp (List.mem_of_getElem? hv')
        walk_at "s"
        refine ⟨rfl, ?_⟩
        walk_at "s"
        refine r_dgetL (Rd.of hpd') (hv_some (inP v' vin)) ?_
        walk_at "s"
        refine r_new fun q H15 nq s15 e15 => ?_
        have hlen : acc.length ≤ 40 := by
          have q := paired_len pu
          rw [List.length_map, List.length_map, List.length_take] at q
          rw [eA, List.length_map]; omega
        refine c_end (fun i acc G D ys zs hG ⟨us, e, p⟩ => ⟨us, e, L2.Paired.mapP p fun t r h => by rw [upd_ne (ne_of h hG (fun z => by cases z))]; exact h⟩) nD (sm.trans s15) (s15 _ _ hD) (by omega) ⟨us ++ [q], by rw [eA, List.map_append]; rfl, ?_⟩
        rw [List.take_add_one, hv', List.map_append, List.map_append]
        exact paired_snoc (tab_sm s15 pu) e15
      · intro lp acc H15 nlp s15 hlp ⟨us, eA, pu⟩
        have ltn : ns.take (ns.map V.int).length = ns := List.take_of_length_le (by rw [List.length_map]; exact Nat.le_refl _)
        rw [ltn] at pu
        rw [eA] at hlp
        have tabP : Tab H15 lp ((ns.map fun v => (v, hv PL v)).map I2) := ⟨us, hlp, pu⟩
        have s315 := s14.trans s15
        walk_at "s"
        refine r_new fun dl H16 ndl s16 hdl => ?_
        have s316 := s315.trans s16
        have hlam16 := s316 _ _ hlam13
        have ho16 := s316 _ _ ho13
        have lam_l : (am.map V.int).length = am.length := List.length_map ..
        walk_at "s"
        rw [lam_l]
        refine l_rng1 (fun i σ H' => ∃ (v3 v9 v10 v11 v12 v13 : Option V), σ = [some (.ref p), some (.ref lo), some (.int g), v3, some (.ref lam), some (.ref lb), some (.ref pd), some (.ref lp), some (.ref dl), v9, v10, v11, v12, v13] ∧ Same H15 H' ∧ Tab H' dl (((List.range i).map (tieD o am)).map I3)) (by omega)
          ⟨_, _, _, _, _, _, rfl, s16, ⟨[], hdl, .nil⟩⟩ (by omega) ?_ ?_
        · rintro i σ H17 hi ⟨v3, v9, v10, v11, v12, v13, rfl, s17, ⟨rs, hdl17, pr17⟩⟩
          have ho17 := s17 _ _ (s315 _ _ ho13)
          have hl17 := s17 _ _ (s315 _ _ hlam13)
          have hi' : i < am.length := by omega
          have io : (o.map V.int)[i]? = some (.int (oA o i)) := by rw [List.getElem?_map, oA_at (by omega)]; rfl
          have io1 : (o.map V.int)[i + 1]? = some (.int (oA o (i + 1))) := by rw [List.getElem?_map, oA_at (by omega)]; rfl
          have ia : (am.map V.int)[i]? = some (.int (aA am i)) := by rw [List.getElem?_map, List.getElem?_eq_getElem hi']; unfold aA; rw [getD_at (List.getElem?_eq_getElem hi')]; rfl
          have ei : ((i : Nat) : Int) + 1 = ((i + 1 : Nat) : Int) := by omega
          have hrl : rs.length ≤ 40 := by
            have q := paired_len pr17
            rw [List.length_map, List.length_map, List.length_range] at q
            omega
          walk_at "s"
          refine r_ixI ho17 rfl io ?_
          walk_at "s"
          refine r_ixI ho17 ei io1 ?_
          walk_at "s"
          refine r_ixI ho17 rfl io ?_
          walk_at "s"
          refine r_ixI ho17 ei io1 ?_
          walk_at "s"
          refine r_ixI hl17 rfl ia ?_
          walk_at "s"
          refine r_new fun q H18 nq s18 hq => ?_
          walk_at "s"
          refine r_appendN (s18 _ _ hdl17) (by rw [List.length_map]; omega) fun H19 q19 hdl19 => ?_
          refine ⟨_, _, _, _, _, _, rfl, fun b u e => ?_, rs ++ [q], by rw [hdl19, List.map_append]; rfl, ?_⟩
          · rw [q19 b (ne_of_none e ndl)]
            exact s18 _ _ (s17 _ _ e)
          · rw [List.range_succ, List.map_append, List.map_append]
            refine paired_snoc (L2.Paired.mapP pr17 fun t r h => ?_) ?_
            · rw [q19 t (ne_of h hdl17 (fun z => by cases z))]
              exact s18 _ _ h
            · rw [q19 q (ne_of hq (s18 _ _ hdl17) (fun z => by cases z)), hq]
              rfl
        · rintro σ H17 ⟨v3, v9, v10, v11, v12, v13, rfl, s17, tabD⟩
          have na : ((am.length : Nat) : Int).toNat = am.length := Int.toNat_natCast _
          rw [na] at tabD
          have s317 := s315.trans s17
          obtain ⟨us2, hdl2, pr2'⟩ := id tabD
          have l2' := tab_len pr2'
          rw [List.length_map, List.length_range] at l2'
          walk_at "s"
          refine k_list (fun i acc G => ∃ us : List Addr, acc = us.map V.ref ∧ Paired (fun t r => G t = some (.tup r)) us (((List.range i).map (tieA o)).map I2)) hdl2 (fun G => ⟨[], rfl, .nil⟩) ?_ ?_
          · intro D i v acc H' nD hx sm hD ⟨us, eA, pu⟩
            obtain ⟨t, e, rfl, ht, hei, hrow⟩ := tab_at pr2' hx
            rw [List.getElem?_map] at hei
            obtain ⟨i', hi', ee⟩ := Option.map_eq_some_iff.mp hei
            have hil : i < am.length := by
              have := (List.getElem?_eq_some_iff.mp hi').1
              rwa [List.length_range] at this
            rw [List.getElem?_range hil] at hi'
            have hi' := Option.some.inj hi'
            subst hi'
            subst ee
            have hr' := sm _ _ hrow
            walk_at "s"
            refine ⟨rfl, ?_⟩
            walk_at "s"
            refine r_slT hr' nw32 (r_new fun q H18 nq s18 e18 => ?_)
            have hlen : acc.length ≤ 40 := by
              have q := paired_len pu
              rw [List.length_map, List.length_map, List.length_range] at q
              rw [eA, List.length_map]; omega
            refine c_end (fun i acc G D ys zs hG ⟨us, e, p⟩ => ⟨us, e, L2.Paired.mapP p fun t r h => by rw [upd_ne (ne_of h hG (fun z => by cases z))]; exact h⟩) nD (sm.trans s18) (s18 _ _ hD) (by omega) ⟨us ++ [q], by rw [eA, List.map_append]; rfl, ?_⟩
            rw [List.range_succ, List.map_append, List.map_append]
            exact paired_snoc (tab_sm s18 pu) e18
          · intro cl acc H18 ncl s18 hcl ⟨us, eA, pu⟩
            have lu2 : (us2.map V.ref).length = am.length := by rw [List.length_map]; exact l2'
            rw [lu2] at pu
            rw [eA] at hcl
            have bd3 : ∀ v ∈ o, 0 ≤ v ∧ v < 1000000000000 := fun v hv => by have := rng v hv; omega
            have bdT : ∀ k, k < am.length → 0 ≤ (tieA o k).1 ∧ (tieA o k).1 < 1000000000000 ∧ 0 ≤ (tieA o k).2 ∧ (tieA o k).2 < 1000000000000 := fun k hk => by
              have a := bd3 _ (oA_mem (o := o) (k := k) (by omega))
              have b := bd3 _ (oA_mem (o := o) (k := k + 1) (by omega))
              rcases tieA_or nd (k := k) (by omega) with ⟨_, e⟩ | ⟨_, e⟩ <;> rw [e] <;> dsimp only <;> omega
            walk_at "s"
            refine r_sortT (rows := (List.range am.length).map (tieA o)) (fun e => [e.1, e.2]) ⟨us, hcl, pu⟩ (by rw [List.length_map, List.length_range]; omega) (fun _ _ => rfl) (fun e he => ?_) fun es le H19 pe pwe s19 nle tabE => ?_
            · obtain ⟨k, hk, rfl⟩ := List.mem_map.mp he
              have b := bdT k (List.mem_range.mp hk)
              intro m hm
              have : m = (tieA o k).1 ∨ m = (tieA o k).2 := by simpa using hm
              omega
            have ndT : ((List.range am.length).map (tieA o)).Nodup := by
              unfold List.Nodup
              rw [List.pairwise_map]
              exact List.Pairwise.imp_of_mem (fun {a b} ha hb ne e => ne (tieA_inj nd (by have := List.mem_range.mp ha; omega) (by have := List.mem_range.mp hb; omega) e)) List.nodup_range
            have bdE : ∀ e ∈ es, TS.Bd 1000000000000 [e.1, e.2] := fun e he => by
              obtain ⟨k, hk, rfl⟩ := List.mem_map.mp (pe.mem_iff.mp he)
              have b := bdT k (List.mem_range.mp hk)
              intro m hm
              have : m = (tieA o k).1 ∨ m = (tieA o k).2 := by simpa using hm
              omega
            have eR : es.Pairwise lt2 := List.Pairwise.imp_of_mem (fun {a b} ha hb q => code_two (bdE a ha) (bdE b hb) q.1 q.2) (List.Pairwise.and pwe (pe.nodup_iff.mpr ndT))
            have s319 := (s317.trans s18).trans s19
            have hlp19 := tabP.sm ((s17.trans s18).trans s19)
            walk_at "s"
            refine r_new fun aw H20 naw s20 haw => ?_
            have s320 := s319.trans s20
            have ho20 := s320 _ _ ho13
            have webA : WebAt H20 aw (ns.map fun v => (v, hv PL v)) es := ⟨lp, le, haw, hlp19.sm s20, tabE.sm s20⟩
            walk_at "s"
            refine r_sortI ho20 fun ns2 perm2 pw2 => r_new fun ls2 H21 nls2 s21 hls2 => ?_
            have rise2 : ns2.Pairwise (· < ·) := by
              have := List.Pairwise.and pw2 (perm2.nodup_iff.mpr nd)
              exact this.imp fun q => by have := q.1; have := q.2; omega
            have e12 : ns2 = ns := rise_ext rise2 rise fun v => perm2.mem_iff.trans perm.mem_iff.symm
            subst e12
            refine k_list (fun i acc G => ∃ us : List Addr, acc = us.map V.ref ∧ Paired (fun t r => G t = some (.tup r)) us (((ns2.take i).map fun v => (v, 2 * ((o.idxOf v % 2 : Nat) : Int))).map I2)) hls2 (fun G => ⟨[], rfl, by simpa using Paired.nil⟩) ?_ ?_
            · intro D i v acc H' nD hx sm hD ⟨us, eA, pu⟩
              rw [List.getElem?_map] at hx
              obtain ⟨v', hv', rfl⟩ := Option.map_eq_some_iff.mp hx
              have ho' := sm _ _ (s21 _ _ ho20)
              have vin : v' ∈ o := perm.mem_iff.mp (List.mem_of_getElem? hv')
              walk_at "s"
              refine ⟨rfl, ?_⟩
              walk_at "s"
              refine r_index nd ho' vin ?_
              walk_at "s"
              have e2 : (2 : Int) * (((o.idxOf v' : Nat) : Int) % 2) = 2 * ((o.idxOf v' % 2 : Nat) : Int) := by omega
              rw [e2]
              refine r_new fun q H22 nq s22 e22 => ?_
              have hlen : acc.length ≤ 40 := by
                have q := paired_len pu
                rw [List.length_map, List.length_map, List.length_take] at q
                rw [eA, List.length_map]; omega
              refine c_end (fun i acc G D ys zs hG ⟨us, e, p⟩ => ⟨us, e, L2.Paired.mapP p fun t r h => by rw [upd_ne (ne_of h hG (fun z => by cases z))]; exact h⟩) nD (sm.trans s22) (s22 _ _ hD) (by omega) ⟨us ++ [q], by rw [eA, List.map_append]; rfl, ?_⟩
              rw [List.take_add_one, hv', List.map_append, List.map_append]
              exact paired_snoc (tab_sm s22 pu) e22
            · intro hl acc H22 nhl s22 hhl ⟨us, eA, pu⟩
              rw [ltn] at pu
              rw [eA] at hhl
              have tabH : Tab H22 hl ((halS o (ns2.map fun v => (v, hv PL v))).map I2) := by
                have e : halS o (ns2.map fun v => (v, hv PL v)) = ns2.map fun v => (v, 2 * ((o.idxOf v % 2 : Nat) : Int)) := by unfold halS; rw [List.map_map]; rfl
                rw [e]
                exact ⟨us, hhl, pu⟩
              have s2022 := s21.trans s22
              have ho22 := s2022 _ _ ho20
              have i0 : (o.map V.int)[0]? = some (.int (oA o 0)) := by rw [List.getElem?_map, oA_at (by omega)]; rfl
              walk_at "s"
              refine r_ixI ho22 (i := 0) rfl i0 ?_
              walk_at "s"
              refine r_new fun q0 H23 nq0 s23 hq0 => ?_
              walk_at "s"
              refine r_new fun ch H24 nch s24 hch => ?_
              have s2224 := s23.trans s24
              have ho24 := s2224 _ _ ho22
              walk_at "s"
              rw [lm]
              refine l_rng2 (fun i σ H' => ∃ (v3 v12 v13 : Option V), σ = [some (.ref p), some (.ref lo), some (.int g), v3, some (.ref lam), some (.ref lb), some (.ref pd), some (.ref lp), some (.ref dl), some (.ref aw), some (.ref hl), some (.ref ch), v12, v13] ∧ Same H22 H' ∧ Tab H' ch (((List.range (i + 1)).map (lkA o)).map eC)) ⟨by decide, by decide⟩ (by omega)
                ⟨_, _, _, rfl, s2224, ⟨[q0], hch, .cons (s24 _ _ hq0) .nil⟩⟩ ?_ ?_
              · rintro i σ H25 hi ⟨v3, v12, v13, rfl, s25, ⟨rs, hch25, pr25⟩⟩
                have ho25 := s25 _ _ ho22
                have hrl : rs.length ≤ 40 := by
                  have q := paired_len pr25
                  rw [List.length_map, List.length_map, List.length_range] at q
                  omega
                have ia : (o.map V.int)[i]? = some (.int (oA o i)) := by rw [List.getElem?_map, oA_at (by omega)]; rfl
                have ib : (o.map V.int)[i + 1]? = some (.int (oA o (i + 1))) := by rw [List.getElem?_map, oA_at (by omega)]; rfl
                walk_at "s"
                refine r_new fun q1' H26 nq1' s26 hq1' => ?_
                walk_at "s"
                have kd : ∃ z : PySem.Str, atI ([.str "tight", .str "beside"] : List V) ((1 + (i : Nat)) % 2) = some (.str z) ∧ eC (lkA o (i + 1)) = [.str z, .int (oA o i), .int (oA o (i + 1))] := by
                  unfold lkA
                  rw [if_neg (by omega)]
                  by_cases c : (i + 1) % 2 = 1
                  · rw [if_pos c]
                    have e : (1 + ((i : Nat) : Int)) % 2 = 1 := by omega
                    rw [e]
                    exact ⟨"beside", rfl, rfl⟩
                  · rw [if_neg c]
                    have e : (1 + ((i : Nat) : Int)) % 2 = 0 := by omega
                    rw [e]
                    exact ⟨"tight", rfl, rfl⟩
                obtain ⟨z, ez, eC'⟩ := kd
                refine r_ixL (SqL.of hq1') ez ?_
                have ho26 := s26 _ _ ho25
                walk_at "s"
                refine r_ixI ho26 (i := i) (by omega) ia ?_
                walk_at "s"
                refine r_ixI ho26 (i := i + 1) (by omega) ib ?_
                walk_at "s"
                refine r_new fun q H27 nq s27 hq => ?_
                walk_at "s"
                refine r_appendN (s27 _ _ (s26 _ _ hch25)) (by rw [List.length_map]; omega) fun H28 q28 hch28 => ?_
                have nchH : H22 ch = none := s23.free nch
                refine ⟨_, _, _, rfl, fun b u e => ?_, rs ++ [q], by rw [hch28, List.map_append]; rfl, ?_⟩
                · rw [q28 b (ne_of_none e nchH)]
                  exact s27 _ _ (s26 _ _ (s25 _ _ e))
                · rw [List.range_succ, List.map_append, List.map_append]
                  refine paired_snoc (L2.Paired.mapP pr25 fun t r h => ?_) ?_
                  · rw [q28 t (ne_of h hch25 (fun z => by cases z))]
                    exact s27 _ _ (s26 _ _ h)
                  · rw [q28 q (ne_of hq (s27 _ _ (s26 _ _ hch25)) (fun z => by cases z)), hq, eC']
              · rintro σ H25 ⟨v3, v12, v13, rfl, s25, tabC⟩
                have ec : ((n : Nat) - 1 : Int).toNat + 1 = o.length := by omega
                rw [ec] at tabC
                have tabD25 := tabD.sm (((((s18.trans s19).trans s20).trans s2022)).trans s25)
                walk_at "s"
                refine r_sortT (rows := (List.range am.length).map (tieD o am)) (fun d => [d.1, d.2.1, d.2.2]) tabD25 (by rw [List.length_map, List.length_range]; omega) (fun _ _ => rfl) (fun e he => ?_) fun ds ld H26 pds pwd s26 nld tabDs => ?_
                · obtain ⟨k, hk, rfl⟩ := List.mem_map.mp he
                  have hk := List.mem_range.mp hk
                  have b := bdT k hk
                  have a := s0.a_all k
                  intro m hm
                  have : m = (tieA o k).1 ∨ m = (tieA o k).2 ∨ m = aA am k := by simpa [tieD] using hm
                  omega
                have bdD : ∀ e ∈ ds, TS.Bd 1000000000000 [e.1, e.2.1, e.2.2] := fun e he => by
                  obtain ⟨k, hk, rfl⟩ := List.mem_map.mp (pds.mem_iff.mp he)
                  have hk := List.mem_range.mp hk
                  have b := bdT k hk
                  have a := s0.a_all k
                  intro m hm
                  have : m = (tieA o k).1 ∨ m = (tieA o k).2 ∨ m = aA am k := by simpa [tieD] using hm
                  omega
                have ndD : (ds.map pr2).Nodup := by
                  have e : ((List.range am.length).map (tieD o am)).map pr2 = (List.range am.length).map (tieA o) := by rw [List.map_map]; rfl
                  have := pds.map pr2
                  rw [e] at this
                  exact this.nodup_iff.mpr ndT
                have dR : ds.Pairwise fun a b => lt2 (a.1, a.2.1) (b.1, b.2.1) := by
                  unfold List.Nodup at ndD
                  rw [List.pairwise_map] at ndD
                  exact List.Pairwise.imp_of_mem (fun {a b} ha hb q => code_three (bdD a ha) (bdD b hb) q.1 q.2) (List.Pairwise.and pwd ndD)
                walk_at "s"
                refine r_new fun tt H27 ntt s27 htt => ?_
                have s1327 := (((s320.trans s2022).trans s25).trans s26).trans s27
                have s2027 := (((s2022.trans s25).trans s26).trans s27)
                refine k tt aw hl ld ch o am (1 + ex) (ns2.map fun v => (v, hv PL v)) es ds H27 (b013.trans (SB.of s1327)) (st13.sm s1327) htt (webA.sm s2027) (tabH.sm ((s25.trans s26).trans s27)) (tabDs.sm s27) (tabC.sm (s26.trans s27)) ⟨s0, ?_, ?_, pe, eR⟩ pds dR
                · have e : (List.range o.length).map (fun k => (oA o k, prA am (1 + ex) k)) = o.map fun v => (v, hv PL v) := by
                    conv => rhs; rw [← ro, List.map_map]
                    refine List.map_congr_left fun k hk => ?_
                    show _ = (oA o k, hv PL (oA o k))
                    rw [hvP k (List.mem_range.mp hk)]
                  rw [e]
                  exact perm.map _
                · rw [List.pairwise_map]
                  exact rise
end
end K33
set_option Elab.async false
set_option linter.all false
set_option maxRecDepth 100000
set_option maxHeartbeats 4000000
/-! L4: the bent papers. -/
namespace K33
open PySem L2
/-! one step of a reading -/
local macro_rules | `(tactic| walk_at "look") => `(tactic| first | assumption | exact upd_same | (refine Same.at' (by assumption) ?_; walk_at "look"))
local macro_rules | `(tactic| walk_at "side") => `(tactic| first | exact .inr ⟨by decide, by decide⟩ | exact .inl ⟨by decide, by decide⟩ | (show (0 : Int) < _; decide) | exact ⟨by decide, by decide⟩ | omega)
local macro_rules | `(tactic| walk_at "tt") => `(tactic| first | assumption | exact decide_eq_true (by assumption) | exact decide_eq_true rfl | (rw [decide_eq_false (by assumption)]; rfl) | rfl | exact decide_eq_true (by omega) | (rw [decide_eq_false (by omega)]; rfl))
local macro_rules | `(tactic| walk_at "ff") => `(tactic| first | assumption | exact decide_eq_false (by assumption) | (rw [decide_eq_true (by assumption)]; rfl) | (rw [decide_eq_true rfl]; rfl) | rfl | exact decide_eq_false (by omega) | (rw [decide_eq_true (by omega)]; rfl))
local macro_rules | `(tactic| walk_at "fld") => `(tactic| fail)
local macro_rules | `(tactic| walk_at "s1") => `(tactic| first
  | with_reducible refine r_seq ?_
  | with_reducible refine r_asg ?_
  | with_reducible refine r_name ?_
  | ((with_reducible refine' r_var ?hv ?_); (case hv => exact rfl))
  | with_reducible refine r_c ?_
  | with_reducible refine r_op ?_
  | with_reducible refine r_un ?_
  | with_reducible refine r_neg ?_
  | with_reducible refine r_I0 ?_
  | ((with_reducible refine' r_I ?hc ?_); (case hc => walk_at "side"))
  | with_reducible refine r_eqI ?_
  | with_reducible refine r_neI ?_
  | with_reducible refine r_eqS ?_
  | with_reducible refine r_neS ?_
  | with_reducible refine r_B ?_
  | with_reducible refine r_test ?_
  | with_reducible refine r_chain ?_
  | with_reducible refine r_and ?_
  | with_reducible refine r_or ?_
  | with_reducible refine r_not ?_
  | with_reducible refine r_andV ?_
  | with_reducible refine r_orV ?_
  | with_reducible refine r_notV ?_
  | with_reducible refine r_nil ?_
  | with_reducible refine r_cons ?_
  | with_reducible refine r_call ?_
  | with_reducible refine r_CB ?_
  | with_reducible refine r_fld ?_
  | with_reducible refine r_tup ?_
  | walk_at "fld"
  | with_reducible refine r_lst ?_
  | with_reducible refine r_if ?_
  | with_reducible refine r_drop ?_
  | with_reducible refine r_ret ?_
  | with_reducible refine r_retN ?_
  | with_reducible refine r_next ?_
  | with_reducible refine r_cont ?_
  | with_reducible refine r_bm ?_
  | with_reducible refine r_gcons ?_
  | with_reducible refine r_gnil ?_
  | with_reducible refine r_for ?_
  | with_reducible refine r_lc ?_
  | with_reducible refine r_yes ?_
  | with_reducible refine r_iEnum ?_
  | with_reducible refine r_iList ?_
  | with_reducible refine r_iTup ?_
  | with_reducible refine r_iZip ?_
  | with_reducible refine r_iRng1 ?_
  | with_reducible refine r_iRng2 ?_
  | with_reducible refine r_din ?_
  | with_reducible refine r_dnotin ?_
  | with_reducible refine r_dget ?_
  | with_reducible refine r_dget2 ?_
  | with_reducible refine r_dput ?_
  | with_reducible refine r_dnewK ?_
  | with_reducible refine r_gsub ?_
  | ((with_reducible refine' r_dinL (Rd.of ?h) ?_); (case h => walk_at "look"))
  | ((with_reducible refine' r_isD (Rd.of ?h) ?_); (case h => walk_at "look"))
  | ((with_reducible refine' r_dget2L (Rd.of ?h) ?_); (case h => walk_at "look"))
  | ((with_reducible refine' r_dgetL (Rd.of ?h) ?e ?_); (case h => walk_at "look"); (case e => first | assumption | rfl))
  | ((with_reducible refine' r_dgetL (rd_frz ?h) ?e ?_); (case h => assumption); (case e => first | assumption | rfl))
  | ((with_reducible refine' r_lt2 ?h1 ?h2 ?_); (case h1 => walk_at "look"); (case h2 => walk_at "look"))
  | with_reducible refine r_sl ?_
  | with_reducible refine r_noPart ?_
  | with_reducible refine r_part ?_
  | with_reducible refine r_exi ?_
  | ((with_reducible refine' r_tyL ?h ?_); (case h => walk_at "look"))
  | with_reducible refine r_isN ?_
  | with_reducible refine r_notN ?_
  | with_reducible refine r_isB ?_
  | with_reducible refine r_notB ?_
  | with_reducible refine r_min2' ?_
  | with_reducible refine r_max2' ?_
  | with_reducible refine r_isi (.base (.int _)) kII ?_
  | with_reducible refine r_isi (.base (.int _)) kIB ?_
  | with_reducible refine r_isi (.base (.str _)) kSS ?_
  | with_reducible refine r_isi (.base (.bl _)) kBB ?_
  | ((with_reducible refine' r_isi (.base (.tup ?h)) kTT ?_); (case h => walk_at "look"))
  | ((with_reducible refine' r_isi (.base (.lst ?h)) kLL ?_); (case h => walk_at "look"))
  | ((with_reducible refine' r_lenS (Or.inr (SqT.of ?h)) ?_); (case h => walk_at "look"))
  | ((with_reducible refine' r_lenS (Or.inl (SqL.of ?h)) ?_); (case h => walk_at "look"))
  | ((with_reducible refine' r_ixT (SqT.of ?h) ?e ?_); (case h => walk_at "look"); (case e => rfl))
  | ((with_reducible refine' r_gtup (SqT.of ?h) ?e ?_); (case h => walk_at "look"); (case e => rfl))
  | ((with_reducible refine r_tlen ?e ?_); (case e => exact Nat.le_of_ble_eq_true rfl))
  | with_reducible refine r_iteT ?_
  | with_reducible refine r_iteF ?_
  | with_reducible refine r_exb2 ?_
  | ((with_reducible refine r_iteP ?hc ?_); (case hc => walk_at "tt"))
  | ((with_reducible refine r_iteN ?hc ?_); (case hc => walk_at "ff")))
local macro_rules | `(tactic| walk_at "s") => `(tactic| repeat (walk_at "s1"))

local macro_rules | `(tactic| walk_at "side") => `(tactic| exact ⟨by decide, by decide, by decide⟩)
/-! data -/
def D3 (d : Int × Int × Int) : PyData := .tuple [.int d.1, .int d.2.1, .int d.2.2]
section
variable {K : PySem.W.Frag} {H : Hp}
theorem dpAll3 : ∀ {ts : List Addr} {ds : List (Int × Int × Int)}, Paired (fun t r => H t = some (.tup r)) ts (ds.map I3) → DpAll K H (ts.map V.ref) (ds.map D3)
  | [], [], _ => .nil
  | t :: ts, p :: ps, .cons h r => .cons (.tup (SqT.of h) (.cons (.int _) (.cons (.int _) (.cons (.int _) .nil)))) (dpAll3 r)
end
theorem d3s_lay : ∀ ds : List (Int × Int × Int), PyData.canLayAll0 (ds.map D3) = true
  | [] => by simp [PyData.canLayAll0]
  | d :: ds => by
    have h : (D3 d).canLay0 = true := by simp [D3, PyData.canLay0, PyData.canLayAll0]
    simp [PyData.canLayAll0, h, d3s_lay ds]
theorem d3s_depth : ∀ ds : List (Int × Int × Int), PyData.depthAll (ds.map D3) ≤ 2
  | [] => by simp [PyData.depthAll]
  | d :: ds => by
    have h1 := d3s_depth ds
    have h2 : (D3 d).depth ≤ 2 := by simp [D3, PyData.depth, PyData.depthAll]
    simp only [List.map_cons, PyData.depthAll]
    omega
theorem d3s_shp (ds : List (Int × Int × Int)) : SeqAt.shaped (.list (ds.map D3)) = true := shp (by simp only [PyData.canLay0]; exact d3s_lay ds) (by
  have := d3s_depth ds
  simp only [PyData.depth]
  omega)
theorem nil_shp : SeqAt.shaped (.list []) = true := shp (by simp [PyData.canLay0, PyData.canLayAll0]) (by simp [PyData.depth, PyData.depthAll])
theorem cut_to (xs : List V) (i : Nat) : cutV xs none (some (i : Int)) = xs.take i := by
  unfold cutV
  rw [HT.sIx_none, HT.sIx_nat, List.drop_zero, Nat.sub_zero]
  by_cases c : i ≤ xs.length
  · rw [Nat.min_eq_left c]
  · rw [Nat.min_eq_right (by omega), List.take_of_length_le (Nat.le_refl _), List.take_of_length_le (by omega)]
theorem cut_from (xs : List V) (i : Nat) : cutV xs (some (i : Int)) none = xs.drop i := by
  unfold cutV
  rw [HT.sIx_none, HT.sIx_nat]
  by_cases c : i ≤ xs.length
  · rw [Nat.min_eq_left c, List.take_of_length_le (by rw [List.length_drop]; exact Nat.le_refl _)]
  · rw [Nat.min_eq_right (by omega), Nat.sub_self, List.take_zero, List.drop_eq_nil_of_le (by omega)]
theorem cut_but (xs : List V) (h : 0 < xs.length) : cutV xs none (some (-1)) = xs.take (xs.length - 1) := by
  unfold cutV
  have e : HT.sIx xs.length xs.length (some (-1)) = xs.length - 1 := by
    show (if (-1 : Int) < 0 then ((-1 : Int) + (xs.length : Int)).toNat else min (-1 : Int).toNat xs.length) = _
    rw [if_pos (by decide)]
    omega
  rw [HT.sIx_none, e, List.drop_zero, Nat.sub_zero]
theorem paired_take {α β : Type} {F : α → β → Prop} : ∀ {l : List α} {m : List β} (i : Nat), Paired F l m → Paired F (l.take i) (m.take i)
  | _, _, 0, _ => .nil
  | _, _, i + 1, .nil => .nil
  | _, _, i + 1, .cons h r => .cons h (paired_take i r)
theorem paired_drop {α β : Type} {F : α → β → Prop} : ∀ {l : List α} {m : List β} (i : Nat), Paired F l m → Paired F (l.drop i) (m.drop i)
  | _, _, 0, h => h
  | _, _, i + 1, .nil => .nil
  | _, _, i + 1, .cons h r => paired_drop i r
theorem paired_app {α β : Type} {F : α → β → Prop} : ∀ {l l' : List α} {m m' : List β}, Paired F l m → Paired F l' m' → Paired F (l ++ l') (m ++ m')
  | _, _, _, _, .nil, h => h
  | _, _, _, _, .cons a r, h => .cons a (paired_app r h)
theorem r_catT {K : PySem.W.Frag} {H : Hp} {Q : VK} {a b : Addr} {xs ys : List V} (h1 : H a = some (.tup xs)) (h2 : H b = some (.tup ys)) (n1 : xs ≠ []) (n2 : ys ≠ []) (few : xs.length + ys.length ≤ 100000) (q : New H (.tup (xs ++ ys)) Q) : rCatT K (.ref a) (.ref b) H Q :=
  ⟨a, b, xs, ys, rfl, rfl, SqT.of h1, SqT.of h2, n1, sz_of few, fun z => absurd z n2, fun _ p hp => q p hp⟩
/-- a paper that lets_fixed may be asked about -/
def Pap (H : Hp) (ps es : List (Int × Int)) (t : Addr) (B : Prop) : Prop := ∃ (l m n : Addr) (hs : List (Int × Int)) (ds : List (Int × Int × Int)) (cs : List Lk), H t = some (.tup [.ref l, .ref m, .ref n]) ∧ Tab H l (hs.map I2) ∧ Shape ps hs ∧ Tab H m (ds.map I3) ∧ DuesOk ps es ds ∧ Tab H n (cs.map eC) ∧ cs.length ≤ 200 ∧
  (∀ x ∈ cs, ∀ p ∈ x.at, p ∈ ps.map (·.1)) ∧ (B ↔ ((Cover es hs ∧ dueSum ds = costOf ps hs) ∧ runOk ps es ds [] [] cs))
theorem Pap.sm {H H' : Hp} {ps es : List (Int × Int)} {t : Addr} {B : Prop} (s : Same H H') (h : Pap H ps es t B) : Pap H' ps es t B := by
  obtain ⟨l, m, n, hs, ds, cs, a, b, c, d, e, f, g⟩ := h
  exact ⟨l, m, n, hs, ds, cs, s _ _ a, b.sm s, c, d.sm s, e, f.sm s, g⟩
theorem lf_use {H : Hp} {Q : VK} {E : XK} {a t : Addr} {ps es : List (Int × Int)} {B : Prop} (web : WebAt H a ps es) (ok : WebOk ps es) (p : Pap H ps es t B) (k : ∀ b H', Same H H' → (b = true ↔ B) → Q (.bl b) H') : spLetsFixed [.ref a, .ref t] H Q E := by
  obtain ⟨l, m, n, hs, ds, cs, h1, h2, h3, h4, h5, h6, h7, h8, h9⟩ := p
  exact ⟨a, t, l, m, n, ps, es, hs, ds, cs, rfl, web, ok, h1, h2, h3, h4, h5, h6, h7, h8, fun b H' s e => k b H' s (e.trans h9.symm)⟩
/-- what the law's string leaves -/
structure LE (H : Hp) (a h d c : Addr) (o am : List Int) (x : Int) (ps es : List (Int × Int)) (ds : List (Int × Int × Int)) : Prop where
  web : WebAt H a ps es
  hal : Tab H h ((halS o ps).map I2)
  due : Tab H d (ds.map I3)
  cha : Tab H c ((chA o).map eC)
  sw : StrWeb o am x ps es
  perm : ds.Perm ((List.range am.length).map (tieD o am))
  rise : ds.Pairwise fun a b => lt2 (a.1, a.2.1) (b.1, b.2.1)
theorem LE.sb {H H' : Hp} {p a h d c : Addr} {o am : List Int} {x : Int} {ps es : List (Int × Int)} {ds : List (Int × Int × Int)} (st : StateAt H p) (s : SB p H H') (l : LE H a h d c o am x ps es ds) : LE H' a h d c o am x ps es ds :=
  ⟨l.web.sb st s, l.hal.sb st s, l.due.sb st s, l.cha.sb st s, l.sw, l.perm, l.rise⟩
theorem LE.sm {H H' : Hp} {a h d c : Addr} {o am : List Int} {x : Int} {ps es : List (Int × Int)} {ds : List (Int × Int × Int)} (s : Same H H') (l : LE H a h d c o am x ps es ds) : LE H' a h d c o am x ps es ds :=
  ⟨l.web.sm s, l.hal.sm s, l.due.sm s, l.cha.sm s, l.sw, l.perm, l.rise⟩
section
variable {H : Hp} {a h d c : Addr} {o am : List Int} {x : Int} {ps es : List (Int × Int)} {ds : List (Int × Int × Int)}
theorem LE.dd (l : LE H a h d c o am x ps es ds) : DueD o es ds (aA am) := l.sw.law_due l.perm l.rise
theorem LE.dok (l : LE H a h d c o am x ps es ds) : DuesOk ps es ds := DueD.ok l.sw l.dd (StrWeb.law_sd l.sw.s)
theorem LE.cost (l : LE H a h d c o am x ps es ds) : dueSum ds = costOf ps (halS o ps) := DueD.cost l.sw l.dd (StrWeb.law_sd l.sw.s)
theorem LE.at_ (l : LE H a h d c o am x ps es ds) : ∀ y ∈ chA o, ∀ p ∈ y.at, p ∈ ps.map (·.1) := fun y hy p hp => (l.sw.keys p).mpr (chA_at_mem o y hy p hp)
end
section
variable {P : Program} {w : World} {K : PySem.W.Frag} {mg : Str → Option Value} {base : Heap}
def spBent : Sp := fun vs H Q _ => ∃ (p a h d c : Addr) (o am : List Int) (x : Int) (ps es : List (Int × Int)) (ds : List (Int × Int × Int)), vs = [.ref p, .ref a, .ref h, .ref d, .ref c] ∧ StateAt H p ∧ LE H a h d c o am x ps es ds ∧ ∀ H', SB p H H' → StateAt H' p → Q (.bl true) H'
theorem ok_bent {f : Addr} {fd : FuncData} (F : Fun K "_law_bent_right" "_law_bent_right" s_law_bent_right f fd) (T : Txt K mg) (C_law_take : Can P w K mg base 1 "_law_take" ["_law_state", "_law_many"] spTakeN) (C_lets_fixed : Can P w K mg base 6 "lets_fixed" ["web", "thing"] spLetsFixed) (C_law_own : Can P w K mg base 1 "_law_own" ["_law_web"] spOwn) :
    FnOk P w K mg base CX0 7 f fd ["_law_state", "_law_web", "_law_halves", "_law_dues", "_law_chain"] spBent := by
  refine F.ok sc_law_bent_right (fun vs H Q E h => ?_) (fun cdv A outer s H vs Q E hr h => ?_)
  · obtain ⟨p, a, h, d, c, o, am, x, ps, es, ds, rfl, _⟩ := h; rfl
  obtain ⟨p, a, h, d, c, o, am, x, ps, es, ds, rfl, st, le, k⟩ := h
  have sw := le.sw
  have s0 := sw.s
  have lam := s0.lam
  have l40 := s0.len
  have ldm : ds.length = am.length := by have := le.perm.length_eq; rwa [List.length_map, List.length_range] at this
  refine ⟨_, (pss_cons (ps_if (pt_cmpR (eqDK (K := K) hr.units) (pv 3) (pe_lst pa_nil) (nomark _))
 (pss_one (ps_ret pe_bl))
 pss_nil)
 (pss_cons (ps_setLc (i := 5) (own := [("_law_one", 12)]) rfl sc_law_bent_right.nd rfl rfl (sw_true rfl rfl rfl (by decide +kernel)) (piLK (K := K) (pv 4)) (blkOk_by (own := [("_law_one", 12)]) (N := ["_law_state", "_law_web", "_law_halves", "_law_dues", "_law_chain", "_law_order_here", "_law_other", "_law_at", "_law_less", "_law_papers", "_law_tie", "_law_more", "_law_one", "_law_paper"]) (sc := defScope s_law_bent_right) (by decide +kernel)) (fun _ _ _ _ _ => (pg_name (i := 12) sc_law_bent_right.nd rfl (Or.inl rfl))) (fun _ _ _ _ _ => pts_nil) (fun _ _ _ _ _ => (pe_ix (ixTK (K := K)) (pv 12) (pe_un un_neg pe_int) (fun _ _ => rfl))))
 (pss_cons (ps_set (i := 6) sc_law_bent_right.nd rfl (Or.inl rfl) (pe_tup (pa_cons pe_str (pa_cons (pe_ix (ixLK (K := K)) (pv 5) (pe_op op_add pe_int (pc_can C_law_take (hr.mono (by decide)) rfl (pa_cons (pv 0) (pa_cons (pe_op op_sub (pe_callB (lenK (K := K)) (by rfl) T.fLen bt_len (pa_cons (pv 5) pa_nil)) pe_int) pa_nil)))) (fun _ _ => rfl)) pa_nil))))
 (pss_cons (ps_set (i := 7) sc_law_bent_right.nd rfl (Or.inl rfl) (pc_can C_law_take (hr.mono (by decide)) rfl (pa_cons (pv 0) (pa_cons (pe_callB (lenK (K := K)) (by rfl) T.fLen bt_len (pa_cons (pv 3) pa_nil)) pa_nil))))
 (pss_cons (ps_set (i := 8) sc_law_bent_right.nd rfl (Or.inl rfl) (pe_op (catTK (K := K)) (pe_slice (slTK (K := K)) (pe_ix (ixLK (K := K)) (pv 3) (pv 7) (fun _ _ => rfl)) po_none (po_some pe_int)) (pe_tup (pa_cons (pe_op op_sub (pe_ix (ixTK (K := K)) (pe_ix (ixLK (K := K)) (pv 3) (pv 7) (fun _ _ => rfl)) pe_int (fun _ _ => rfl)) pe_int) pa_nil))))
 (pss_cons (ps_set (i := 9) sc_law_bent_right.nd rfl (Or.inl rfl) (pe_lst (pa_cons (pe_tup (pa_cons (pv 2) (pa_cons (pv 3) (pa_cons (pe_op op_cat (pe_lst (pa_cons (pv 6) pa_nil)) (pe_slice (slLK (K := K)) (pv 4) (po_some pe_int) po_none)) pa_nil)))) (pa_cons (pe_tup (pa_cons (pv 2) (pa_cons (pv 3) (pa_cons (pe_op op_cat (pv 4) (pe_lst (pa_cons (pv 6) pa_nil))) pa_nil)))) pa_nil))))
 (pss_cons (ps_expr (peMK (K := K) PySem.F.plainAttrs_list PySem.F.slot_list_append PySem.F.type_list_append mt_append (pv 9) (pa_cons (pe_tup (pa_cons (pv 2) (pa_cons (pe_op op_cat (pe_op op_cat (pe_slice (slLK (K := K)) (pv 3) po_none (po_some (pv 7))) (pe_lst (pa_cons (pv 8) pa_nil))) (pe_slice (slLK (K := K)) (pv 3) (po_some (pe_op op_add (pv 7) pe_int)) po_none)) (pa_cons (pv 4) pa_nil)))) pa_nil)))
 (pss_cons (ps_expr (peMK (K := K) PySem.F.plainAttrs_list PySem.F.slot_list_append PySem.F.type_list_append mt_append (pv 9) (pa_cons (pe_tup (pa_cons (pv 2) (pa_cons (pe_op op_cat (pe_slice (slLK (K := K)) (pv 3) po_none (po_some (pv 7))) (pe_slice (slLK (K := K)) (pv 3) (po_some (pe_op op_add (pv 7) pe_int)) po_none)) (pa_cons (pv 4) pa_nil)))) pa_nil)))
 (pss_cons (ps_expr (peMK (K := K) PySem.F.plainAttrs_list PySem.F.slot_list_append PySem.F.type_list_append mt_append (pv 9) (pa_cons (pe_tup (pa_cons (pe_op op_cat (pe_slice (slLK (K := K)) (pv 2) po_none (po_some (pe_un un_neg pe_int))) (pe_lst (pa_cons (pe_tup (pa_cons (pe_ix (ixTK (K := K)) (pe_ix (ixLK (K := K)) (pv 2) (pe_un un_neg pe_int) (fun _ _ => rfl)) pe_int (fun _ _ => rfl)) (pa_cons pe_int pa_nil))) pa_nil))) (pa_cons (pv 3) (pa_cons (pv 4) pa_nil)))) pa_nil)))
 (pss_cons (ps_if (pt_cmpR (neDK (K := K) hr.units) (pe_lc (own := [("_law_paper", 13)]) rfl sc_law_bent_right.nd (piLK (K := K) (pv 9)) (blkOk_by (own := [("_law_paper", 13)]) (N := ["_law_state", "_law_web", "_law_halves", "_law_dues", "_law_chain", "_law_order_here", "_law_other", "_law_at", "_law_less", "_law_papers", "_law_tie", "_law_more", "_law_one", "_law_paper"]) (sc := defScope s_law_bent_right) (by decide +kernel)) (fun _ _ _ _ _ => (pg_name (i := 13) sc_law_bent_right.nd rfl (Or.inl rfl))) (fun _ _ _ _ _ => (pts_one (pt_cmpR op_notBl (pc_can C_lets_fixed (hr.mono (by decide)) rfl (pa_cons (pc_can C_law_own (hr.mono (by decide)) rfl (pa_cons (pv 1) pa_nil)) (pa_cons (pv 13) pa_nil))) pe_bl (nomark _)))) (fun _ _ _ _ _ => (pv 13))) (pe_lst pa_nil) (nomark _))
 (pss_one (ps_ret pe_bl))
 pss_nil)
 (pss_cons (ps_if (pt_cmpR op_lt (pe_callB (lenK (K := K)) (by rfl) T.fLen bt_len (pa_cons (pv 5) pa_nil)) pe_int (nomark _))
 (pss_one (ps_ret pe_bl))
 pss_nil)
 (pss_cons (ps_set (i := 10) sc_law_bent_right.nd rfl (Or.inl rfl) (pe_tup (pa_cons (pe_callB (min2 rfl) (by rfl) T.fMin bt_min (pa_cons (pe_ix (ixLK (K := K)) (pv 5) pe_int (fun _ _ => rfl)) (pa_cons (pe_ix (ixLK (K := K)) (pv 5) pe_int (fun _ _ => rfl)) pa_nil))) (pa_cons (pe_callB (max2 rfl) (by rfl) T.fMax bt_max (pa_cons (pe_ix (ixLK (K := K)) (pv 5) pe_int (fun _ _ => rfl)) (pa_cons (pe_ix (ixLK (K := K)) (pv 5) pe_int (fun _ _ => rfl)) pa_nil))) pa_nil))))
 (pss_cons (ps_set (i := 11) sc_law_bent_right.nd rfl (Or.inl rfl) (pe_tup (pa_cons (pe_ix (ixTK (K := K)) (pv 1) pe_int (fun _ _ => rfl)) (pa_cons (pe_callB (sortTK (K := K) (d := 2) (B := 1000000000000) (by decide)) (by rfl) T.fSorted bt_sorted (pa_cons (pe_op op_cat (pe_ix (ixTK (K := K)) (pv 1) pe_int (fun _ _ => rfl)) (pe_lst (pa_cons (pv 10) pa_nil))) pa_nil)) pa_nil))))
 (pss_cons (ps_if (pt_cmpR op_notBl (pc_can C_lets_fixed (hr.mono (by decide)) rfl (pa_cons (pv 11) (pa_cons (pe_tup (pa_cons (pv 2) (pa_cons (pv 3) (pa_cons (pv 4) pa_nil)))) pa_nil))) pe_bl (nomark _))
 (pss_one (ps_ret pe_bl))
 pss_nil)
 (pss_one (ps_ret (pe_cmpR op_isBl (pc_can C_lets_fixed (hr.mono (by decide)) rfl (pa_cons (pv 11) (pa_cons (pe_tup (pa_cons (pv 2) (pa_cons (pv 3) (pa_cons (pe_op op_cat (pv 4) (pe_lst (pa_cons (pe_tup (pa_cons pe_str (pa_cons (pe_ix (ixLK (K := K)) (pv 5) pe_int (fun _ _ => rfl)) (pa_cons (pe_ix (ixLK (K := K)) (pv 5) pe_int (fun _ _ => rfl)) pa_nil)))) pa_nil))) pa_nil)))) pa_nil))) pe_bl (nomark _)))))))))))))))))), ?_⟩
  walk_at "s"
  refine r_new fun q0 H1 nq0 s1 h1 => ?_
  have le1 := le.sm s1
  refine ⟨.list (ds.map D3), .list [], ?_, .lst (SqL.of h1) .nil, d3s_shp ds, nil_shp, ?_⟩
  · obtain ⟨ts, hl, pr⟩ := le1.due
    exact .lst (SqL.of hl) (dpAll3 pr)
  by_cases c0 : ds = []
  · subst c0
    have e : PyData.eqv (.list (([] : List (Int × Int × Int)).map D3)) (.list []) = true := by simp [PyData.eqv, PyData.eqvAll]
    rw [e]
    walk_at "s"
    exact k H1 (SB.of s1) (st.sm s1)
  · have e : PyData.eqv (.list (ds.map D3)) (.list []) = false := by
      cases ds with
      | nil => exact absurd rfl c0
      | cons z zs => simp [PyData.eqv, PyData.eqvAll]
    rw [e]
    have dl : 0 < ds.length := List.length_pos_iff.mpr c0
    obtain ⟨cts, hc1, prc⟩ := le1.cha
    have lc := tab_len prc
    rw [chA_len] at lc
    walk_at "s"
    refine k_list (fun i acc G => acc = (o.take i).map V.int) hc1 (fun _ => rfl) ?_ ?_
    · intro D i v acc H' nD hx sm hD eA
      obtain ⟨t, y, rfl, ht, hyi, hrow⟩ := tab_at prc hx
      have hi : i < o.length := by have := (List.getElem?_eq_some_iff.mp hyi).1; rwa [chA_len] at this
      rw [chA_at o hi] at hyi
      cases hyi
      have hr' := sm _ _ hrow
      walk_at "s"
      refine ⟨rfl, ?_⟩
      walk_at "s"
      refine r_ixT (SqT.of hr') (eC_last _) ?_
      rw [lkA_last]
      refine c_end (fun _ _ _ _ _ _ _ h => h) nD sm hD (by rw [eA, List.length_map, List.length_take]; omega) ?_
      rw [eA, List.take_add_one, oA_at hi, List.map_append]
      rfl
    · intro lo acc H2 nlo s2 hlo eA
      rw [List.length_map, lc, List.take_of_length_le (Nat.le_refl _)] at eA
      rw [eA] at hlo
      have lm : (o.map V.int).length = o.length := List.length_map ..
      have st2 := (st.sm s1).sm s2
      have s02 := s1.trans s2
      have nlop : lo ≠ p := by
        obtain ⟨_, _, _, e, _⟩ := id (st.sm s1)
        exact (ne_of_none e nlo).symm
      walk_at "s"
      rw [lm]
      refine ⟨p, _, rfl, st2, by omega, by omega, fun t3 H3 a3 b3 sb3 st3 _ => ?_⟩
      obtain ⟨j3, hj3⟩ : ∃ j : Nat, 1 + t3 = (j : Int) := ⟨(1 + t3).toNat, by omega⟩
      have hlo3 := sb3 _ _ nlop hlo
      have b03 : SB p H H3 := (SB.of s02).trans sb3
      walk_at "s"
      refine r_ixI hlo3 hj3 (by rw [List.getElem?_map, oA_at (k := j3) (by omega)]; rfl) ?_
      walk_at "s"
      refine r_new fun ot H4 not_ s4 hot => ?_
      have le4 := (le.sb st b03).sm s4
      have st4 := st3.sm s4
      obtain ⟨dts, hd4, prd⟩ := le4.due
      have lds := tab_len prd
      have ldt : (dts.map V.ref).length = ds.length := by rw [List.length_map]; exact lds
      walk_at "s"
      rw [ldt]
      refine ⟨p, _, rfl, st4, by omega, by omega, fun t5 H5 a5 b5 sb5 st5 _ => ?_⟩
      obtain ⟨i, hi⟩ : ∃ j : Nat, t5 = (j : Int) := ⟨t5.toNat, by omega⟩
      subst hi
      have il : i < ds.length := by omega
      have b05 := (b03.trans (SB.of s4)).trans sb5
      have le5 := le4.sb st4 sb5
      walk_at "s"
      obtain ⟨hts, hh5, prh⟩ := id le5.hal
      obtain ⟨dts5, hd5, prd5⟩ := id le5.due
      obtain ⟨cts5, hc5, prc5⟩ := id le5.cha
      have lh5 := tab_len prh
      have ld5 := tab_len prd5
      have lc5 := tab_len prc5
      rw [chA_len] at lc5
      have lhS : (halS o ps).length = ps.length := by unfold halS; rw [List.length_map]
      have lpo := sw.lenP
      have hot5 := sb5 _ _ (by
        obtain ⟨_, _, _, e, _⟩ := id st4
        exact ne_of hot e (fun z => by cases z)) hot
      have di : ds[i]? = some ds[i] := List.getElem?_eq_getElem il
      have gi : (dts5.map V.ref)[i]? = some (.ref (dts5[i]'(by omega))) := by rw [List.getElem?_map, List.getElem?_eq_getElem (by omega)]; rfl
      obtain ⟨dt, dd, edt, hdt, hdi, hrow⟩ := tab_at prd5 gi
      rw [edt] at gi
      rw [di] at hdi
      have hdi := Option.some.inj hdi
      subst hdi
      have two := law_two sw le.perm _ (List.getElem_mem il)
      refine r_ixI hd5 rfl gi ?_
      walk_at "s"
      refine r_slT hrow nw32 (r_new fun q6 H6 nq6 s6 h6 => ?_)
      have hd6 := s6 _ _ hd5
      have hrow6 : H6 dt = some (.tup [.int ds[i].1, .int ds[i].2.1, .int ds[i].2.2]) := s6 _ _ hrow
      walk_at "s"
      refine r_ixI hd6 rfl gi ?_
      walk_at "s"
      refine r_new fun q7 H7 nq7 s7 h7 => ?_
      refine r_catT (xs := [.int ds[i].1, .int ds[i].2.1]) (ys := [.int (ds[i].2.2 - 1)]) (s7 _ _ h6) h7 (by simp) (by simp) (show 2 + 1 ≤ 100000 by decide) (r_new fun lt H8 nlt s8 hlt => ?_)
      have hlt : H8 lt = some (.tup (I3 (less ds[i]))) := hlt
      have s58 := (s6.trans s7).trans s8
      walk_at "s"
      refine r_new fun o1 H9 no1 s9 ho1 => ?_
      have s59 := s58.trans s9
      have hc9 := s59 _ _ hc5
      walk_at "s"
      refine r_slL hc9 (r_new fun sl H10 nsl s10 hsl => ?_)
      rw [show (1 : Int) = ((1 : Nat) : Int) from rfl, cut_from] at hsl
      walk_at "s"
      refine r_cat (s10 _ _ ho1) hsl (by rw [List.length_drop, List.length_map]; show 1 + _ ≤ _; omega) (r_new fun c1 H11 nc1 s11 hc1' => ?_)
      walk_at "s"
      refine r_new fun t1 H12 nt1 s12 ht1 => ?_
      walk_at "s"
      refine r_new fun o2 H13 no2 s13 ho2 => ?_
      have s511 := (s59.trans s10).trans s11
      have s513 := (s511.trans s12).trans s13
      have hc13 := s513 _ _ hc5
      walk_at "s"
      refine r_cat hc13 ho2 (by rw [List.length_map]; show _ + 1 ≤ _; omega) (r_new fun c2 H14 nc2 s14 hc2 => ?_)
      walk_at "s"
      refine r_new fun t2 H15 nt2 s15 ht2 => ?_
      walk_at "s"
      refine r_new fun pl H16 npl s16 hpl => ?_
      have s516 := ((s513.trans s14).trans s15).trans s16
      have hd16 := s516 _ _ hd5
      have hc16 := s516 _ _ hc5
      have hh16 := s516 _ _ hh5
      walk_at "s"
      refine r_slL hd16 (r_new fun d1 H17 nd1 s17 hd1 => ?_)
      rw [cut_to] at hd1
      walk_at "s"
      refine r_new fun d2 H18 nd2 s18 hd2 => ?_
      walk_at "s"
      refine r_cat (s18 _ _ hd1) hd2 (by rw [List.length_take, List.length_map]; show _ + 1 ≤ _; omega) (r_new fun d3 H19 nd3 s19 hd3 => ?_)
      have s1619 := (s17.trans s18).trans s19
      have hd19 := s1619 _ _ hd16
      have ei : ((i : Nat) : Int) + 1 = ((i + 1 : Nat) : Int) := by omega
      walk_at "s"
      refine r_slL hd19 (r_new fun d4 H20 nd4 s20 hd4 => ?_)
      rw [ei, cut_from] at hd4
      walk_at "s"
      refine r_cat (s20 _ _ hd3) hd4 (by rw [List.length_append, List.length_take, List.length_drop, List.length_map]; show _ + 1 + _ ≤ _; omega) (r_new fun d5 H21 nd5 s21 hd5' => ?_)
      walk_at "s"
      refine r_new fun t3' H22 nt3 s22 ht3 => ?_
      have s1622 := ((s1619.trans s20).trans s21).trans s22
      walk_at "s"
      refine r_appendN (s1622 _ _ hpl) (show 2 < 100000 by decide) fun H23 q23 hpl23 => ?_
      have npl5 : H5 pl = none := ((s513.trans s14).trans s15).free npl
      have s523 : Same H5 H23 := fun b u e => by
        rw [q23 b (ne_of_none e npl5)]
        exact (s516.trans s1622) _ _ e
      have k23 : ∀ b u, b ≠ pl → H22 b = some u → H23 b = some u := fun b u n e => by rw [q23 b n]; exact e
      have hd23 := s523 _ _ hd5
      have hc23 := s523 _ _ hc5
      have hh23 := s523 _ _ hh5
      walk_at "s"
      refine r_slL hd23 (r_new fun e1 H24 ne1 s24 he1 => ?_)
      rw [cut_to] at he1
      have hd24 := s24 _ _ hd23
      walk_at "s"
      refine r_slL hd24 (r_new fun e2 H25 ne2 s25 he2 => ?_)
      rw [ei, cut_from] at he2
      walk_at "s"
      refine r_cat (s25 _ _ he1) he2 (by rw [List.length_take, List.length_drop, List.length_map]; omega) (r_new fun e3 H26 ne3 s26 he3 => ?_)
      walk_at "s"
      refine r_new fun t4 H27 nt4 s27 ht4 => ?_
      have s2327 := ((s24.trans s25).trans s26).trans s27
      walk_at "s"
      refine r_appendN (s2327 _ _ hpl23) (show 3 < 100000 by decide) fun H28 q28 hpl28 => ?_
      have k28 : ∀ b u, b ≠ pl → H27 b = some u → H28 b = some u := fun b u n e => by rw [q28 b n]; exact e
      have s528 : Same H5 H28 := fun b u e => k28 _ _ (ne_of_none e npl5) (s2327 _ _ (s523 _ _ e))
      have hh28 := s528 _ _ hh5
      have hlen : 0 < hts.length := by omega
      have gl : hts[hts.length - 1]? = some (hts[hts.length - 1]'(by omega)) := List.getElem?_eq_getElem (by omega)
      have gh : (hts.map V.ref)[hts.length - 1]? = some (.ref (hts[hts.length - 1]'(by omega))) := by rw [List.getElem?_map, gl]; rfl
      obtain ⟨gt, g, egt, hgt, hgi, hgrow⟩ := tab_at prh gh
      have esp : hts.map V.ref = (hts.map V.ref).take (hts.length - 1) ++ [.ref gt] := by
        have q := split_at gh
        rw [List.drop_eq_nil_of_le (by rw [List.length_map]; omega), egt] at q
        exact q
      have eS : halS o ps = (halS o ps).take (hts.length - 1) ++ [g] := by
        have q := split_at hgi
        rw [List.drop_eq_nil_of_le (by omega)] at q
        exact q
      walk_at "s"
      refine r_slL hh28 (r_new fun h1' H29 nh1 s29 hh1 => ?_)
      rw [cut_but _ (by rw [List.length_map]; exact hlen), List.length_map] at hh1
      have hh29 := s29 _ _ hh28
      have hg29 : H29 gt = some (.tup [.int g.1, .int g.2]) := s29 _ _ (s528 _ _ hgrow)
      walk_at "s"
      refine r_ixL (SqL.of hh29) (by rw [esp]; exact atI_last _ _) ?_
      walk_at "s"
      refine r_new fun g1' H30 ng1 s30 hg1 => ?_
      walk_at "s"
      refine r_new fun h2' H31 nh2 s31 hh2 => ?_
      walk_at "s"
      refine r_cat (s31 _ _ (s30 _ _ hh1)) hh2 (by rw [List.length_take, List.length_map]; show _ + 1 ≤ _; omega) (r_new fun h3' H32 nh3 s32 hh3 => ?_)
      walk_at "s"
      refine r_new fun t5' H33 nt5 s33 ht5 => ?_
      have s2833 := (((s29.trans s30).trans s31).trans s32).trans s33
      walk_at "s"
      refine r_appendN (s2833 _ _ hpl28) (show 4 < 100000 by decide) fun H34 q34 hpl34 => ?_
      have k34 : ∀ b u, b ≠ pl → H33 b = some u → H34 b = some u := fun b u n e => by rw [q34 b n]; exact e
      have s534 : Same H5 H34 := fun b u e => k34 _ _ (ne_of_none e npl5) (s2833 _ _ (s528 _ _ e))
      have le34 := le5.sm s534
      have m15 : Same H15 H34 := fun b u e => have n := ne_of_none e npl; k34 _ _ n (s2833 _ _ (k28 _ _ n (s2327 _ _ (k23 _ _ n (s1622 _ _ (s16 _ _ e))))))
      have m22 : ∀ b u, b ≠ pl → H22 b = some u → H34 b = some u := fun b u n e => k34 _ _ n (s2833 _ _ (k28 _ _ n (s2327 _ _ (k23 _ _ n e))))
      have m27 : ∀ b u, b ≠ pl → H27 b = some u → H34 b = some u := fun b u n e => k34 _ _ n (s2833 _ _ (k28 _ _ n e))
      have dok := le.dok
      have cost := le.cost
      have shape := sw.shape
      have lce : (chA o).length = o.length := chA_len o
      have lo_in : oA o j3 ∈ ps.map (·.1) := (sw.keys _).mpr (oA_mem (by omega))
      have nol : ∀ {I O : List Int}, ¬ okL ps es ds I O (.loose (oA o j3)) := sw.no_loose le.dd (by omega) (by omega)
      have hot34 := s534 _ _ hot5
      have p1 : Pap H34 ps es t1 False := by
        refine ⟨h, d, c1, halS o ps, ds, .loose (oA o j3) :: (chA o).drop 1, m15 _ _ ((s13.trans (s14.trans s15)) _ _ ht1), le34.hal, shape, le34.due, dok, ⟨ot :: cts5.drop 1, ?_, .cons hot34 ?_⟩, ?_, fun y hy q hq => ?_, ⟨False.elim, fun z => nol z.2.1⟩⟩
        · have := m15 _ _ ((s12.trans (s13.trans (s14.trans s15))) _ _ hc1')
          rw [this, ← List.map_drop]; rfl
        · rw [List.map_drop]
          exact paired_drop 1 (tab_sm s534 prc5)
        · rw [List.length_cons, List.length_drop]; omega
        · rcases List.mem_cons.mp hy with e | e
          · subst e
            have : q = oA o j3 := by simpa [Lk.at] using hq
            rw [this]; exact lo_in
          · exact le.at_ y (List.mem_of_mem_drop e) q hq
      have p2 : Pap H34 ps es t2 False := by
        refine ⟨h, d, c2, halS o ps, ds, chA o ++ [.loose (oA o j3)], m15 _ _ ht2, le34.hal, shape, le34.due, dok, ⟨cts5 ++ [ot], ?_, ?_⟩, ?_, fun y hy q hq => ?_, ⟨False.elim, fun z => nol (runOk_snoc.mp z.2).2⟩⟩
        · rw [m15 _ _ (s15 _ _ hc2), List.map_append]; rfl
        · rw [List.map_append]
          exact paired_snoc (tab_sm s534 prc5) hot34
        · rw [List.length_append]; show _ + 1 ≤ 200; omega
        · rcases List.mem_append.mp hy with e | e
          · exact le.at_ y e q hq
          · have : y = .loose (oA o j3) := by simpa using e
            subst this
            have : q = oA o j3 := by simpa [Lk.at] using hq
            rw [this]; exact lo_in
      have p3 : Pap H34 ps es t3' False := by
        obtain ⟨x1, x2⟩ := bent_less di dok two
        have nd5p : d5 ≠ pl := (ne_of_none ((s1619.trans s20) _ _ hpl) nd5).symm
        have nt3p : t3' ≠ pl := (ne_of_none ((((s1619.trans s20).trans s21)) _ _ hpl) nt3).symm
        refine ⟨h, d5, c, halS o ps, _, chA o, m22 _ _ nt3p ht3, le34.hal, shape, ⟨dts5.take i ++ [lt] ++ dts5.drop (i + 1), ?_, ?_⟩, x1, le34.cha, by omega, le.at_, ⟨False.elim, fun z => ?_⟩⟩
        · rw [m22 _ _ nd5p (s22 _ _ hd5'), List.map_append, List.map_append, List.map_take, List.map_drop]; rfl
        · rw [List.map_append, List.map_append, List.map_take, List.map_drop]
          refine paired_app (paired_app (paired_take i (tab_sm s534 prd5)) (.cons ?_ .nil)) (paired_drop (i + 1) (tab_sm s534 prd5))
          exact m15 _ _ ((((((s9.trans s10).trans s11).trans s12).trans s13).trans s14).trans s15 _ _ hlt)
        · have := z.1.2
          omega
      have p4 : Pap H34 ps es t4 False := by
        obtain ⟨x1, x2⟩ := bent_without di dok
        have ne3 : e3 ≠ pl := (ne_of_none ((s24.trans s25) _ _ hpl23) ne3).symm
        have nt4p : t4 ≠ pl := (ne_of_none (((s24.trans s25).trans s26) _ _ hpl23) nt4).symm
        refine ⟨h, e3, c, halS o ps, _, chA o, m27 _ _ nt4p ht4, le34.hal, shape, ⟨dts5.take i ++ dts5.drop (i + 1), ?_, ?_⟩, x1, le34.cha, by omega, le.at_, ⟨False.elim, fun z => ?_⟩⟩
        · rw [m27 _ _ ne3 (s27 _ _ he3), List.map_append, List.map_take, List.map_drop]
        · rw [List.map_append, List.map_take, List.map_drop]
          exact paired_app (paired_take i (tab_sm s534 prd5)) (paired_drop (i + 1) (tab_sm s534 prd5))
        · have := z.1.2
          omega
      have p5 : Pap H34 ps es t5' False := by
        obtain ⟨x1, x2⟩ := bent_half sw eS
        have nh3p : h3' ≠ pl := (ne_of_none (((s29.trans s30).trans s31) _ _ hpl28) nh3).symm
        have nt5p : t5' ≠ pl := (ne_of_none ((((s29.trans s30).trans s31).trans s32) _ _ hpl28) nt5).symm
        have ng1p : g1' ≠ pl := (ne_of_none (s29 _ _ hpl28) ng1).symm
        refine ⟨h3', d, c, _, ds, chA o, k34 _ _ nt5p ht5, ⟨hts.take (hts.length - 1) ++ [g1'], ?_, ?_⟩, x1, le34.due, dok, le34.cha, by omega, le.at_, ⟨False.elim, fun z => ?_⟩⟩
        · rw [k34 _ _ nh3p (s33 _ _ hh3), List.map_append, List.map_take]; rfl
        · rw [List.map_append, List.map_take]
          exact paired_app (paired_take _ (tab_sm s534 prh)) (.cons (k34 _ _ ng1p (((s31.trans s32).trans s33) _ _ hg1)) .nil)
        · exact x2 (z.1.2.symm.trans cost)
      have allp : ∀ t ∈ [t1, t2, t3', t4, t5'], Pap H34 ps es t False := by
        intro t ht
        simp only [List.mem_cons, List.not_mem_nil, or_false] at ht
        rcases ht with e | e | e | e | e <;> subst e <;> assumption
      have hpl34 : H34 pl = some (.lst ([t1, t2, t3', t4, t5'].map V.ref)) := hpl34
      walk_at "s"
      refine k_list (fun i acc G => acc = []) hpl34 (fun _ => rfl) ?_ ?_
      · intro D i' v acc H' nD hx sm hD eA
        rw [List.getElem?_map] at hx
        obtain ⟨t, ht, rfl⟩ := Option.map_eq_some_iff.mp hx
        have pt := (allp t (List.mem_of_getElem? ht)).sm sm
        have le' := le34.sm sm
        walk_at "s"
        refine ⟨rfl, ?_⟩
        walk_at "s"
        refine ⟨a, ps, es, rfl, le'.web, fun a2 H'' s'' web2 => ?_⟩
        walk_at "s"
        refine lf_use web2 sw.ok (pt.sm s'') fun b H3' s3' eb => ?_
        have bf : b = false := by
          cases b with
          | false => rfl
          | true => exact (eb.mp rfl).elim
        subst bf
        walk_at "s"
        exact c_skip nD ((sm.trans s'').trans s3') (s3' _ _ (s'' _ _ hD)) eA
      · intro D acc H35 nD s35 hD eA
        rw [eA] at hD
        walk_at "s"
        refine r_new fun z0 H36 nz0 s36 hz0 => ?_
        refine ⟨.list [], .list [], .lst (SqL.of (s36 _ _ hD)) .nil, .lst (SqL.of hz0) .nil, nil_shp, nil_shp, ?_⟩
        have e00 : PyData.eqv (.list []) (.list []) = true := by simp [PyData.eqv, PyData.eqvAll]
        rw [e00]
        have s536 := (s534.trans s35).trans s36
        have hlo36 := s536 _ _ (sb5 _ _ nlop (s4 _ _ hlo3))
        have le36 := le5.sm s536
        have st36 := st5.sm s536
        have b036 := b05.trans (SB.of s536)
        walk_at "s"
        rw [lm]
        by_cases l4 : o.length < 4
        · walk_at "s"
          exact k H36 b036 st36
        · have i1 : (o.map V.int)[1]? = some (.int (oA o 1)) := by rw [List.getElem?_map, oA_at (k := 1) (by omega)]; rfl
          have i3 : (o.map V.int)[3]? = some (.int (oA o 3)) := by rw [List.getElem?_map, oA_at (k := 3) (by omega)]; rfl
          obtain ⟨pa, ea, hw36, tabP, ⟨us, hu36, pru⟩⟩ := id le36.web
          have lu := tab_len pru
          have lE := sw.lenE
          walk_at "s"
          refine r_ixI hlo36 (i := 1) rfl i1 ?_
          walk_at "s"
          refine r_ixI hlo36 (i := 3) rfl i3 ?_
          walk_at "s"
          refine r_ixI hlo36 (i := 1) rfl i1 ?_
          walk_at "s"
          refine r_ixI hlo36 (i := 3) rfl i3 ?_
          walk_at "s"
          refine r_new fun tt H37 ntt s37 htt => ?_
          have htt : H37 tt = some (.tup (I2 (tie13 o))) := htt
          have hw37 := s37 _ _ hw36
          walk_at "s"
          refine r_new fun f1 H38 nf1 s38 hf1 => ?_
          have s3638 := s37.trans s38
          walk_at "s"
          refine r_cat (s3638 _ _ hu36) hf1 (by rw [List.length_map]; show _ + 1 ≤ _; omega) (r_new fun f2 H39 nf2 s39 hf2 => ?_)
          have s3639 := s3638.trans s39
          have tabM : Tab H39 f2 ((es ++ [tie13 o]).map I2) := ⟨us ++ [tt], by rw [hf2, List.map_append]; rfl, by
            rw [List.map_append]
            exact paired_snoc (tab_sm s3639 pru) (s39 _ _ (s38 _ _ htt))⟩
          have n13 := tie13_not sw (by omega)
          have bdE : ∀ e ∈ es ++ [tie13 o], TS.Bd 1000000000000 [e.1, e.2] := fun e he => by
            have kk : e.1 ∈ o ∧ e.2 ∈ o := by
              rcases List.mem_append.mp he with m | m
              · have q := sw.ok.t.each e m
                exact ⟨(sw.keys _).mp q.2.1, (sw.keys _).mp q.2.2⟩
              · have : e = tie13 o := by simpa using m
                subst this
                unfold tie13 mn mx
                have a1 := oA_mem (o := o) (k := 1) (by omega)
                have a3 := oA_mem (o := o) (k := 3) (by omega)
                constructor
                · dsimp only
                  split <;> assumption
                · dsimp only
                  split <;> assumption
            have r1 := s0.rng _ kk.1
            have r2 := s0.rng _ kk.2
            intro m hm
            have : m = e.1 ∨ m = e.2 := by simpa using hm
            omega
          walk_at "s"
          refine r_sortT (rows := es ++ [tie13 o]) (fun e => [e.1, e.2]) tabM (by rw [List.length_append]; show _ + 1 < 64; omega) (fun _ _ => rfl) bdE fun es' f3 H40 pe pwe s40 nf3 tabE => ?_
          have ndM : (es ++ [tie13 o]).Nodup := List.nodup_append.mpr ⟨sw.ndE, by simp, fun u hu v hv e => by
            have : v = tie13 o := by simpa using hv
            subst this
            rw [e] at hu
            exact n13 hu⟩
          have bdE' : ∀ e ∈ es', TS.Bd 1000000000000 [e.1, e.2] := fun e he => bdE e (pe.mem_iff.mp he)
          have eR : es'.Pairwise lt2 := List.Pairwise.imp_of_mem (fun {a b} ha hb q => code_two (bdE' a ha) (bdE' b hb) q.1 q.2) (List.Pairwise.and pwe (pe.nodup_iff.mpr ndM))
          obtain ⟨ok', sub, cov⟩ := more_web sw (by omega) pe eR
          have dok' : DuesOk ps es' ds := more_dues sub (by have := pe.length_eq; rw [List.length_append] at this; omega) dok
          walk_at "s"
          refine r_new fun mo H41 nmo s41 hmo => ?_
          have s3641 := (s3639.trans s40).trans s41
          have webM : WebAt H41 mo ps es' := ⟨pa, f3, hmo, tabP.sm s3641, tabE.sm s41⟩
          have le41 := le36.sm s3641
          walk_at "s"
          refine r_new fun tp H42 ntp s42 htp => ?_
          have le42 := le41.sm s42
          have run := sw.runC le.dd
          have pgood : Pap H42 ps es' tp True := ⟨h, d, c, halS o ps, ds, chA o, htp, le42.hal, shape, le42.due, dok', le42.cha, by omega, le.at_, ⟨fun _ => ⟨⟨cov, cost⟩, runOk_mono sub (fun _ z => z) (fun _ z => z) run⟩, fun _ => trivial⟩⟩
          walk_at "s"
          refine lf_use (webM.sm s42) ok' pgood fun b H43 s43 eb => ?_
          have bt : b = true := eb.mpr trivial
          subst bt
          have le43 := le42.sm s43
          obtain ⟨cts43, hc43, prc43⟩ := id le43.cha
          have lc43 := tab_len prc43
          have hlo43 := s43 _ _ (s42 _ _ (s3641 _ _ hlo36))
          walk_at "s"
          refine r_ixI hlo43 (i := 1) rfl i1 ?_
          walk_at "s"
          refine r_ixI hlo43 (i := 3) rfl i3 ?_
          walk_at "s"
          refine r_new fun y1 H44 ny1 s44 hy1 => ?_
          walk_at "s"
          refine r_new fun y2 H45 ny2 s45 hy2 => ?_
          walk_at "s"
          refine r_cat (s45 _ _ (s44 _ _ hc43)) hy2 (by rw [List.length_map]; show _ + 1 ≤ _; omega) (r_new fun y3 H46 ny3 s46 hy3 => ?_)
          walk_at "s"
          refine r_new fun y4 H47 ny4 s47 hy4 => ?_
          have s4347 := ((s44.trans s45).trans s46).trans s47
          have le47 := le43.sm s4347
          have m1 := (sw.keys _).mpr (oA_mem (o := o) (k := 1) (by omega))
          have m3 := (sw.keys _).mpr (oA_mem (o := o) (k := 3) (by omega))
          have pbad : Pap H47 ps es' y4 False := by
            refine ⟨h, d, y3, halS o ps, ds, chA o ++ [.tight (oA o 1) (oA o 3)], hy4, le47.hal, shape, le47.due, dok', ⟨cts43 ++ [y1], ?_, ?_⟩, ?_, fun y hy q hq => ?_, ⟨False.elim, fun z => no_tight sw (by omega) dok (runOk_snoc.mp z.2).2⟩⟩
            · rw [s47 _ _ hy3, List.map_append]; rfl
            · rw [List.map_append]
              exact paired_snoc (tab_sm s4347 prc43) (s47 _ _ (s46 _ _ (s45 _ _ hy1)))
            · rw [List.length_append]; show _ + 1 ≤ 200; omega
            · rcases List.mem_append.mp hy with e | e
              · exact le.at_ y e q hq
              · have : y = .tight (oA o 1) (oA o 3) := by simpa using e
                subst this
                have : q = oA o 1 ∨ q = oA o 3 := by simpa [Lk.at] using hq
                rcases this with e | e <;> rw [e] <;> assumption
          have s4147 := (s42.trans s43).trans s4347
          walk_at "s"
          refine lf_use (webM.sm s4147) ok' pbad fun b H48 s48 eb => ?_
          have bf : b = false := by
            cases b with
            | false => rfl
            | true => exact (eb.mp rfl).elim
          subst bf
          have s3648 := (s3641.trans s4147).trans s48
          walk_at "s"
          exact k H48 (b036.trans (SB.of s3648)) (st36.sm s3648)
end
end K33
set_option Elab.async false
set_option linter.all false
set_option maxRecDepth 100000
set_option maxHeartbeats 4000000
/-! L5: the law. -/
namespace K33
open PySem L2
/-! one step of a reading -/
local macro_rules | `(tactic| walk_at "look") => `(tactic| first | assumption | exact upd_same | (refine Same.at' (by assumption) ?_; walk_at "look"))
local macro_rules | `(tactic| walk_at "side") => `(tactic| first | exact .inr ⟨by decide, by decide⟩ | exact .inl ⟨by decide, by decide⟩ | (show (0 : Int) < _; decide) | exact ⟨by decide, by decide⟩ | omega)
local macro_rules | `(tactic| walk_at "tt") => `(tactic| first | assumption | exact decide_eq_true (by assumption) | exact decide_eq_true rfl | (rw [decide_eq_false (by assumption)]; rfl) | rfl | exact decide_eq_true (by omega) | (rw [decide_eq_false (by omega)]; rfl))
local macro_rules | `(tactic| walk_at "ff") => `(tactic| first | assumption | exact decide_eq_false (by assumption) | (rw [decide_eq_true (by assumption)]; rfl) | (rw [decide_eq_true rfl]; rfl) | rfl | exact decide_eq_false (by omega) | (rw [decide_eq_true (by omega)]; rfl))
local macro_rules | `(tactic| walk_at "fld") => `(tactic| fail)
local macro_rules | `(tactic| walk_at "s1") => `(tactic| first
  | with_reducible refine r_seq ?_
  | with_reducible refine r_asg ?_
  | with_reducible refine r_name ?_
  | ((with_reducible refine' r_var ?hv ?_); (case hv => exact rfl))
  | with_reducible refine r_c ?_
  | with_reducible refine r_op ?_
  | with_reducible refine r_un ?_
  | with_reducible refine r_neg ?_
  | with_reducible refine r_I0 ?_
  | ((with_reducible refine' r_I ?hc ?_); (case hc => walk_at "side"))
  | with_reducible refine r_eqI ?_
  | with_reducible refine r_neI ?_
  | with_reducible refine r_eqS ?_
  | with_reducible refine r_neS ?_
  | with_reducible refine r_B ?_
  | with_reducible refine r_test ?_
  | with_reducible refine r_chain ?_
  | with_reducible refine r_and ?_
  | with_reducible refine r_or ?_
  | with_reducible refine r_not ?_
  | with_reducible refine r_andV ?_
  | with_reducible refine r_orV ?_
  | with_reducible refine r_notV ?_
  | with_reducible refine r_nil ?_
  | with_reducible refine r_cons ?_
  | with_reducible refine r_call ?_
  | with_reducible refine r_CB ?_
  | with_reducible refine r_fld ?_
  | with_reducible refine r_tup ?_
  | walk_at "fld"
  | with_reducible refine r_lst ?_
  | with_reducible refine r_if ?_
  | with_reducible refine r_drop ?_
  | with_reducible refine r_ret ?_
  | with_reducible refine r_retN ?_
  | with_reducible refine r_next ?_
  | with_reducible refine r_cont ?_
  | with_reducible refine r_bm ?_
  | with_reducible refine r_gcons ?_
  | with_reducible refine r_gnil ?_
  | with_reducible refine r_for ?_
  | with_reducible refine r_lc ?_
  | with_reducible refine r_yes ?_
  | with_reducible refine r_iEnum ?_
  | with_reducible refine r_iList ?_
  | with_reducible refine r_iTup ?_
  | with_reducible refine r_iZip ?_
  | with_reducible refine r_iRng1 ?_
  | with_reducible refine r_iRng2 ?_
  | with_reducible refine r_din ?_
  | with_reducible refine r_dnotin ?_
  | with_reducible refine r_dget ?_
  | with_reducible refine r_dget2 ?_
  | with_reducible refine r_dput ?_
  | with_reducible refine r_dnewK ?_
  | with_reducible refine r_gsub ?_
  | ((with_reducible refine' r_dinL (Rd.of ?h) ?_); (case h => walk_at "look"))
  | ((with_reducible refine' r_isD (Rd.of ?h) ?_); (case h => walk_at "look"))
  | ((with_reducible refine' r_dget2L (Rd.of ?h) ?_); (case h => walk_at "look"))
  | ((with_reducible refine' r_dgetL (Rd.of ?h) ?e ?_); (case h => walk_at "look"); (case e => first | assumption | rfl))
  | ((with_reducible refine' r_dgetL (rd_frz ?h) ?e ?_); (case h => assumption); (case e => first | assumption | rfl))
  | ((with_reducible refine' r_lt2 ?h1 ?h2 ?_); (case h1 => walk_at "look"); (case h2 => walk_at "look"))
  | with_reducible refine r_sl ?_
  | with_reducible refine r_noPart ?_
  | with_reducible refine r_part ?_
  | with_reducible refine r_exi ?_
  | ((with_reducible refine' r_tyL ?h ?_); (case h => walk_at "look"))
  | with_reducible refine r_isN ?_
  | with_reducible refine r_notN ?_
  | with_reducible refine r_isB ?_
  | with_reducible refine r_notB ?_
  | with_reducible refine r_min2' ?_
  | with_reducible refine r_max2' ?_
  | with_reducible refine r_isi (.base (.int _)) kII ?_
  | with_reducible refine r_isi (.base (.int _)) kIB ?_
  | with_reducible refine r_isi (.base (.str _)) kSS ?_
  | with_reducible refine r_isi (.base (.bl _)) kBB ?_
  | ((with_reducible refine' r_isi (.base (.tup ?h)) kTT ?_); (case h => walk_at "look"))
  | ((with_reducible refine' r_isi (.base (.lst ?h)) kLL ?_); (case h => walk_at "look"))
  | ((with_reducible refine' r_lenS (Or.inr (SqT.of ?h)) ?_); (case h => walk_at "look"))
  | ((with_reducible refine' r_lenS (Or.inl (SqL.of ?h)) ?_); (case h => walk_at "look"))
  | ((with_reducible refine' r_ixT (SqT.of ?h) ?e ?_); (case h => walk_at "look"); (case e => rfl))
  | ((with_reducible refine' r_gtup (SqT.of ?h) ?e ?_); (case h => walk_at "look"); (case e => rfl))
  | ((with_reducible refine r_tlen ?e ?_); (case e => exact Nat.le_of_ble_eq_true rfl))
  | with_reducible refine r_iteT ?_
  | with_reducible refine r_iteF ?_
  | with_reducible refine r_exb2 ?_
  | ((with_reducible refine r_iteP ?hc ?_); (case hc => walk_at "tt"))
  | ((with_reducible refine r_iteN ?hc ?_); (case hc => walk_at "ff")))
local macro_rules | `(tactic| walk_at "s") => `(tactic| repeat (walk_at "s1"))

local macro_rules | `(tactic| walk_at "side") => `(tactic| exact ⟨by decide, by decide, by decide⟩)
def DP (I O : List Int) : PyData := .tuple [.list (I.map PyData.int), .list (O.map PyData.int)]
theorem dp_shp (I O : List Int) : SeqAt.shaped (DP I O) = true := shp (by simp [DP, PyData.canLay0, PyData.canLayAll0, ints_lay]) (by
  have a := ints_depth I
  have b := ints_depth O
  simp only [DP, PyData.depth, PyData.depthAll]
  omega)
theorem dp_eqv (I O : List Int) : PyData.eqv (DP I O) (DP I O) = true := by simp [DP, PyData.eqv, PyData.eqvAll, eqvAll_ints]
section
variable {K : PySem.W.Frag} {H : Hp} {Q : VK}
theorem r_neT {t u i o i' o' : Addr} {I O : List Int} (h1 : H t = some (.tup [.ref i, .ref o])) (hi : H i = some (.lst (I.map V.int))) (ho : H o = some (.lst (O.map V.int))) (h2 : H u = some (.tup [.ref i', .ref o'])) (hi' : H i' = some (.lst (I.map V.int))) (ho' : H o' = some (.lst (O.map V.int))) (q : Q (.bl false) H) : rNeD K (.ref t) (.ref u) H Q :=
  ⟨DP I O, DP I O, .tup (SqT.of h1) (.cons (.lst (SqL.of hi) dpInts) (.cons (.lst (SqL.of ho) dpInts) .nil)), .tup (SqT.of h2) (.cons (.lst (SqL.of hi') dpInts) (.cons (.lst (SqL.of ho') dpInts) .nil)), dp_shp I O, dp_shp I O, by rw [dp_eqv]; exact q⟩
theorem r_neH {l m : Addr} {hs : List (Int × Int)} (h1 : Tab H l (hs.map I2)) (h2 : Tab H m (hs.map I2)) (q : Q (.bl false) H) : rNeD K (.ref l) (.ref m) H Q :=
  ⟨_, _, dpTab h1, dpTab h2, d2s_shp hs, d2s_shp hs, by
    have e : PyData.eqv (.list (hs.map D2)) (.list (hs.map D2)) = true := by simp [PyData.eqv, eqvAll_d2]
    rw [e]; exact q⟩
theorem r_rep {l : Addr} {xs : List V} (h : H l = some (.lst xs)) (few : xs.length ≤ 1000) (q : New H (.lst (List.replicate 5 xs).flatten) Q) : rRep (.ref l) (.int 5) H Q := ⟨l, 5, xs, rfl, rfl, h, by decide, by decide, sz_of (by show xs.length * 5 ≤ 100000; omega), q⟩
end
theorem paired_rep {α β : Type} {F : α → β → Prop} {l : List α} {m : List β} (h : Paired F l m) : ∀ n, Paired F (List.replicate n l).flatten (List.replicate n m).flatten
  | 0 => .nil
  | n + 1 => by
    rw [List.replicate_succ, List.replicate_succ, List.flatten_cons, List.flatten_cons]
    exact paired_app h (paired_rep h n)
theorem map_rep {α β : Type} (f : α → β) (l : List α) : ∀ n, (List.replicate n l).flatten.map f = (List.replicate n (l.map f)).flatten
  | 0 => rfl
  | n + 1 => by rw [List.replicate_succ, List.replicate_succ, List.flatten_cons, List.flatten_cons, List.map_append, map_rep f l n]
theorem pick_snoc {hs : List (Int × Int)} {i : Nat} {g : Int × Int} {q : Int} (h : hs[i]? = some g) : pick (hs.take (i + 1)) q = pick (hs.take i) q ++ (if g.2 = q then [g.1] else []) := by
  unfold pick
  rw [List.take_add_one, h, List.filter_append, List.map_append]
  congr 1
  show List.map _ (List.filter _ [g]) = _
  by_cases c : g.2 = q
  · rw [if_pos c, List.filter_cons, if_pos (decide_eq_true c)]; rfl
  · rw [if_neg c, List.filter_cons, if_neg (by rw [decide_eq_false c]; decide)]; rfl
theorem pick_len (hs : List (Int × Int)) (q : Int) : (pick hs q).length ≤ hs.length := by
  unfold pick
  rw [List.length_map]
  exact List.length_filter_le _ _
section
variable {P : Program} {w : World} {K : PySem.W.Frag} {mg : Str → Option Value} {base : Heap}
def spLaw (K : PySem.W.Frag) : Sp := fun vs H Q _ => ∃ (a : Addr) (ns : List Int), vs = [.ref a] ∧ SqL K H a (ns.map V.int) ∧ ∀ H', Q (.bl true) H'
theorem ok_law {f : Addr} {fd : FuncData} (F : Fun K "law" "law" slaw f fd) (T : Txt K mg) (C_law_begun : Can P w K mg base 1 "_law_begun" ["_law_script", "_law_k"] (spBegun K)) (C_law_string : Can P w K mg base 3 "_law_string" ["_law_state"] spString) (C_law_take : Can P w K mg base 1 "_law_take" ["_law_state", "_law_many"] spTakeN)
    (C_lets_fixed : Can P w K mg base 6 "lets_fixed" ["web", "thing"] spLetsFixed) (C_fixed_paper : Can P w K mg base 7 "fixed_paper" ["web"] spFixedPaper) (C_law_own : Can P w K mg base 1 "_law_own" ["_law_web"] spOwn)
    (C_law_bent_right : Can P w K mg base 7 "_law_bent_right" ["_law_state", "_law_web", "_law_halves", "_law_dues", "_law_chain"] spBent) (C_fixed_by : Can P w K mg base 1 "fixed_by" ["chain"] spFixedBy) (C_fixed_of : Can P w K mg base 8 "fixed_of" ["web"] spFixedOf) : FnOk P w K mg base CX0 9 f fd ["_law_script"] (spLaw K) := by
  refine F.ok sclaw (fun vs H Q E h => ?_) (fun cdv A outer s H vs Q E hr h => ?_)
  · obtain ⟨a, ns, rfl, _⟩ := h; rfl
  obtain ⟨a, ns, rfl, ha, k⟩ := h
  have lnm : (ns.map V.int).length = ns.length := List.length_map ..
  refine ⟨_, (pss_cons (ps_for PassesOwn.never rfl (pi_range1 rfl T.fRange (pa_cons (pe_callB (max2 rfl) (by rfl) T.fMax bt_max (pa_cons pe_int (pa_cons (pe_callB (min2 rfl) (by rfl) T.fMin bt_min (pa_cons (pe_callB (lenK (K := K)) (by rfl) T.fLen bt_len (pa_cons (pv 0) pa_nil)) (pa_cons pe_int pa_nil))) pa_nil))) pa_nil)) (pg_name (i := 1) sclaw.nd rfl (Or.inl rfl))
 (pss_cons (ps_set (i := 2) sclaw.nd rfl (Or.inl rfl) (pc_can C_law_begun (hr.mono (by decide)) rfl (pa_cons (pv 0) (pa_cons (pv 1) pa_nil))))
 (pss_cons (ps_asg (pc_can C_law_string (hr.mono (by decide)) rfl (pa_cons (pv 2) pa_nil)) (pgTK (K := K) (n := 4) rfl (pgs_cons (pg_name (i := 3) sclaw.nd rfl (Or.inl rfl)) (pgs_cons (pg_name (i := 4) sclaw.nd rfl (Or.inl rfl)) (pgs_cons (pg_name (i := 5) sclaw.nd rfl (Or.inl rfl)) (pgs_cons (pg_name (i := 6) sclaw.nd rfl (Or.inl rfl)) pgs_nil))))))
 (pss_cons (ps_if (pt_cmpR op_notBl (pc_can C_lets_fixed (hr.mono (by decide)) rfl (pa_cons (pc_can C_law_own (hr.mono (by decide)) rfl (pa_cons (pv 3) pa_nil)) (pa_cons (pe_tup (pa_cons (pv 4) (pa_cons (pv 5) (pa_cons (pv 6) pa_nil)))) pa_nil))) pe_bl (nomark _))
 (pss_one (ps_ret pe_bl))
 pss_nil)
 (pss_cons (ps_if (pt_cmpR op_notBl (pc_can C_lets_fixed (hr.mono (by decide)) rfl (pa_cons (pc_can C_law_own (hr.mono (by decide)) rfl (pa_cons (pv 3) pa_nil)) (pa_cons (pe_tup (pa_cons (pv 4) (pa_cons (pv 5) (pa_cons (pe_op op_rep (pv 6) pe_int) pa_nil)))) pa_nil))) pe_bl (nomark _))
 (pss_one (ps_ret pe_bl))
 pss_nil)
 (pss_cons (ps_set (i := 7) sclaw.nd rfl (Or.inl rfl) (pc_can C_law_take (hr.mono (by decide)) rfl (pa_cons (pv 2) (pa_cons (pe_callB (lenK (K := K)) (by rfl) T.fLen bt_len (pa_cons (pv 6) pa_nil)) pa_nil))))
 (pss_cons (ps_set (i := 8) sclaw.nd rfl (Or.inl rfl) (pc_can C_lets_fixed (hr.mono (by decide)) rfl (pa_cons (pc_can C_law_own (hr.mono (by decide)) rfl (pa_cons (pv 3) pa_nil)) (pa_cons (pe_tup (pa_cons (pv 4) (pa_cons (pv 5) (pa_cons (pe_op op_cat (pe_slice (slLK (K := K)) (pv 6) po_none (po_some (pv 7))) (pe_slice (slLK (K := K)) (pv 6) (po_some (pe_op op_add (pv 7) pe_int)) po_none)) pa_nil)))) pa_nil))))
 (pss_cons (ps_if (PW.pt (pw_or (pt_not (pt_val (pe_callB (isiK (K := K)) (by rfl) T.fIsinstance bt_isinstance (pa_cons (pv 8) (pa_cons (pg_ty (T := "bool") T.fBool bt_bool) pa_nil))))) (pw_or1 (pt_cmpR op_ne (pv 8) (pe_cmpR op_eq (pv 7) (pe_op op_sub (pe_callB (lenK (K := K)) (by rfl) T.fLen bt_len (pa_cons (pv 6) pa_nil)) pe_int) (nomark _)) (nomark _)))))
 (pss_one (ps_ret pe_bl))
 pss_nil)
 (pss_cons (ps_if (pt_not (pt_val (pc_can C_law_bent_right (hr.mono (by decide)) rfl (pa_cons (pv 2) (pa_cons (pv 3) (pa_cons (pv 4) (pa_cons (pv 5) (pa_cons (pv 6) pa_nil))))))))
 (pss_one (ps_ret pe_bl))
 pss_nil)
 (pss_cons (ps_setLc (i := 9) (own := [("_law_place", 12), ("_law_h", 13)]) rfl sclaw.nd rfl rfl (sw_true rfl rfl rfl (by decide +kernel)) (piLK (K := K) (pv 4)) (blkOk_by (own := [("_law_place", 12), ("_law_h", 13)]) (N := ["_law_script", "_law_k", "_law_state", "_law_web", "_law_halves", "_law_dues", "_law_chain", "_law_at", "_law_without_one", "_law_ins", "_law_due", "_law_found", "_law_place", "_law_h"]) (sc := defScope slaw) (by decide +kernel)) (fun _ _ _ _ _ => (pgTK (K := K) (n := 2) rfl (pgs_cons (pg_name (i := 12) sclaw.nd rfl (Or.inl rfl)) (pgs_cons (pg_name (i := 13) sclaw.nd rfl (Or.inl rfl)) pgs_nil)))) (fun _ _ _ _ _ => (pts_one (pt_cmpR op_eq (pv 13) pe_int (nomark _)))) (fun _ _ _ _ _ => (pv 12)))
 (pss_cons (ps_set (i := 10) sclaw.nd rfl (Or.inl rfl) (pe_tup (pa_cons (pv 9) (pa_cons (pe_lc (own := [("_law_place", 12), ("_law_h", 13)]) rfl sclaw.nd (piLK (K := K) (pv 4)) (blkOk_by (own := [("_law_place", 12), ("_law_h", 13)]) (N := ["_law_script", "_law_k", "_law_state", "_law_web", "_law_halves", "_law_dues", "_law_chain", "_law_at", "_law_without_one", "_law_ins", "_law_due", "_law_found", "_law_place", "_law_h"]) (sc := defScope slaw) (by decide +kernel)) (fun _ _ _ _ _ => (pgTK (K := K) (n := 2) rfl (pgs_cons (pg_name (i := 12) sclaw.nd rfl (Or.inl rfl)) (pgs_cons (pg_name (i := 13) sclaw.nd rfl (Or.inl rfl)) pgs_nil)))) (fun _ _ _ _ _ => (pts_one (pt_cmpR op_eq (pv 13) pe_int (nomark _)))) (fun _ _ _ _ _ => (pv 12))) pa_nil))))
 (pss_cons (ps_set (i := 11) sclaw.nd rfl (Or.inl rfl) (pc_can C_fixed_paper (hr.mono (by decide)) rfl (pa_cons (pc_can C_law_own (hr.mono (by decide)) rfl (pa_cons (pv 3) pa_nil)) pa_nil)))
 (pss_cons (ps_if (PW.pt (pw_or (pt_cmpR (neDK (K := K) hr.units) (pc_can C_fixed_by (hr.mono (by decide)) rfl (pa_cons (pv 6) pa_nil)) (pv 10) (nomark _)) (pw_or (pt_cmpR (neDK (K := K) hr.units) (pc_can C_fixed_of (hr.mono (by decide)) rfl (pa_cons (pc_can C_law_own (hr.mono (by decide)) rfl (pa_cons (pv 3) pa_nil)) pa_nil)) (pv 10) (nomark _)) (pw_or1 (pt_cmpR (neDK (K := K) hr.units) (pe_ix (ixTK (K := K)) (pv 11) pe_int (fun _ _ => rfl)) (pv 4) (nomark _))))))
 (pss_one (ps_ret pe_bl))
 pss_nil)
 (pss_one (ps_if (PW.pt (pw_or (pt_cmpR op_notBl (pc_can C_lets_fixed (hr.mono (by decide)) rfl (pa_cons (pc_can C_law_own (hr.mono (by decide)) rfl (pa_cons (pv 3) pa_nil)) (pa_cons (pv 11) pa_nil))) pe_bl (nomark _)) (pw_or1 (pt_cmpR (neDK (K := K) hr.units) (pc_can C_fixed_by (hr.mono (by decide)) rfl (pa_cons (pe_ix (ixTK (K := K)) (pv 11) pe_int (fun _ _ => rfl)) pa_nil)) (pv 10) (nomark _)))))
 (pss_one (ps_ret pe_bl))
 pss_nil)))))))))))))))
 (pss_one (ps_ret pe_bl))), ?_⟩
  walk_at "s"
  refine r_lenS (Or.inl ha) ?_
  walk_at "s"
  rw [lnm]
  obtain ⟨N, hN⟩ : ∃ N : Int, N = (if (if (2 : Int) < (ns.length : Nat) then (2 : Int) else ((ns.length : Nat) : Int)) > 1 then (if (2 : Int) < (ns.length : Nat) then (2 : Int) else ((ns.length : Nat) : Int)) else 1) := ⟨_, rfl⟩
  rw [← hN]
  have hb : 0 ≤ N ∧ N ≤ 2 := by
    rw [hN]
    by_cases c : (2 : Int) < (ns.length : Nat)
    · rw [if_pos c, if_pos (by decide)]
      exact ⟨by decide, by decide⟩
    · rw [if_neg c]
      by_cases c2 : ((ns.length : Nat) : Int) > 1
      · rw [if_pos c2]; omega
      · rw [if_neg c2]; omega
  refine l_rng1 (fun i σ H' => ∃ (v1 v2 v3 v4 v5 v6 v7 v8 v9 v10 v11 v12 v13 : Option V), σ = [some (.ref a), v1, v2, v3, v4, v5, v6, v7, v8, v9, v10, v11, v12, v13] ∧ SqL K H' a (ns.map V.int)) (by omega)
    ⟨_, _, _, _, _, _, _, _, _, _, _, _, _, rfl, ha⟩ hb.1 ?_ ?_
  · rintro i σ H1 hi ⟨v1, v2, v3, v4, v5, v6, v7, v8, v9, v10, v11, v12, v13, rfl, ha1⟩
    walk_at "s"
    refine ⟨a, ns, i, rfl, ha1, by omega, fun p H2 np s2 st2 => ?_⟩
    walk_at "s"
    refine ⟨p, rfl, st2, fun t aw hh hd hc o am x ps es ds H3 b3 st3 ht web tabH tabD tabC sw perm rise => ?_⟩
    have le3 : LE H3 aw hh hd hc o am x ps es ds := ⟨web, tabH, tabD, tabC, sw, perm, rise⟩
    have s0 := sw.s
    have l40 := s0.len
    have lpos := s0.pos
    have lch : (chA o).length = o.length := chA_len o
    have dok := le3.dok
    have cost := le3.cost
    have shape := sw.shape
    have cov := sw.cover
    have run := sw.runC le3.dd
    walk_at "s"
    refine ⟨aw, ps, es, rfl, le3.web, fun w1 H4 s4 web4 => ?_⟩
    have le4 := le3.sm s4
    walk_at "s"
    refine r_new fun t1 H5 nt1 s5 ht1 => ?_
    have le5 := le4.sm s5
    walk_at "s"
    have p5 : Pap H5 ps es t1 True := ⟨hh, hd, hc, _, ds, chA o, ht1, le5.hal, shape, le5.due, dok, le5.cha, by omega, le3.at_, ⟨fun _ => ⟨⟨cov, cost⟩, run⟩, fun _ => trivial⟩⟩
    refine lf_use (web4.sm s5) sw.ok p5 fun b H6 s6 eb => ?_
    have bt : b = true := eb.mpr trivial
    subst bt
    have s36 := (s4.trans s5).trans s6
    have le6 := le3.sm s36
    walk_at "s"
    refine ⟨aw, ps, es, rfl, le6.web, fun w2 H7 s7 web7 => ?_⟩
    have le7 := le6.sm s7
    obtain ⟨cts, hc7, prc7⟩ := id le7.cha
    have lc7 := tab_len prc7
    walk_at "s"
    refine r_rep hc7 (by rw [List.length_map]; omega) (r_new fun c5 H8 nc5 s8 hc5 => ?_)
    walk_at "s"
    refine r_new fun t2 H9 nt2 s9 ht2 => ?_
    have s79 := s8.trans s9
    have le9 := le7.sm s79
    walk_at "s"
    have l5 : (List.replicate 5 (chA o)).flatten.length = 5 * o.length := by
      rw [show List.replicate 5 (chA o) = [chA o, chA o, chA o, chA o, chA o] from rfl]
      simp only [List.flatten_cons, List.flatten_nil, List.length_append, List.length_nil, lch]
      omega
    have p9 : Pap H9 ps es t2 True := by
      refine ⟨hh, hd, c5, _, ds, (List.replicate 5 (chA o)).flatten, ht2, le9.hal, shape, le9.due, dok, ⟨(List.replicate 5 cts).flatten, ?_, ?_⟩, by omega, fun y hy q hq => ?_, ⟨fun _ => ⟨⟨cov, cost⟩, run_five run 5⟩, fun _ => trivial⟩⟩
      · rw [s9 _ _ hc5, map_rep]
      · rw [map_rep]
        exact paired_rep (tab_sm s79 prc7) 5
      · obtain ⟨l, hl, hy⟩ := List.mem_flatten.mp hy
        have := List.eq_of_mem_replicate hl
        subst this
        exact le3.at_ y hy q hq
    refine lf_use (web7.sm s79) sw.ok p9 fun b H10 s10 eb => ?_
    have bt : b = true := eb.mpr trivial
    subst bt
    have s310 := ((s36.trans s7).trans s79).trans s10
    have le10 := le3.sm s310
    have st10 := st3.sm s310
    obtain ⟨cts10, hc10, prc10⟩ := id le10.cha
    have lc10 := tab_len prc10
    have lcm : (cts10.map V.ref).length = o.length := by rw [List.length_map]; omega
    walk_at "s"
    rw [lcm]
    refine ⟨p, _, rfl, st10, by omega, by omega, fun t5 H11 a11 b11 sb11 st11 _ => ?_⟩
    obtain ⟨j, hj⟩ : ∃ j : Nat, t5 = (j : Int) := ⟨t5.toNat, by omega⟩
    subst hj
    have jl : j < o.length := by omega
    have le11 := le10.sb st10 sb11
    walk_at "s"
    refine ⟨aw, ps, es, rfl, le11.web, fun w3 H12 s12 web12 => ?_⟩
    have le12 := le11.sm s12
    obtain ⟨cts12, hc12, prc12⟩ := id le12.cha
    have lc12 := tab_len prc12
    have ej : ((j : Nat) : Int) + 1 = ((j + 1 : Nat) : Int) := by omega
    walk_at "s"
    refine r_slL hc12 (r_new fun x1 H13 nx1 s13 hx1 => ?_)
    rw [cut_to] at hx1
    have hc13 := s13 _ _ hc12
    walk_at "s"
    refine r_slL hc13 (r_new fun x2 H14 nx2 s14 hx2 => ?_)
    rw [ej, cut_from] at hx2
    walk_at "s"
    refine r_cat (s14 _ _ hx1) hx2 (by rw [List.length_take, List.length_drop, List.length_map]; omega) (r_new fun x3 H15 nx3 s15 hx3 => ?_)
    walk_at "s"
    refine r_new fun t3 H16 nt3 s16 ht3 => ?_
    have s1216 := ((s13.trans s14).trans s15).trans s16
    have le16 := le12.sm s1216
    have p16 : Pap H16 ps es t3 (j + 1 = o.length) := by
      refine ⟨hh, hd, x3, _, ds, (chA o).take j ++ (chA o).drop (j + 1), ht3, le16.hal, shape, le16.due, dok, ⟨cts12.take j ++ cts12.drop (j + 1), ?_, ?_⟩, ?_, fun y hy q hq => ?_, ⟨fun z => ⟨⟨cov, cost⟩, (sw.without le3.dd jl).mpr z⟩, fun z => (sw.without le3.dd jl).mp z.2⟩⟩
      · rw [s16 _ _ hx3, List.map_append, List.map_take, List.map_drop]
      · rw [List.map_append, List.map_take, List.map_drop]
        exact paired_app (paired_take j (tab_sm s1216 prc12)) (paired_drop (j + 1) (tab_sm s1216 prc12))
      · rw [List.length_append, List.length_take, List.length_drop]; omega
      · rcases List.mem_append.mp hy with e | e
        · exact le3.at_ y (List.mem_of_mem_take e) q hq
        · exact le3.at_ y (List.mem_of_mem_drop e) q hq
    walk_at "s"
    refine lf_use (web12.sm s1216) sw.ok p16 fun b H17 s17 eb => ?_
    have s1117 := (s12.trans s1216).trans s17
    have le17 := le11.sm s1117
    have st17 := st11.sm s1117
    obtain ⟨cts17, hc17, prc17⟩ := id le17.cha
    have lc17 := tab_len prc17
    have lcm17 : (cts17.map V.ref).length = o.length := by rw [List.length_map]; omega
    walk_at "s"
    have eqb : b = decide (((j : Nat) : Int) = ((cts17.map V.ref).length : Nat) - 1) := by
      rw [lcm17]
      cases b with
      | false =>
        refine (decide_eq_false fun z => ?_).symm
        have := eb.mpr (by omega)
        cases this
      | true =>
        refine (decide_eq_true ?_).symm
        have := eb.mp rfl
        omega
    refine r_neB ?_
    refine r_exb3 (b' := false) (by rw [decide_eq_true eqb]; rfl) (r_iteF ?_)
    walk_at "s"
    refine ⟨p, aw, hh, hd, hc, o, am, x, ps, es, ds, rfl, st17, le17, fun H18 sb18 st18 => ?_⟩
    have le18 := le17.sb st17 sb18
    obtain ⟨hts, hh18, prh⟩ := id le18.hal
    have lhs := tab_len prh
    have lpo := sw.lenP
    have lhS : (halS o ps).length = ps.length := by unfold halS; rw [List.length_map]
    have lth : (hts.map V.ref).length = (halS o ps).length := by rw [List.length_map]; exact lhs
    walk_at "s"
    refine k_list (fun i acc G => acc = (pick ((halS o ps).take i) 2).map V.int) hh18 (fun _ => rfl) ?_ ?_
    · intro D i' v acc H' nD hx sm hD eA
      obtain ⟨t, g, rfl, ht, hgi, hrow⟩ := tab_at prh hx
      have hr' : H' t = some (.tup [.int g.1, .int g.2]) := sm _ _ hrow
      have hlen : acc.length ≤ 40 := by
        have := pick_len ((halS o ps).take i') 2
        rw [List.length_take] at this
        rw [eA, List.length_map]; omega
      walk_at "s"
      refine ⟨rfl, ?_⟩
      walk_at "s"
      by_cases c : g.2 = 2
      · refine r_iteP (decide_eq_true c) ?_
        walk_at "s"
        refine c_end (fun _ _ _ _ _ _ _ h => h) nD sm hD (by omega) ?_
        rw [eA, pick_snoc hgi, if_pos c, List.map_append]; rfl
      · refine r_iteN (decide_eq_false c) ?_
        refine c_skip nD sm hD ?_
        rw [eA, pick_snoc hgi, if_neg c, List.append_nil]
    · intro i1 acc1 H19 ni1 s19 hi1 eA1
      rw [lth, List.take_of_length_le (Nat.le_refl _)] at eA1
      rw [eA1] at hi1
      have hh19 := s19 _ _ hh18
      walk_at "s"
      refine k_list (fun i acc G => acc = (pick ((halS o ps).take i) 0).map V.int) hh19 (fun _ => rfl) ?_ ?_
      · intro D i' v acc H' nD hx sm hD eA
        obtain ⟨t, g, rfl, ht, hgi, hrow⟩ := tab_at prh hx
        have hr' : H' t = some (.tup [.int g.1, .int g.2]) := sm _ _ (s19 _ _ hrow)
        have hlen : acc.length ≤ 40 := by
          have := pick_len ((halS o ps).take i') 0
          rw [List.length_take] at this
          rw [eA, List.length_map]; omega
        walk_at "s"
        refine ⟨rfl, ?_⟩
        walk_at "s"
        by_cases c : g.2 = 0
        · refine r_iteP (decide_eq_true c) ?_
          walk_at "s"
          refine c_end (fun _ _ _ _ _ _ _ h => h) nD sm hD (by omega) ?_
          rw [eA, pick_snoc hgi, if_pos c, List.map_append]; rfl
        · refine r_iteN (decide_eq_false c) ?_
          refine c_skip nD sm hD ?_
          rw [eA, pick_snoc hgi, if_neg c, List.append_nil]
      · intro i2 acc2 H20 ni2 s20 hi2 eA2
        rw [lth, List.take_of_length_le (Nat.le_refl _)] at eA2
        rw [eA2] at hi2
        walk_at "s"
        refine r_new fun du H21 ndu s21 hdu => ?_
        have s1821 := (s19.trans s20).trans s21
        have le21 := le18.sm s1821
        have hi1' := s21 _ _ (s20 _ _ hi1)
        have hi2' := s21 _ _ hi2
        walk_at "s"
        refine ⟨aw, ps, es, rfl, le21.web, fun w4 H22 s22 web22 => ?_⟩
        walk_at "s"
        refine ⟨w4, ps, es, rfl, web22, sw.ok, fun ft fl fm fn fhs fds fcs H23 s23 hft tfl tfm tfn told wh => ?_⟩
        obtain ⟨efh, d1, sd1, dd1⟩ := sw.told told
        subst efh
        have wh1 := sw.whole dd1 sd1 wh
        have s2123 := s22.trans s23
        have le23 := le21.sm s2123
        walk_at "s"
        have bo := bs_os (chA o)
        refine ⟨hc, chA o, rfl, le23.cha, by omega, by omega, by omega, fun u1 ia1 oa1 I1 O1 H24 s24 hu1 hia1 hoa1 r1 r2 m1 m2 => ?_⟩
        have eI1 : I1 = pick (halS o ps) 2 := rise_ext r1 (sw.pick_rise 2) fun v => ((m1 v).trans (chA_bs o v)).trans (sw.pick_in v).symm
        have eO1 : O1 = pick (halS o ps) 0 := rise_ext r2 (sw.pick_rise 0) fun v => ((m2 v).trans (chA_os o v)).trans (sw.pick_out v).symm
        subst eI1 eO1
        have s2124 := s2123.trans s24
        have hdu24 := s2124 _ _ hdu
        walk_at "s"
        refine r_neT hu1 hia1 hoa1 hdu24 (s2124 _ _ hi1') (s2124 _ _ hi2') ?_
        have le24 := le23.sm s24
        walk_at "s"
        refine ⟨aw, ps, es, rfl, le24.web, fun w5 H25 s25 web25 => ?_⟩
        walk_at "s"
        refine ⟨w5, ps, es, rfl, web25, sw.ok, fun u2 ia2 oa2 I2' O2' hs2 ds2 cs2 H26 s26 hu2 hia2 hoa2 r3 r4 m3 m4 told2 wh2' => ?_⟩
        obtain ⟨_, d2, sd2, dd2⟩ := sw.told told2
        have wh2 := sw.whole dd2 sd2 wh2'
        have eI2 : I2' = pick (halS o ps) 2 := rise_ext r3 (sw.pick_rise 2) fun v => ((m3 v).trans (wh2.1 v)).trans (sw.pick_in v).symm
        have eO2 : O2' = pick (halS o ps) 0 := rise_ext r4 (sw.pick_rise 0) fun v => ((m4 v).trans (wh2.2 v)).trans (sw.pick_out v).symm
        subst eI2 eO2
        have s2126 := (s2124.trans s25).trans s26
        walk_at "s"
        refine r_neT hu2 hia2 hoa2 (s2126 _ _ hdu) (s2126 _ _ hi1') (s2126 _ _ hi2') ?_
        have s2326 := (s24.trans s25).trans s26
        have hft26 := s2326 _ _ hft
        have le26 := le23.sm s2326
        have tfl26 := tfl.sm s2326
        walk_at "s"
        refine r_neH tfl26 le26.hal ?_
        walk_at "s"
        refine ⟨aw, ps, es, rfl, le26.web, fun w6 H27 s27 web27 => ?_⟩
        have s2327 := s2326.trans s27
        have p27 : Pap H27 ps es ft True := ⟨fl, fm, fn, _, fds, fcs, s2327 _ _ hft, tfl.sm s2327, shape, tfm.sm s2327, DueD.ok sw dd1 sd1, tfn.sm s2327, by have := wh.len; omega, wh.at_, ⟨fun _ => ⟨⟨cov, DueD.cost sw dd1 sd1⟩, wh.run⟩, fun _ => trivial⟩⟩
        walk_at "s"
        refine lf_use web27 sw.ok p27 fun b H28 s28 eb => ?_
        have bt : b = true := eb.mpr trivial
        subst bt
        have s2328 := s2327.trans s28
        have hft28 := s2328 _ _ hft
        have wl := wh.len
        have wb := wh.lenB
        have wo := wh.lenO
        walk_at "s"
        refine ⟨fn, fcs, rfl, tfn.sm s2328, by omega, by omega, by omega, fun u3 ia3 oa3 I3' O3' H29 s29 hu3 hia3 hoa3 r5 r6 m5 m6 => ?_⟩
        have eI3 : I3' = pick (halS o ps) 2 := rise_ext r5 (sw.pick_rise 2) fun v => ((m5 v).trans (wh1.1 v)).trans (sw.pick_in v).symm
        have eO3 : O3' = pick (halS o ps) 0 := rise_ext r6 (sw.pick_rise 0) fun v => ((m6 v).trans (wh1.2 v)).trans (sw.pick_out v).symm
        subst eI3 eO3
        have s2129 := (s2123.trans s2328).trans s29
        walk_at "s"
        refine r_neT hu3 hia3 hoa3 (s2129 _ _ hdu) (s2129 _ _ hi1') (s2129 _ _ hi2') ?_
        walk_at "s"
        refine ⟨_, _, _, _, _, _, _, _, _, _, _, _, _, rfl, sql_sm (fun b u e => ?_) ha1⟩
        have n : b ≠ p := ne_of_none e np
        exact s2129 _ _ (s1821 _ _ (sb18 _ _ n (s1117 _ _ (sb11 _ _ n (s310 _ _ (b3 _ _ n (s2 _ _ e)))))))
  · rintro σ H1 ⟨v1, v2, v3, v4, v5, v6, v7, v8, v9, v10, v11, v12, v13, rfl, ha1⟩
    walk_at "s"
    exact k H1
end
end K33
set_option Elab.async false
set_option linter.all false
set_option maxRecDepth 100000
set_option maxHeartbeats 4000000
/-! KE: every def keeps its promise; the law (printed by genE.py). -/
namespace K33
open PySem PySem.Spec PyProof.Rows L2
theorem toFun {K : PySem.W.Frag} {x q : PySem.Str} {st : Stmt} {f : Addr} {fd : FuncData} (D : FunD K x q (defArgs st) (defBody st) (defScope st) [] [] f fd) : Fun K x q st f fd := by
  obtain ⟨oc, od, dV, kV, doc, pm, an, cdv, ct, osl, e, lk, hcd, hD, _⟩ := D.ex
  rcases hD with ⟨_, rfl⟩ | ⟨n, _⟩
  · exact ⟨⟨oc, od, kV, doc, pm, an, cdv, ct, osl, e, lk, hcd⟩, D.kp⟩
  · exact absurd rfl n

theorem fT {K : PySem.W.Frag} {h : Heap} {mg : PySem.Str → Option Value} (X : K.In h) (G : h.Ns mainGlobals mg) (c : He.SaysD faL fnL K) : Txt K mg := ⟨He.free_ok X G (c.fact 71 (f := .free "isinstance") rfl), He.free_ok X G (c.fact 72 (f := .free "int") rfl), He.free_ok X G (c.fact 73 (f := .free "bool") rfl), He.free_ok X G (c.fact 74 (f := .free "tuple") rfl), He.free_ok X G (c.fact 75 (f := .free "list") rfl), He.free_ok X G (c.fact 76 (f := .free "str") rfl), He.free_ok X G (c.fact 77 (f := .free "len") rfl), He.free_ok X G (c.fact 78 (f := .free "range") rfl), He.free_ok X G (c.fact 79 (f := .free "enumerate") rfl), He.free_ok X G (c.fact 80 (f := .free "zip") rfl), He.free_ok X G (c.fact 81 (f := .free "sorted") rfl), He.free_ok X G (c.fact 82 (f := .free "set") rfl), He.free_ok X G (c.fact 83 (f := .free "sum") rfl), He.free_ok X G (c.fact 84 (f := .free "min") rfl), He.free_ok X G (c.fact 85 (f := .free "max") rfl), He.int_ok X G (c.fact 66 (f := .int "MOST_PLACES" 40) rfl), He.int_ok X G (c.fact 67 (f := .int "MOST_TIES" 120) rfl), He.int_ok X G (c.fact 68 (f := .int "LAST_PLACE" 999) rfl), He.int_ok X G (c.fact 69 (f := .int "MOST_PRICES" 1000000000000) rfl), He.int_ok X G (c.fact 70 (f := .int "MOST_CHAIN" 200) rfl)⟩
theorem fIF {K : PySem.W.Frag} (c : He.SaysD faL fnL K) : IsF K (He.ga K "Flow") := ⟨He.cls_ok (c.fact 30 (f := .cls "Flow") rfl), He.noat_ok (c.fact 38 (f := .noat "Flow" "leaving") rfl), He.noat_ok (c.fact 39 (f := .noat "Flow" "heads") rfl), He.noat_ok (c.fact 40 (f := .noat "Flow" "rooms") rfl)⟩
theorem fID {K : PySem.W.Frag} (c : He.SaysD faL fnL K) : IsD K (He.ga K "Doubled") := ⟨He.cls_ok (c.fact 33 (f := .cls "Doubled") rfl), He.noat_ok (c.fact 41 (f := .noat "Doubled" "whole_web") rfl), He.noat_ok (c.fact 42 (f := .noat "Doubled" "many") rfl), He.noat_ok (c.fact 43 (f := .noat "Doubled" "flow") rfl), He.noat_ok (c.fact 44 (f := .noat "Doubled" "start") rfl), He.noat_ok (c.fact 45 (f := .noat "Doubled" "end") rfl), He.noat_ok (c.fact 46 (f := .noat "Doubled" "arcs") rfl)⟩
theorem fIC {K : PySem.W.Frag} (c : He.SaysD faL fnL K) : IsC K (He.ga K "Chain") := ⟨He.cls_ok (c.fact 36 (f := .cls "Chain") rfl), He.noat_ok (c.fact 47 (f := .noat "Chain" "prices") rfl), He.noat_ok (c.fact 48 (f := .noat "Chain" "near") rfl), He.noat_ok (c.fact 49 (f := .noat "Chain" "paid") rfl), He.noat_ok (c.fact 50 (f := .noat "Chain" "due_ties") rfl), He.noat_ok (c.fact 51 (f := .noat "Chain" "ins") rfl), He.noat_ok (c.fact 52 (f := .noat "Chain" "outs") rfl)⟩
theorem fC_is_whole {P : Program} {w : World} {K : PySem.W.Frag} {h : Heap} {mg : PySem.Str → Option Value} (X : K.In h) (G : h.Ns mainGlobals mg) (c : He.SaysD faL fnL K) (base : Heap) : Can P w K mg base 1 "is_whole" ["thing"] spIsWhole := by
  obtain ⟨fd, D⟩ := c.def_ 7 (d := dis_whole) rfl
  have F := toFun (st := sis_whole) D
  exact ⟨⟨_, fd, ok_is_whole F (fT X G c), He.glo_ok X G (c.fact 1 (f := .glo "is_whole") rfl), F.kp, F.binds fun _ _ _ _ _ _ us hl => match us, hl with | [_], _ => rfl⟩⟩
theorem fC_is_pair {P : Program} {w : World} {K : PySem.W.Frag} {h : Heap} {mg : PySem.Str → Option Value} (X : K.In h) (G : h.Ns mainGlobals mg) (c : He.SaysD faL fnL K) (base : Heap) : Can P w K mg base 2 "is_pair" ["thing"] spIsPair := by
  obtain ⟨fd, D⟩ := c.def_ 8 (d := dis_pair) rfl
  have F := toFun (st := sis_pair) D
  exact ⟨⟨_, fd, ok_is_pair F (fT X G c) (fC_is_whole X G c base), He.glo_ok X G (c.fact 2 (f := .glo "is_pair") rfl), F.kp, F.binds fun _ _ _ _ _ _ us hl => match us, hl with | [_], _ => rfl⟩⟩
theorem fC_place_stands {P : Program} {w : World} {K : PySem.W.Frag} {h : Heap} {mg : PySem.Str → Option Value} (X : K.In h) (G : h.Ns mainGlobals mg) (c : He.SaysD faL fnL K) (base : Heap) : Can P w K mg base 3 "place_stands" ["thing", "last", "paid"] spPlaceStands := by
  obtain ⟨fd, D⟩ := c.def_ 9 (d := dplace_stands) rfl
  have F := toFun (st := splace_stands) D
  exact ⟨⟨_, fd, ok_place_stands F (fT X G c) (fC_is_pair X G c base), He.glo_ok X G (c.fact 3 (f := .glo "place_stands") rfl), F.kp, F.binds fun _ _ _ _ _ _ us hl => match us, hl with | [_, _, _], _ => rfl⟩⟩
theorem fC_tie_stands {P : Program} {w : World} {K : PySem.W.Frag} {h : Heap} {mg : PySem.Str → Option Value} (X : K.In h) (G : h.Ns mainGlobals mg) (c : He.SaysD faL fnL K) (base : Heap) : Can P w K mg base 3 "tie_stands" ["thing", "before", "known"] spTieStands := by
  obtain ⟨fd, D⟩ := c.def_ 10 (d := dtie_stands) rfl
  have F := toFun (st := stie_stands) D
  exact ⟨⟨_, fd, ok_tie_stands F (fT X G c) (fC_is_pair X G c base), He.glo_ok X G (c.fact 4 (f := .glo "tie_stands") rfl), F.kp, F.binds fun _ _ _ _ _ _ us hl => match us, hl with | [_, _, _], _ => rfl⟩⟩
theorem fC_bad_place {P : Program} {w : World} {K : PySem.W.Frag} {h : Heap} {mg : PySem.Str → Option Value} (X : K.In h) (G : h.Ns mainGlobals mg) (c : He.SaysD faL fnL K) (base : Heap) : Can P w K mg base 4 "bad_place" ["things"] spBadPlace := by
  obtain ⟨fd, D⟩ := c.def_ 11 (d := dbad_place) rfl
  have F := toFun (st := sbad_place) D
  exact ⟨⟨_, fd, ok_bad_place F (fT X G c) (fC_place_stands X G c base), He.glo_ok X G (c.fact 5 (f := .glo "bad_place") rfl), F.kp, F.binds fun _ _ _ _ _ _ us hl => match us, hl with | [_], _ => rfl⟩⟩
theorem fC_bad_tie {P : Program} {w : World} {K : PySem.W.Frag} {h : Heap} {mg : PySem.Str → Option Value} (X : K.In h) (G : h.Ns mainGlobals mg) (c : He.SaysD faL fnL K) (base : Heap) : Can P w K mg base 4 "bad_tie" ["things", "known"] spBadTie := by
  obtain ⟨fd, D⟩ := c.def_ 12 (d := dbad_tie) rfl
  have F := toFun (st := sbad_tie) D
  exact ⟨⟨_, fd, ok_bad_tie F (fT X G c) (fC_tie_stands X G c base), He.glo_ok X G (c.fact 6 (f := .glo "bad_tie") rfl), F.kp, F.binds fun _ _ _ _ _ _ us hl => match us, hl with | [_, _], _ => rfl⟩⟩
theorem fC_look_at_web {P : Program} {w : World} {K : PySem.W.Frag} {h : Heap} {mg : PySem.Str → Option Value} (X : K.In h) (G : h.Ns mainGlobals mg) (c : He.SaysD faL fnL K) (base : Heap) : Can P w K mg base 5 "look_at_web" ["thing"] spLook := by
  obtain ⟨fd, D⟩ := c.def_ 13 (d := dlook_at_web) rfl
  have F := toFun (st := slook_at_web) D
  exact ⟨⟨_, fd, ok_look_at_web F (fT X G c) (fC_bad_place X G c base) (fC_bad_tie X G c base), He.glo_ok X G (c.fact 7 (f := .glo "look_at_web") rfl), F.kp, F.binds fun _ _ _ _ _ _ us hl => match us, hl with | [_], _ => rfl⟩⟩
theorem fC_numbers_in {P : Program} {w : World} {K : PySem.W.Frag} {h : Heap} {mg : PySem.Str → Option Value} (X : K.In h) (G : h.Ns mainGlobals mg) (c : He.SaysD faL fnL K) (base : Heap) : Can P w K mg base 1 "numbers_in" ["web"] spNumbersIn := by
  obtain ⟨fd, D⟩ := c.def_ 14 (d := dnumbers_in) rfl
  have F := toFun (st := snumbers_in) D
  exact ⟨⟨_, fd, ok_numbers_in F (fT X G c), He.glo_ok X G (c.fact 8 (f := .glo "numbers_in") rfl), F.kp, F.binds fun _ _ _ _ _ _ us hl => match us, hl with | [_], _ => rfl⟩⟩
theorem fC_price_book {P : Program} {w : World} {K : PySem.W.Frag} {h : Heap} {mg : PySem.Str → Option Value} (X : K.In h) (G : h.Ns mainGlobals mg) (c : He.SaysD faL fnL K) (base : Heap) : Can P w K mg base 1 "price_book" ["web"] spPriceBook := by
  obtain ⟨fd, D⟩ := c.def_ 15 (d := dprice_book) rfl
  have F := toFun (st := sprice_book) D
  exact ⟨⟨_, fd, ok_price_book F (fT X G c), He.glo_ok X G (c.fact 9 (f := .glo "price_book") rfl), F.kp, F.binds fun _ _ _ _ _ _ us hl => match us, hl with | [_], _ => rfl⟩⟩
theorem fC_is_number_tuple {P : Program} {w : World} {K : PySem.W.Frag} {h : Heap} {mg : PySem.Str → Option Value} (X : K.In h) (G : h.Ns mainGlobals mg) (c : He.SaysD faL fnL K) (base : Heap) : Can P w K mg base 2 "is_number_tuple" ["thing", "size"] spNumTup := by
  obtain ⟨fd, D⟩ := c.def_ 17 (d := dis_number_tuple) rfl
  have F := toFun (st := sis_number_tuple) D
  exact ⟨⟨_, fd, ok_is_number_tuple F (fT X G c) (fC_is_whole X G c base), He.glo_ok X G (c.fact 11 (f := .glo "is_number_tuple") rfl), F.kp, F.binds fun _ _ _ _ _ _ us hl => match us, hl with | [_, _], _ => rfl⟩⟩
theorem fC_are_halves {P : Program} {w : World} {K : PySem.W.Frag} {h : Heap} {mg : PySem.Str → Option Value} (X : K.In h) (G : h.Ns mainGlobals mg) (c : He.SaysD faL fnL K) (base : Heap) : Can P w K mg base 3 "are_halves" ["web", "thing"] spAreHalves := by
  obtain ⟨fd, D⟩ := c.def_ 18 (d := dare_halves) rfl
  have F := toFun (st := sare_halves) D
  exact ⟨⟨_, fd, ok_are_halves F (fT X G c) (fC_numbers_in X G c base) (fC_is_number_tuple X G c base), He.glo_ok X G (c.fact 12 (f := .glo "are_halves") rfl), F.kp, F.binds fun _ _ _ _ _ _ us hl => match us, hl with | [_, _], _ => rfl⟩⟩
theorem fC_paid_at {P : Program} {w : World} {K : PySem.W.Frag} {h : Heap} {mg : PySem.Str → Option Value} (X : K.In h) (G : h.Ns mainGlobals mg) (c : He.SaysD faL fnL K) (base : Heap) : Can P w K mg base 1 "paid_at" ["dues"] spPaidAt := by
  obtain ⟨fd, D⟩ := c.def_ 19 (d := dpaid_at) rfl
  have F := toFun (st := spaid_at) D
  exact ⟨⟨_, fd, ok_paid_at F (fT X G c), He.glo_ok X G (c.fact 13 (f := .glo "paid_at") rfl), F.kp, F.binds fun _ _ _ _ _ _ us hl => match us, hl with | [_], _ => rfl⟩⟩
theorem fC_are_dues {P : Program} {w : World} {K : PySem.W.Frag} {h : Heap} {mg : PySem.Str → Option Value} (X : K.In h) (G : h.Ns mainGlobals mg) (c : He.SaysD faL fnL K) (base : Heap) : Can P w K mg base 3 "are_dues" ["web", "thing"] spAreDues := by
  obtain ⟨fd, D⟩ := c.def_ 20 (d := dare_dues) rfl
  have F := toFun (st := sare_dues) D
  exact ⟨⟨_, fd, ok_are_dues F (fT X G c) (fC_is_number_tuple X G c base) (fC_price_book X G c base) (fC_paid_at X G c base), He.glo_ok X G (c.fact 14 (f := .glo "are_dues") rfl), F.kp, F.binds fun _ _ _ _ _ _ us hl => match us, hl with | [_, _], _ => rfl⟩⟩
theorem fC_cost_of_halves {P : Program} {w : World} {K : PySem.W.Frag} {h : Heap} {mg : PySem.Str → Option Value} (X : K.In h) (G : h.Ns mainGlobals mg) (c : He.SaysD faL fnL K) (base : Heap) : Can P w K mg base 2 "cost_of_halves" ["web", "halves"] spCost := by
  obtain ⟨fd, D⟩ := c.def_ 21 (d := dcost_of_halves) rfl
  have F := toFun (st := scost_of_halves) D
  exact ⟨⟨_, fd, ok_cost_of_halves F (fT X G c) (fC_price_book X G c base), He.glo_ok X G (c.fact 15 (f := .glo "cost_of_halves") rfl), F.kp, F.binds fun _ _ _ _ _ _ us hl => match us, hl with | [_, _], _ => rfl⟩⟩
theorem fC_is_paper {P : Program} {w : World} {K : PySem.W.Frag} {h : Heap} {mg : PySem.Str → Option Value} (X : K.In h) (G : h.Ns mainGlobals mg) (c : He.SaysD faL fnL K) (base : Heap) : Can P w K mg base 4 "is_paper" ["web", "thing"] spIsPaper := by
  obtain ⟨fd, D⟩ := c.def_ 22 (d := dis_paper) rfl
  have F := toFun (st := sis_paper) D
  exact ⟨⟨_, fd, ok_is_paper F (fT X G c) (fC_are_halves X G c base) (fC_are_dues X G c base) (fC_cost_of_halves X G c base), He.glo_ok X G (c.fact 16 (f := .glo "is_paper") rfl), F.kp, F.binds fun _ _ _ _ _ _ us hl => match us, hl with | [_, _], _ => rfl⟩⟩
theorem fC_near_book {P : Program} {w : World} {K : PySem.W.Frag} {h : Heap} {mg : PySem.Str → Option Value} (X : K.In h) (G : h.Ns mainGlobals mg) (c : He.SaysD faL fnL K) (base : Heap) : Can P w K mg base 1 "near_book" ["web"] spNearBook := by
  obtain ⟨fd, D⟩ := c.def_ 16 (d := dnear_book) rfl
  have F := toFun (st := snear_book) D
  exact ⟨⟨_, fd, ok_near_book F (fT X G c), He.glo_ok X G (c.fact 10 (f := .glo "near_book") rfl), F.kp, F.binds fun _ _ _ _ _ _ us hl => match us, hl with | [_], _ => rfl⟩⟩
theorem fCM_is_loose {P : Program} {w : World} {K : PySem.W.Frag} {h : Heap} {mg : PySem.Str → Option Value} (X : K.In h) (G : h.Ns mainGlobals mg) (c : He.SaysD faL fnL K) (base : Heap) : CanM P w K mg base (He.ga K "Chain") 1 "is_loose" ["self", "place"] (spIsLoose (He.ga K "Chain")) := by
  obtain ⟨fd, D⟩ := c.def_ 28 (d := dChain_is_loose) rfl
  have F := toFun (st := sChain_is_loose) D
  exact ⟨⟨_, fd, ok_is_loose F (fT X G c) (fIC c), He.meth_ok (c.fact 60 (f := .meth "Chain" "is_loose") rfl), F.binds fun _ _ _ _ _ _ us hl => match us, hl with | [_, _], _ => rfl⟩⟩
theorem fCM_has_due {P : Program} {w : World} {K : PySem.W.Frag} {h : Heap} {mg : PySem.Str → Option Value} (X : K.In h) (G : h.Ns mainGlobals mg) (c : He.SaysD faL fnL K) (base : Heap) : CanM P w K mg base (He.ga K "Chain") 1 "has_due" ["self", "one", "other"] (spHasDue (He.ga K "Chain")) := by
  obtain ⟨fd, D⟩ := c.def_ 29 (d := dChain_has_due) rfl
  have F := toFun (st := sChain_has_due) D
  exact ⟨⟨_, fd, ok_has_due F (fT X G c) (fIC c), He.meth_ok (c.fact 61 (f := .meth "Chain" "has_due") rfl), F.binds fun _ _ _ _ _ _ us hl => match us, hl with | [_, _, _], _ => rfl⟩⟩
theorem fCM_is_so {P : Program} {w : World} {K : PySem.W.Frag} {h : Heap} {mg : PySem.Str → Option Value} (X : K.In h) (G : h.Ns mainGlobals mg) (c : He.SaysD faL fnL K) (base : Heap) : CanM P w K mg base (He.ga K "Chain") 2 "is_so" ["self", "thing"] (spIsSo (He.ga K "Chain")) := by
  obtain ⟨fd, D⟩ := c.def_ 30 (d := dChain_is_so) rfl
  have F := toFun (st := sChain_is_so) D
  exact ⟨⟨_, fd, ok_is_so F (fT X G c) (fIC c) (fC_is_whole X G c base) (fCM_is_loose X G c base) (fCM_has_due X G c base), He.meth_ok (c.fact 62 (f := .meth "Chain" "is_so") rfl), F.binds fun _ _ _ _ _ _ us hl => match us, hl with | [_, _], _ => rfl⟩⟩
theorem fCM_take {P : Program} {w : World} {K : PySem.W.Frag} {h : Heap} {mg : PySem.Str → Option Value} (X : K.In h) (G : h.Ns mainGlobals mg) (c : He.SaysD faL fnL K) (base : Heap) : CanM P w K mg base (He.ga K "Chain") 1 "take" ["self", "thing"] (spTake (He.ga K "Chain")) := by
  obtain ⟨fd, D⟩ := c.def_ 31 (d := dChain_take) rfl
  have F := toFun (st := sChain_take) D
  exact ⟨⟨_, fd, ok_take F (fT X G c) (fIC c), He.meth_ok (c.fact 63 (f := .meth "Chain" "take") rfl), F.binds fun _ _ _ _ _ _ us hl => match us, hl with | [_, _], _ => rfl⟩⟩
theorem fCM_lets {P : Program} {w : World} {K : PySem.W.Frag} {h : Heap} {mg : PySem.Str → Option Value} (X : K.In h) (G : h.Ns mainGlobals mg) (c : He.SaysD faL fnL K) (base : Heap) : CanM P w K mg base (He.ga K "Chain") 3 "lets" ["self", "thing"] (spLets (He.ga K "Chain")) := by
  obtain ⟨fd, D⟩ := c.def_ 32 (d := dChain_lets) rfl
  have F := toFun (st := sChain_lets) D
  exact ⟨⟨_, fd, ok_lets F (fT X G c) (fIC c) (fCM_is_so X G c base) (fCM_take X G c base), He.meth_ok (c.fact 64 (f := .meth "Chain" "lets") rfl), F.binds fun _ _ _ _ _ _ us hl => match us, hl with | [_, _], _ => rfl⟩⟩
theorem fC_Chain {P : Program} {w : World} {K : PySem.W.Frag} {h : Heap} {mg : PySem.Str → Option Value} (X : K.In h) (G : h.Ns mainGlobals mg) (c : He.SaysD faL fnL K) (base : Heap) : CanI P w K mg base (He.ga K "Chain") 2 "Chain" ["self", "web", "dues"] (spChainInit (He.ga K "Chain")) := by
  obtain ⟨fd, D⟩ := c.def_ 27 (d := dChain_init) rfl
  have F := toFun (st := sChain_init) D
  exact ⟨⟨_, fd, ok_chain_init F (fT X G c) (fIC c) (fC_price_book X G c base) (fC_near_book X G c base) (fC_paid_at X G c base), He.mkr_ok (c.fact 37 (f := .mkr "Chain") rfl), He.glo_ok X G (c.fact 35 (f := .glo "Chain") rfl), F.binds fun _ _ _ _ _ _ us hl => match us, hl with | [_, _, _], _ => rfl⟩⟩
theorem fC_lets_fixed {P : Program} {w : World} {K : PySem.W.Frag} {h : Heap} {mg : PySem.Str → Option Value} (X : K.In h) (G : h.Ns mainGlobals mg) (c : He.SaysD faL fnL K) (base : Heap) : Can P w K mg base 6 "lets_fixed" ["web", "thing"] spLetsFixed := by
  obtain ⟨fd, D⟩ := c.def_ 34 (d := dlets_fixed) rfl
  have F := toFun (st := slets_fixed) D
  exact ⟨⟨_, fd, ok_lets_fixed F (fT X G c) (fIC c) (fC_look_at_web X G c base) (fC_is_paper X G c base) (fC_Chain X G c base) (fCM_lets X G c base), He.glo_ok X G (c.fact 18 (f := .glo "lets_fixed") rfl), F.kp, F.binds fun _ _ _ _ _ _ us hl => match us, hl with | [_, _], _ => rfl⟩⟩
theorem fC_partner {P : Program} {w : World} {K : PySem.W.Frag} {h : Heap} {mg : PySem.Str → Option Value} (X : K.In h) (G : h.Ns mainGlobals mg) (c : He.SaysD faL fnL K) (base : Heap) : Can P w K mg base 1 "partner" ["arc"] spPartner := by
  obtain ⟨fd, D⟩ := c.def_ 0 (d := dpartner) rfl
  have F := toFun (st := spartner) D
  exact ⟨⟨_, fd, ok_partner F (fT X G c), He.glo_ok X G (c.fact 0 (f := .glo "partner") rfl), F.kp, F.binds fun _ _ _ _ _ _ us hl => match us, hl with | [_], _ => rfl⟩⟩
theorem fC_Flow {P : Program} {w : World} {K : PySem.W.Frag} {h : Heap} {mg : PySem.Str → Option Value} (X : K.In h) (G : h.Ns mainGlobals mg) (c : He.SaysD faL fnL K) (base : Heap) : CanI P w K mg base (He.ga K "Flow") 1 "Flow" ["self", "many"] (spFlowInit (He.ga K "Flow")) := by
  obtain ⟨fd, D⟩ := c.def_ 1 (d := dFlow_init) rfl
  have F := toFun (st := sFlow_init) D
  exact ⟨⟨_, fd, ok_flow_init F (fT X G c) (fIF c), He.mkr_ok (c.fact 31 (f := .mkr "Flow") rfl), He.glo_ok X G (c.fact 29 (f := .glo "Flow") rfl), F.binds fun _ _ _ _ _ _ us hl => match us, hl with | [_, _], _ => rfl⟩⟩
theorem fCM_put {P : Program} {w : World} {K : PySem.W.Frag} {h : Heap} {mg : PySem.Str → Option Value} (X : K.In h) (G : h.Ns mainGlobals mg) (c : He.SaysD faL fnL K) (base : Heap) : CanM P w K mg base (He.ga K "Flow") 1 "put" ["self", "tail", "head", "room"] (spPut (He.ga K "Flow")) := by
  obtain ⟨fd, D⟩ := c.def_ 2 (d := dFlow_put) rfl
  have F := toFun (st := sFlow_put) D
  exact ⟨⟨_, fd, ok_put F (fT X G c) (fIF c), He.meth_ok (c.fact 53 (f := .meth "Flow" "put") rfl), F.binds fun _ _ _ _ _ _ us hl => match us, hl with | [_, _, _, _], _ => rfl⟩⟩
theorem fCM_along {P : Program} {w : World} {K : PySem.W.Frag} {h : Heap} {mg : PySem.Str → Option Value} (X : K.In h) (G : h.Ns mainGlobals mg) (c : He.SaysD faL fnL K) (base : Heap) : CanM P w K mg base (He.ga K "Flow") 1 "along" ["self", "arc"] (spAlong (He.ga K "Flow")) := by
  obtain ⟨fd, D⟩ := c.def_ 3 (d := dFlow_along) rfl
  have F := toFun (st := sFlow_along) D
  exact ⟨⟨_, fd, ok_along F (fT X G c) (fIF c), He.meth_ok (c.fact 54 (f := .meth "Flow" "along") rfl), F.binds fun _ _ _ _ _ _ us hl => match us, hl with | [_, _], _ => rfl⟩⟩
theorem fCM_met_from {P : Program} {w : World} {K : PySem.W.Frag} {h : Heap} {mg : PySem.Str → Option Value} (X : K.In h) (G : h.Ns mainGlobals mg) (c : He.SaysD faL fnL K) (base : Heap) : CanM P w K mg base (He.ga K "Flow") 1 "met_from" ["self", "start"] (spMetFrom (He.ga K "Flow")) := by
  obtain ⟨fd, D⟩ := c.def_ 4 (d := dFlow_met_from) rfl
  have F := toFun (st := sFlow_met_from) D
  exact ⟨⟨_, fd, ok_met_from F (fT X G c) (fIF c), He.meth_ok (c.fact 55 (f := .meth "Flow" "met_from") rfl), F.binds fun _ _ _ _ _ _ us hl => match us, hl with | [_, _], _ => rfl⟩⟩
theorem fCM_way_to {P : Program} {w : World} {K : PySem.W.Frag} {h : Heap} {mg : PySem.Str → Option Value} (X : K.In h) (G : h.Ns mainGlobals mg) (c : He.SaysD faL fnL K) (base : Heap) : CanM P w K mg base (He.ga K "Flow") 2 "way_to" ["self", "found", "end"] (spWayTo (He.ga K "Flow")) := by
  obtain ⟨fd, D⟩ := c.def_ 5 (d := dFlow_way_to) rfl
  have F := toFun (st := sFlow_way_to) D
  exact ⟨⟨_, fd, ok_way_to F (fT X G c) (fIF c) (fC_partner X G c base), He.meth_ok (c.fact 56 (f := .meth "Flow" "way_to") rfl), F.binds fun _ _ _ _ _ _ us hl => match us, hl with | [_, _, _], _ => rfl⟩⟩
theorem fCM_fill {P : Program} {w : World} {K : PySem.W.Frag} {h : Heap} {mg : PySem.Str → Option Value} (X : K.In h) (G : h.Ns mainGlobals mg) (c : He.SaysD faL fnL K) (base : Heap) : CanM P w K mg base (He.ga K "Flow") 3 "fill" ["self", "start", "end"] (spFill (He.ga K "Flow")) := by
  obtain ⟨fd, D⟩ := c.def_ 6 (d := dFlow_fill) rfl
  have F := toFun (st := sFlow_fill) D
  exact ⟨⟨_, fd, ok_fill F (fT X G c) (fIF c) (fC_partner X G c base) (fCM_met_from X G c base) (fCM_way_to X G c base), He.meth_ok (c.fact 57 (f := .meth "Flow" "fill") rfl), F.binds fun _ _ _ _ _ _ us hl => match us, hl with | [_, _, _], _ => rfl⟩⟩
theorem fC_Doubled {P : Program} {w : World} {K : PySem.W.Frag} {h : Heap} {mg : PySem.Str → Option Value} (X : K.In h) (G : h.Ns mainGlobals mg) (c : He.SaysD faL fnL K) (base : Heap) : CanI P w K mg base (He.ga K "Doubled") 4 "Doubled" ["self", "web"] (spDoubledInit (He.ga K "Doubled") (He.ga K "Flow")) := by
  obtain ⟨fd, D⟩ := c.def_ 23 (d := dDoubled_init) rfl
  have F := toFun (st := sDoubled_init) D
  exact ⟨⟨_, fd, ok_doubled_init F (fT X G c) (fID c) (fIF c).cl (fC_Flow X G c base) (fCM_put X G c base) (fCM_fill X G c base), He.mkr_ok (c.fact 34 (f := .mkr "Doubled") rfl), He.glo_ok X G (c.fact 32 (f := .glo "Doubled") rfl), F.binds fun _ _ _ _ _ _ us hl => match us, hl with | [_, _], _ => rfl⟩⟩
theorem fCM_halves {P : Program} {w : World} {K : PySem.W.Frag} {h : Heap} {mg : PySem.Str → Option Value} (X : K.In h) (G : h.Ns mainGlobals mg) (c : He.SaysD faL fnL K) (base : Heap) : CanM P w K mg base (He.ga K "Doubled") 2 "halves" ["self"] (spHalves (He.ga K "Doubled") (He.ga K "Flow")) := by
  obtain ⟨fd, D⟩ := c.def_ 24 (d := dDoubled_halves) rfl
  have F := toFun (st := sDoubled_halves) D
  exact ⟨⟨_, fd, ok_halves F (fT X G c) (fID c) (fIF c).cl (fCM_met_from X G c base), He.meth_ok (c.fact 58 (f := .meth "Doubled" "halves") rfl), F.binds fun _ _ _ _ _ _ us hl => match us, hl with | [_], _ => rfl⟩⟩
theorem fCM_dues {P : Program} {w : World} {K : PySem.W.Frag} {h : Heap} {mg : PySem.Str → Option Value} (X : K.In h) (G : h.Ns mainGlobals mg) (c : He.SaysD faL fnL K) (base : Heap) : CanM P w K mg base (He.ga K "Doubled") 2 "dues" ["self"] (spDues (He.ga K "Doubled") (He.ga K "Flow")) := by
  obtain ⟨fd, D⟩ := c.def_ 25 (d := dDoubled_dues) rfl
  have F := toFun (st := sDoubled_dues) D
  exact ⟨⟨_, fd, ok_dues F (fT X G c) (fID c) (fIF c).cl (fCM_along X G c base), He.meth_ok (c.fact 59 (f := .meth "Doubled" "dues") rfl), F.binds fun _ _ _ _ _ _ us hl => match us, hl with | [_], _ => rfl⟩⟩
theorem fC_paper_in {P : Program} {w : World} {K : PySem.W.Frag} {h : Heap} {mg : PySem.Str → Option Value} (X : K.In h) (G : h.Ns mainGlobals mg) (c : He.SaysD faL fnL K) (base : Heap) : Can P w K mg base 6 "paper_in" ["web"] spPaperIn := by
  obtain ⟨fd, D⟩ := c.def_ 26 (d := dpaper_in) rfl
  have F := toFun (st := spaper_in) D
  exact ⟨⟨_, fd, ok_paper_in F (fT X G c) (fID c) (fC_Doubled X G c base) (fCM_halves X G c base) (fCM_dues X G c base), He.glo_ok X G (c.fact 17 (f := .glo "paper_in") rfl), F.kp, F.binds fun _ _ _ _ _ _ us hl => match us, hl with | [_], _ => rfl⟩⟩
theorem fCM_whole {P : Program} {w : World} {K : PySem.W.Frag} {h : Heap} {mg : PySem.Str → Option Value} (X : K.In h) (G : h.Ns mainGlobals mg) (c : He.SaysD faL fnL K) (base : Heap) : CanM P w K mg base (He.ga K "Chain") 2 "whole" ["self"] (spWhole (He.ga K "Chain")) := by
  obtain ⟨fd, D⟩ := c.def_ 33 (d := dChain_whole) rfl
  have F := toFun (st := sChain_whole) D
  exact ⟨⟨_, fd, ok_whole F (fT X G c) (fIC c) (fCM_is_loose X G c base) (fCM_has_due X G c base) (fCM_take X G c base), He.meth_ok (c.fact 65 (f := .meth "Chain" "whole") rfl), F.binds fun _ _ _ _ _ _ us hl => match us, hl with | [_], _ => rfl⟩⟩
theorem fC_fixed_by {P : Program} {w : World} {K : PySem.W.Frag} {h : Heap} {mg : PySem.Str → Option Value} (X : K.In h) (G : h.Ns mainGlobals mg) (c : He.SaysD faL fnL K) (base : Heap) : Can P w K mg base 1 "fixed_by" ["chain"] spFixedBy := by
  obtain ⟨fd, D⟩ := c.def_ 35 (d := dfixed_by) rfl
  have F := toFun (st := sfixed_by) D
  exact ⟨⟨_, fd, ok_fixed_by F (fT X G c), He.glo_ok X G (c.fact 19 (f := .glo "fixed_by") rfl), F.kp, F.binds fun _ _ _ _ _ _ us hl => match us, hl with | [_], _ => rfl⟩⟩
theorem fC_fixed_paper {P : Program} {w : World} {K : PySem.W.Frag} {h : Heap} {mg : PySem.Str → Option Value} (X : K.In h) (G : h.Ns mainGlobals mg) (c : He.SaysD faL fnL K) (base : Heap) : Can P w K mg base 7 "fixed_paper" ["web"] spFixedPaper := by
  obtain ⟨fd, D⟩ := c.def_ 36 (d := dfixed_paper) rfl
  have F := toFun (st := sfixed_paper) D
  exact ⟨⟨_, fd, ok_fixed_paper F (fT X G c) (fIC c) (fC_look_at_web X G c base) (fC_paper_in X G c base) (fC_Chain X G c base) (fCM_whole X G c base), He.glo_ok X G (c.fact 20 (f := .glo "fixed_paper") rfl), F.kp, F.binds fun _ _ _ _ _ _ us hl => match us, hl with | [_], _ => rfl⟩⟩
theorem fC_fixed_of {P : Program} {w : World} {K : PySem.W.Frag} {h : Heap} {mg : PySem.Str → Option Value} (X : K.In h) (G : h.Ns mainGlobals mg) (c : He.SaysD faL fnL K) (base : Heap) : Can P w K mg base 8 "fixed_of" ["web"] spFixedOf := by
  obtain ⟨fd, D⟩ := c.def_ 37 (d := dfixed_of) rfl
  have F := toFun (st := sfixed_of) D
  exact ⟨⟨_, fd, ok_fixed_of F (fT X G c) (fC_fixed_by X G c base) (fC_fixed_paper X G c base), He.glo_ok X G (c.fact 21 (f := .glo "fixed_of") rfl), F.kp, F.binds fun _ _ _ _ _ _ us hl => match us, hl with | [_], _ => rfl⟩⟩
theorem fC_law_own {P : Program} {w : World} {K : PySem.W.Frag} {h : Heap} {mg : PySem.Str → Option Value} (X : K.In h) (G : h.Ns mainGlobals mg) (c : He.SaysD faL fnL K) (base : Heap) : Can P w K mg base 1 "_law_own" ["_law_web"] spOwn := by
  obtain ⟨fd, D⟩ := c.def_ 38 (d := d_law_own) rfl
  have F := toFun (st := s_law_own) D
  exact ⟨⟨_, fd, ok_own F (fT X G c), He.glo_ok X G (c.fact 22 (f := .glo "_law_own") rfl), F.kp, F.binds fun _ _ _ _ _ _ us hl => match us, hl with | [_], _ => rfl⟩⟩
theorem fC_law_begun {P : Program} {w : World} {K : PySem.W.Frag} {h : Heap} {mg : PySem.Str → Option Value} (X : K.In h) (G : h.Ns mainGlobals mg) (c : He.SaysD faL fnL K) (base : Heap) : Can P w K mg base 1 "_law_begun" ["_law_script", "_law_k"] (spBegun K) := by
  obtain ⟨fd, D⟩ := c.def_ 39 (d := d_law_begun) rfl
  have F := toFun (st := s_law_begun) D
  exact ⟨⟨_, fd, ok_begun F (fT X G c), He.glo_ok X G (c.fact 23 (f := .glo "_law_begun") rfl), F.kp, F.binds fun _ _ _ _ _ _ us hl => match us, hl with | [_, _], _ => rfl⟩⟩
theorem fC_law_take {P : Program} {w : World} {K : PySem.W.Frag} {h : Heap} {mg : PySem.Str → Option Value} (X : K.In h) (G : h.Ns mainGlobals mg) (c : He.SaysD faL fnL K) (base : Heap) : Can P w K mg base 1 "_law_take" ["_law_state", "_law_many"] spTakeN := by
  obtain ⟨fd, D⟩ := c.def_ 40 (d := d_law_take) rfl
  have F := toFun (st := s_law_take) D
  exact ⟨⟨_, fd, ok_takeN F (fT X G c), He.glo_ok X G (c.fact 24 (f := .glo "_law_take") rfl), F.kp, F.binds fun _ _ _ _ _ _ us hl => match us, hl with | [_, _], _ => rfl⟩⟩
theorem fC_law_order {P : Program} {w : World} {K : PySem.W.Frag} {h : Heap} {mg : PySem.Str → Option Value} (X : K.In h) (G : h.Ns mainGlobals mg) (c : He.SaysD faL fnL K) (base : Heap) : Can P w K mg base 2 "_law_order" ["_law_state", "_law_count"] spOrder := by
  obtain ⟨fd, D⟩ := c.def_ 41 (d := d_law_order) rfl
  have F := toFun (st := s_law_order) D
  exact ⟨⟨_, fd, ok_order F (fT X G c) (fC_law_take X G c base), He.glo_ok X G (c.fact 25 (f := .glo "_law_order") rfl), F.kp, F.binds fun _ _ _ _ _ _ us hl => match us, hl with | [_, _], _ => rfl⟩⟩
theorem fC_law_string {P : Program} {w : World} {K : PySem.W.Frag} {h : Heap} {mg : PySem.Str → Option Value} (X : K.In h) (G : h.Ns mainGlobals mg) (c : He.SaysD faL fnL K) (base : Heap) : Can P w K mg base 3 "_law_string" ["_law_state"] spString := by
  obtain ⟨fd, D⟩ := c.def_ 42 (d := d_law_string) rfl
  have F := toFun (st := s_law_string) D
  exact ⟨⟨_, fd, ok_string F (fT X G c) (fC_law_take X G c base) (fC_law_order X G c base), He.glo_ok X G (c.fact 26 (f := .glo "_law_string") rfl), F.kp, F.binds fun _ _ _ _ _ _ us hl => match us, hl with | [_], _ => rfl⟩⟩
theorem fC_law_bent_right {P : Program} {w : World} {K : PySem.W.Frag} {h : Heap} {mg : PySem.Str → Option Value} (X : K.In h) (G : h.Ns mainGlobals mg) (c : He.SaysD faL fnL K) (base : Heap) : Can P w K mg base 7 "_law_bent_right" ["_law_state", "_law_web", "_law_halves", "_law_dues", "_law_chain"] spBent := by
  obtain ⟨fd, D⟩ := c.def_ 43 (d := d_law_bent_right) rfl
  have F := toFun (st := s_law_bent_right) D
  exact ⟨⟨_, fd, ok_bent F (fT X G c) (fC_law_take X G c base) (fC_lets_fixed X G c base) (fC_law_own X G c base), He.glo_ok X G (c.fact 27 (f := .glo "_law_bent_right") rfl), F.kp, F.binds fun _ _ _ _ _ _ us hl => match us, hl with | [_, _, _, _, _], _ => rfl⟩⟩
theorem facts {P : Program} {w : World} {K : PySem.W.Frag} {h : Heap} {mg : PySem.Str → Option Value} {f : Addr} (X : K.In h) (G : h.Ns mainGlobals mg) (hfa : mg ("law" : PySem.Str) = some (.ref f)) (c : He.SaysD faL fnL K) :
    ∃ fd : FuncData, (∀ (s : Shared) (v : Value), BindsTo s fd ⟨[v], []⟩ [("_law_script", v)]) ∧ ∀ base : Heap, K.In base → base.Ns mainGlobals mg → FnOk P w K mg base CX0 9 f fd ["_law_script"] (spLaw K) := by
  obtain ⟨fd, D⟩ := c.def_ 44 (d := dlaw) rfl
  have F := toFun (st := slaw) D
  have e := hfa.symm.trans (He.glo_ok X G (c.fact 28 (f := .glo "law") rfl))
  cases e
  have b := FunD.bindsA (ps := ["_law_script"]) D fun _ _ _ _ _ _ us hl => match us, hl with | [_], _ => rfl
  exact ⟨fd, fun s v => b s [v] rfl, fun base _ _ => ok_law F (fT X G c) (fC_law_begun X G c base) (fC_law_string X G c base) (fC_law_take X G c base) (fC_lets_fixed X G c base) (fC_fixed_paper X G c base) (fC_law_own X G c base) (fC_law_bent_right X G c base) (fC_fixed_by X G c base) (fC_fixed_of X G c base)⟩
end K33
open PySem PySem.W PySem.Calls PyProof.Rows
theorem PySem.Challenge.cw_touchall_k33_whole_chains_as_long_as_str_holds : PySem.Challenge.rw_touchall_k33_whole_chains_as_long_as_str.Holds := by
  refine K33.head_all fun w mg fa h K KX G hmg c => ?_
  obtain ⟨fd, hb, hF⟩ := K33.facts (P := (PySem.Challenge.rw_touchall_k33_whole_chains_as_long_as_str).prog) (w := w) KX G hmg c
  exact ⟨fd, K33.spLaw K, hb, fun H a ns hl _ hS => ⟨a, ns, rfl, hS, fun _ => rfl⟩, hF⟩
