import PyProof.Rows.All
import Wide.All
import OpenK.AllK
import Wide.FinOn
import PySem.Challenge.RW_farcuts_k33_sums_of_drawn_cuts
import HandS.ForMost
import HandS.ForExc
import HandS.Wide
import HandS.IsInst
import HandS.SortInts
import HandS.Deep
import HandS.Steps
import HandS.TupAny
import HandS.Codes
import HandS.NoneIn
import HandS.ExcIs
import HandS.ExcValue
import HandS.Conv
import KE.DataCmp
import KE.SortData
import HandS.SetFor
import KE.KSetDisp
import HandS.SetIn
import HandS.WordsExc
import HandS.Style
import KE.KExcMore
import PyProof.CallStr
import HandS.Flt
import HandS.Zip
import HandS.TupSets
set_option Elab.async false
set_option linter.all false
set_option maxRecDepth 100000
set_option maxHeartbeats 4000000
namespace Fc
open PySem PySem.Spec PyProof.Rows L2
open C8 (Cal pe_c)
/-! ### readings by names -/
def rAddS : R2 := fun x y H Q => ∃ i j, x = .str i ∧ y = .str j ∧ i.length + j.length ≤ sizeLine ∧ Q (.str (i ++ j)) H
theorem op_addS {X : Cx} : OpR X (binaryOp .Add) rAddS := op_add_str
def rLenSeq (K : PySem.W.Frag) : List V → Hp → VK → Prop := fun xs H Q => ∃ p ys, xs = [.ref p] ∧ (SqL K H p ys ∨ SqT K H p ys) ∧ Q (.int ys.length) H
theorem cr_lenSeq {X : Cx} : CallR X (.builtin "len") (rLenSeq X.K) := call_len_seq
def rLenStr : List V → Hp → VK → Prop := fun xs H Q => ∃ z, xs = [.str z] ∧ z.length ≤ sizeLine ∧ Q (.int z.length) H
theorem cr_lenStr {X : Cx} : CallR X (.builtin "len") rLenStr := call_len_str
def rAbs : List V → Hp → VK → Prop := fun xs H Q => ∃ i, xs = [.int i] ∧ Q (.int (if i < 0 then -i else i)) H
theorem cr_abs {X : Cx} : CallR X (.builtin "abs") rAbs := call_abs
def rMax2 : List V → Hp → VK → Prop := fun xs H Q => ∃ i j, xs = [.int i, .int j] ∧ Q (.int (if j > i then j else i)) H
theorem cr_max2 {X : Cx} (h : X.calm = true) : CallR X (.builtin "max") rMax2 := call_max2 h
def rMin2 : List V → Hp → VK → Prop := fun xs H Q => ∃ i j, xs = [.int i, .int j] ∧ Q (.int (if j < i then j else i)) H
theorem cr_min2 {X : Cx} (h : X.calm = true) : CallR X (.builtin "min") rMin2 := call_min2 h
def rInt1 : List V → Hp → VK → Prop := fun xs H Q => (∃ i, xs = [.int i] ∧ Q (.int i) H) ∨ ∃ k, xs = [.bl k] ∧ Q (.int (if k then 1 else 0)) H
theorem cr_int1 {X : Cx} : CallR X (.type "int") rInt1 := call_int1
def rStrI : List V → Hp → VK → Prop := fun xs H Q => ∃ i, xs = [.int i] ∧ i.natAbs.log2 < 1920 ∧ Q (.str (toString i)) H
theorem cr_strI {X : Cx} : CallR X (.type "str") rStrI := call_str_int
def rListOf (K : PySem.W.Frag) : List V → Hp → VK → Prop := fun xs H Q => ∃ p ys, xs = [.ref p] ∧ (SqL K H p ys ∨ SqT K H p ys) ∧ ∀ l, H l = none → Q (.ref l) (upd H l (.lst ys))
theorem cr_listOf {X : Cx} : CallR X (.type "list") (rListOf X.K) := call_list_of
theorem room_u {k : Nat} {A : Around} (hr : Room k A) : A.units + 64 < cLine := by have := hr.un; omega
theorem room_u65 {k : Nat} {A : Around} (hr : Room k A) : A.units + 65 < cLine := by have := hr.un; omega
theorem _root_.L2.Room.units65 {k : Nat} {A : Around} (hr : Room k A) : A.units + 65 < cLine := room_u65 hr
section
variable {P : Program} {w : World} {K : PySem.W.Frag} {mg : Str → Option Value} {base : Heap}
theorem cal_of {x qual : Str} {st : Stmt} {f : Addr} {fd : FuncData} {ps : List Str} {k : Nat} {sp : Sp} (h : FnOk P w K mg base CX0 k f fd ps sp) (F : Fun K x qual st f fd) (b : Binds K fd ps []) (g : mg x = some (.ref f)) : Cal P w K mg base k x sp [] :=
  ⟨⟨f, fd, ps, [], h, g, F.kp, b, .nil⟩⟩
end
/-! ### stepping through a reading -/
section
variable {K : PySem.W.Frag} {σ : L2.St} {H : Hp} {Q : VK} {D : Ends} {x y v : V} {ta tb te : TE} {t u : TS} {i j : Int}
theorem g_var {n : Nat} (h : σ[n]? = some (some v)) (q : Q v H) : tVar n σ H Q := ⟨v, h, q⟩
theorem g_c (q : Q v H) : tC v σ H Q := q
theorem g_op {r : R2} (q : ta σ H fun x H1 => tb σ H1 fun y H2 => r x y H2 Q) : tOp r ta tb σ H Q := q
theorem g_un {r : V → Hp → VK → Prop} (q : ta σ H fun x H1 => r x H1 Q) : tUn r ta σ H Q := q
theorem g_neg (q : Q (.int (-i)) H) : rU (fun i => .int (-i)) (.int i) H Q := ⟨i, rfl, q⟩
theorem g_I0 {g : Int → Int → V} (q : Q (g i j) H) : rI0 g (.int i) (.int j) H Q := ⟨i, j, rfl, rfl, q⟩
theorem g_mod (c : 0 < j) (q : Q (.int (i % j)) H) : rI (fun _ j => 0 < j) (fun i j => .int (i % j)) (.int i) (.int j) H Q := ⟨i, j, rfl, rfl, c, q⟩
theorem g_mul (c : CMulW i j) (q : Q (.int (i * j)) H) : rI CMulW (fun i j => .int (i * j)) (.int i) (.int j) H Q := ⟨i, j, rfl, rfl, c, q⟩
theorem g_div (c : CDivW i j) (q : Q (.int (i / j)) H) : rI CDivW (fun i j => .int (i / j)) (.int i) (.int j) H Q := ⟨i, j, rfl, rfl, c, q⟩
theorem g_pow (c : CPow i j) (q : Q (.int (i ^ j.toNat)) H) : rI CPow (fun i j => .int (i ^ j.toNat)) (.int i) (.int j) H Q := ⟨i, j, rfl, rfl, c, q⟩
theorem g_eq (c : scal x y = true) (q : Q (.bl (decide (x = y))) H) : rEq x y H Q := ⟨c, q⟩
theorem g_ne (c : scal x y = true) (q : Q (.bl (!decide (x = y))) H) : rNe x y H Q := ⟨c, q⟩
theorem g_eqI (q : Q (.bl (decide (i = j))) H) : rEq (.int i) (.int j) H Q := ⟨rfl, by
  have e : decide (V.int i = V.int j) = decide (i = j) := by simp
  rw [e]; exact q⟩
theorem g_neI (q : Q (.bl (!decide (i = j))) H) : rNe (.int i) (.int j) H Q := ⟨rfl, by
  have e : decide (V.int i = V.int j) = decide (i = j) := by simp
  rw [e]; exact q⟩
theorem g_eqB {a b : Bool} (q : Q (.bl (decide (a = b))) H) : rEq (.bl a) (.bl b) H Q := ⟨rfl, by
  have e : decide (V.bl a = V.bl b) = decide (a = b) := by simp
  rw [e]; exact q⟩
theorem g_neB {a b : Bool} (q : Q (.bl (!decide (a = b))) H) : rNe (.bl a) (.bl b) H Q := ⟨rfl, by
  have e : decide (V.bl a = V.bl b) = decide (a = b) := by simp
  rw [e]; exact q⟩
theorem g_ixT {p : Addr} {xs : List V} (h : SqT K H p xs) (a : atI xs i = some v) (q : Q v H) : rIxT K (.ref p) (.int i) H Q := ⟨p, xs, i, v, rfl, rfl, h, a, q⟩
theorem g_ixL {p : Addr} {xs : List V} (h : SqL K H p xs) (a : atI xs i = some v) (q : Q v H) : rIxL K (.ref p) (.int i) H Q := ⟨p, xs, i, v, rfl, rfl, h, a, q⟩
theorem g_tcons {tr : TA} {Q : List V → Hp → Prop} (q : ta σ H fun x H1 => tr σ H1 fun xs H2 => Q (x :: xs) H2) : tCons ta tr σ H Q := q
theorem g_tnil {Q : List V → Hp → Prop} (q : Q [] H) : tNil σ H Q := q
theorem g_cb {r : List V → Hp → VK → Prop} {t : TA} (q : t σ H fun vs H1 => r vs H1 Q) : tCB r t σ H Q := q
theorem g_call {sp : Sp} {dvs : List V} {E : XK} {t : TA} (q : t σ H fun vs H1 => sp (vs ++ dvs) H1 Q E) : tCall sp dvs E t σ H Q := q
theorem g_tup {t : TA} (q : t σ H fun xs H1 => xs.length ≤ sizeLine ∧ ∀ p, H1 p = none → Q (.ref p) (upd H1 p (.tup xs))) : tTup t σ H Q := q
theorem g_lst {t : TA} (q : t σ H fun xs H1 => xs.length ≤ sizeLine ∧ ∀ p, H1 p = none → Q (.ref p) (upd H1 p (.lst xs))) : tLst t σ H Q := q
theorem g_if {c : TT} (q : c σ H fun b H1 => if b = true then t D σ H1 else u D σ H1) : tIfS c t u D σ H := q
theorem g_test {Q : Bool → Hp → Prop} (q : te σ H fun x H' => ∃ k, x = .bl k ∧ Q k H') : tTest te σ H Q := q
theorem g_tB {Q : Bool → Hp → Prop} (q : te σ H fun x H' => ∃ k, x = .bl k ∧ Q k H') : tB te σ H Q := q
theorem g_bl {b : Bool} {Q : Bool → Hp → Prop} (q : Q b H) : ∃ k, V.bl b = .bl k ∧ Q k H := ⟨b, rfl, q⟩
theorem g_blV {b : Bool} {Q : Bool → Prop} (q : Q b) : ∃ k, V.bl b = .bl k ∧ Q k := ⟨b, rfl, q⟩
theorem g_not {c : TT} {Q : Bool → Hp → Prop} (q : c σ H fun c H1 => Q (!c) H1) : tNot c σ H Q := q
theorem g_and {c d : TT} {Q : Bool → Hp → Prop} (q : c σ H fun c H1 => if c = true then d σ H1 Q else Q false H1) : tAnd c d σ H Q := q
theorem g_or {c d : TT} {Q : Bool → Hp → Prop} (q : c σ H fun c H1 => if c = true then Q true H1 else d σ H1 Q) : tOr c d σ H Q := q
theorem g_andV (q : ta σ H fun x H1 => ∃ c, x = .bl c ∧ if c = true then tb σ H1 Q else Q (.bl false) H1) : tAndV ta tb σ H Q := q
theorem g_orV (q : ta σ H fun x H1 => ∃ c, x = .bl c ∧ if c = true then Q (.bl true) H1 else tb σ H1 Q) : tOrV ta tb σ H Q := q
theorem g_notV (q : ta σ H fun x H1 => ∃ c, x = .bl c ∧ Q (.bl (!c)) H1) : tNotV ta σ H Q := q
theorem g_seq (q : t { D with nx := u D } σ H) : tSeq t u D σ H := q
theorem g_cut (Mid : L2.St → Hp → Prop) (h : t { D with nx := Mid } σ H) (q : ∀ σ' H', Mid σ' H' → u D σ' H') : C8.tCut t u D σ H := ⟨Mid, h, q⟩
theorem g_next (q : D.nx σ H) : tNext D σ H := q
theorem g_asg {g : TG} (q : te σ H fun x H1 => g x σ H1 D.nx) : tAsg te g D σ H := q
theorem g_name {n : Nat} {Q : L2.St → Hp → Prop} (q : Q (σ.set n (some v)) H) : gName n v σ H Q := q
theorem g_ret (q : te σ H D.rt) : tRet te D σ H := q
theorem g_drop (q : te σ H fun _ H1 => D.nx σ H1) : tDrop te D σ H := q
theorem g_par {a b : Nat} {ta : TA} (q : ta σ H fun vs H1 => ∃ v w, vs = [v, w] ∧ D.nx ((σ.set a (some v)).set b (some w)) H1) : tPar a b ta D σ H := q
theorem g_two {x y : V} {Q : V → V → Prop} (q : Q x y) : ∃ v w, [x, y] = [v, w] ∧ Q v w := ⟨x, y, rfl, q⟩
theorem g_aug {n : Nat} {ti : R2} (h : σ[n]? = some (some x)) (q : te σ H fun y H1 => ti x y H1 fun z H2 => D.nx (σ.set n (some z)) H2) : tAug n te ti D σ H := ⟨x, h, q⟩
theorem g_ipI {g : Int → Int → Int} (q : Q (.int (g i j)) H) : ipI g (.int i) (.int j) H Q := ⟨i, j, rfl, rfl, q⟩
theorem g_sub {o ix : TE} {s : V → V → V → Hp → (Hp → Prop) → Prop} {Q : L2.St → Hp → Prop} (q : o σ H fun o H1 => ix σ H1 fun i H2 => s o i v H2 fun H3 => Q σ H3) : gSub o ix s v σ H Q := q
theorem g_setL {p : Addr} {xs : List V} {k : Nat} {Q : Hp → Prop} (h : H p = some (.lst xs)) (e : ixN xs.length i = some k) (q : Q (upd H p (.lst (xs.set k v)))) : rSetL (.ref p) (.int i) v H Q := ⟨p, xs, i, k, rfl, rfl, h, e, q⟩
theorem g_abs (q : Q (.int (if i < 0 then -i else i)) H) : rAbs [.int i] H Q := ⟨i, rfl, q⟩
theorem g_max2 (q : Q (.int (if j > i then j else i)) H) : rMax2 [.int i, .int j] H Q := ⟨i, j, rfl, q⟩
theorem g_min2 (q : Q (.int (if j < i then j else i)) H) : rMin2 [.int i, .int j] H Q := ⟨i, j, rfl, q⟩
theorem g_intI (q : Q (.int i) H) : rInt1 [.int i] H Q := .inl ⟨i, rfl, q⟩
theorem g_intB {k : Bool} (q : Q (.int (if k then 1 else 0)) H) : rInt1 [.bl k] H Q := .inr ⟨k, rfl, q⟩
theorem g_lenL {p : Addr} {xs : List V} (h : SqL K H p xs) (q : Q (.int xs.length) H) : rLenSeq K [.ref p] H Q := ⟨p, xs, rfl, .inl h, q⟩
theorem g_lenT {p : Addr} {xs : List V} (h : SqT K H p xs) (q : Q (.int xs.length) H) : rLenSeq K [.ref p] H Q := ⟨p, xs, rfl, .inr h, q⟩
theorem g_inL {p : Addr} {xs : List V} {neg : Bool} (h : SqL K H p xs) (a : flatV x = true) (b : xs.all flatV = true) (q : Q (.bl (if neg then !inV x xs else inV x xs)) H) : rIn K neg x (.ref p) H Q := ⟨p, xs, rfl, .inl h, a, b, q⟩
theorem g_isi {c : V} {t u : Value} {b : Bool} (h1 : ClsV c u) (h2 : TyX K H x t) (h3 : PySem.W.kitOne K t u = some b) (q : Q (.bl b) H) : rIsi K [x, c] H Q := ⟨x, c, t, u, b, rfl, h1, h2, h3, q⟩
theorem ifD {p : Prop} [Decidable p] {A B : Prop} (h1 : p → A) (h2 : ¬ p → B) : if decide p = true then A else B := by
  by_cases h : p
  · simp only [h, decide_true, if_true]; exact h1 h
  · simp only [h, decide_false]; exact h2 h
theorem ifND {p : Prop} [Decidable p] {A B : Prop} (h1 : ¬ p → A) (h2 : p → B) : if (!decide p) = true then A else B := by
  by_cases h : p
  · simp only [h, decide_true]; exact h2 h
  · simp only [h, decide_false]; exact h1 h
theorem ifB {b : Bool} {A B : Prop} (h1 : b = true → A) (h2 : b = false → B) : if b = true then A else B := by
  cases b
  · exact h2 rfl
  · exact h1 rfl
end
/-! ### heaps -/
section
variable {K : PySem.W.Frag} {H H' : Hp} {a p : Addr} {xs ys : List V} {o : HO}
theorem same_new (h : H p = none) : Same H (upd H p o) := fun b u e => by rw [upd_ne (ne_of_none e h)]; exact e
theorem same_to {H1 : Hp} (e : Same H H') (h : H' p = none) : Same H (upd H' p o) := e.trans (same_new h)
theorem sqT_same (e : Same H H') (h : SqT K H a xs) : SqT K H' a xs := by
  rcases h with (h | ⟨o, h⟩) | h
  · exact .inl (.inl (e _ _ h))
  · exact .inl (.inr ⟨o, e _ _ h⟩)
  · exact .inr h
theorem sqL_same (e : Same H H') (h : SqL K H a xs) : SqL K H' a xs := e.seq h
theorem sqT_new (e : H p = none) (h : SqT K H a xs) : SqT K (upd H p o) a xs := sqT_same (same_new e) h
theorem sqL_new (e : H p = none) (h : SqL K H a xs) : SqL K (upd H p o) a xs := sqL_same (same_new e) h
theorem sqT_at : SqT K (upd H p (.tup xs)) p xs := .inl (.inl upd_same)
theorem sqL_at : SqL K (upd H p (.lst xs)) p xs := .inl (.inl upd_same)
theorem sqT_mut (e : H p = some (.lst ys)) (h : SqT K H a xs) : SqT K (upd H p o) a xs := by
  rcases h with (h | ⟨u, h⟩) | h
  · have n : a ≠ p := ne_of h e (by intro z; cases z)
    exact .inl (.inl (by rw [upd_ne n]; exact h))
  · have n : a ≠ p := ne_of h e (by intro z; cases z)
    exact .inl (.inr ⟨u, by rw [upd_ne n]; exact h⟩)
  · exact .inr h
/-- all but the object at p stands as it stood -/
def But (p : Addr) (H H' : Hp) : Prop := ∀ b o, b ≠ p → H b = some o → H' b = some o
theorem But.refl (p : Addr) (H : Hp) : But p H H := fun _ _ _ h => h
theorem But.trans {H1 H2 : Hp} (a : But p H H1) (b : But p H1 H2) : But p H H2 := fun c o n h => b c o n (a c o n h)
theorem But.same (e : Same H H') : But p H H' := fun b o _ h => e b o h
theorem But.mut : But p H (upd H p o) := fun b u n h => by rw [upd_ne n]; exact h
theorem But.new {q : Addr} (h : H q = none) : But p H (upd H q o) := But.same (same_new h)
theorem sqT_but (b : But p H H') (e : H p = some (.lst ys)) (h : SqT K H a xs) : SqT K H' a xs := by
  rcases h with (h | ⟨u, h⟩) | h
  · exact .inl (.inl (b _ _ (ne_of h e (by intro z; cases z)) h))
  · exact .inl (.inr ⟨u, b _ _ (ne_of h e (by intro z; cases z)) h⟩)
  · exact .inr h
theorem sqL_but (b : But p H H') (e : H p = none) (h : SqL K H a xs) : SqL K H' a xs := by
  rcases h with (h | ⟨u, h⟩) | h
  · exact .inl (.inl (b _ _ (ne_of_none h e) h))
  · exact .inl (.inr ⟨u, b _ _ (ne_of_none h e) h⟩)
  · exact .inr h
theorem new_of (n : H' p = none) (e : Same H H') : H p = none := e.free n
end
/-! ### words -/

/-! ### loops -/
section
variable {K : PySem.W.Frag} {σ : L2.St} {H : Hp} {Q : VK} {D : Ends} {x y v : V} {ta tb te : TE} {t u : TS} {i j : Int}
/-- what a for's loop asks, walked by J -/
def LoopF (J : It) (g : TG) (tb : TS) (D : Ends) (σ : L2.St) (H : Hp) : Prop := ∃ W : Nat → Nat → L2.St → Hp → Prop, (∃ m, W 0 m σ H) ∧ ∀ i m σ H, W i m σ H →
  (J.stop i H ∧ D.nx σ H) ∨ (J.go i H ∧ ∃ N : L2.St → Hp → Prop, (∀ σ' H', N σ' H' → ∃ m', m' < m ∧ W (i + 1) m' σ' H') ∧ ∀ x H', J.yld i H x H' → g x σ H' fun σ2 H2 => tb { D with nx := N, ct := N, bk := D.nx } σ2 H2)
theorem g_for {wi : TI} {g : TG} {tb : TS} (q : wi σ H fun J H1 => LoopF J g tb D σ H1) : tFor wi g tb D σ H := q
theorem loop_range {lo : Int} {n : Nat} {g : TG} {tb : TS} (Pv : Nat → L2.St → Hp → Prop) (h0 : Pv 0 σ H)
    (hs : ∀ i σ H, i < n → Pv i σ H → g (.int (lo + i)) σ H fun σ2 H2 => tb { D with nx := Pv (i + 1), ct := Pv (i + 1), bk := D.nx } σ2 H2) (hd : ∀ σ H, Pv n σ H → D.nx σ H) : LoopF (Itr lo n) g tb D σ H := for_range Pv h0 hs hd
theorem loop_list {a : Addr} {xs : List V} {g : TG} {tb : TS} (Pv : Nat → L2.St → Hp → Prop) (h0 : Pv 0 σ H) (hl : ∀ i σ H, i ≤ xs.length → Pv i σ H → SqL K H a xs)
    (hs : ∀ i x σ H, xs[i]? = some x → Pv i σ H → g x σ H fun σ2 H2 => tb { D with nx := Pv (i + 1), ct := Pv (i + 1), bk := D.nx } σ2 H2) (hd : ∀ σ H, Pv xs.length σ H → D.nx σ H) : LoopF (Itl K a) g tb D σ H := for_list Pv h0 hl hs hd
theorem loop_tup {a : Addr} {xs : List V} {g : TG} {tb : TS} (Pv : Nat → L2.St → Hp → Prop) (h0 : Pv 0 σ H) (hl : ∀ i σ H, i ≤ xs.length → Pv i σ H → SqT K H a xs)
    (hs : ∀ i x σ H, xs[i]? = some x → Pv i σ H → g x σ H fun σ2 H2 => tb { D with nx := Pv (i + 1), ct := Pv (i + 1), bk := D.nx } σ2 H2) (hd : ∀ σ H, Pv xs.length σ H → D.nx σ H) : LoopF (Itt K a) g tb D σ H := for_tup Pv h0 hl hs hd
def rng1 (R : It → Hp → Prop) (vs : List V) (H : Hp) : Prop := ∃ j : Int, vs = [.int j] ∧ -(2 ^ 62) ≤ j ∧ j < 2 ^ 62 ∧ R (Itr 0 j.toNat) H
def rng2 (R : It → Hp → Prop) (vs : List V) (H : Hp) : Prop := ∃ i j : Int, vs = [.int i, .int j] ∧ (-(2 ^ 62) ≤ i ∧ i < 2 ^ 62 ∧ -(2 ^ 62) ≤ j ∧ j < 2 ^ 62) ∧ R (Itr i (j - i).toNat) H
theorem g_irng1 {ta : TA} {R : It → Hp → Prop} (q : ta σ H (rng1 R)) : iRng1 ta σ H R := q
theorem g_irng2 {ta : TA} {R : It → Hp → Prop} (q : ta σ H (rng2 R)) : iRng2 ta σ H R := q
theorem g_rng1 {R : It → Hp → Prop} (h : -(2 ^ 62) ≤ j ∧ j < 2 ^ 62) (q : R (Itr 0 j.toNat) H) : rng1 R [.int j] H := ⟨j, rfl, h.1, h.2, q⟩
theorem g_rng2 {R : It → Hp → Prop} (h : -(2 ^ 62) ≤ i ∧ i < 2 ^ 62 ∧ -(2 ^ 62) ≤ j ∧ j < 2 ^ 62) (q : R (Itr i (j - i).toNat) H) : rng2 R [.int i, .int j] H := ⟨i, j, rfl, h, q⟩
def ilR (K : PySem.W.Frag) (R : It → Hp → Prop) : VK := fun x H1 => ∃ a, x = .ref a ∧ (∃ xs, SqL K H1 a xs) ∧ R (Itl K a) H1
def itR (K : PySem.W.Frag) (R : It → Hp → Prop) : VK := fun x H1 => ∃ a, x = .ref a ∧ (∃ xs, SqT K H1 a xs) ∧ R (Itt K a) H1
theorem g_ilist {tl : TE} {R : It → Hp → Prop} (q : tl σ H (ilR K R)) : iList K tl σ H R := q
theorem g_itup {tl : TE} {R : It → Hp → Prop} (q : tl σ H (itR K R)) : iTup K tl σ H R := q
theorem g_ilR {a : Addr} {xs : List V} {R : It → Hp → Prop} (h : SqL K H a xs) (q : R (Itl K a) H) : ilR K R (.ref a) H := ⟨a, rfl, ⟨xs, h⟩, q⟩
theorem g_itR {a : Addr} {xs : List V} {R : It → Hp → Prop} (h : SqT K H a xs) (q : R (Itt K a) H) : itR K R (.ref a) H := ⟨a, rfl, ⟨xs, h⟩, q⟩
/-- what a comprehension asks, walked by J, its list at L -/
def LoopC (J : It) (g : TG) (tt : TT) (te : TE) (vs : List Nat) (L : Addr) (σ : L2.St) (Qd : Hp → Prop) (H1 : Hp) : Prop := ∃ W : Nat → Nat → Hp → Prop, (∃ m, W 0 m (upd H1 L (.lst []))) ∧ ∀ i m H, W i m H →
  (J.stop i H ∧ Qd H) ∨ (J.go i H ∧ ∃ Nx : Hp → Prop, (∀ H', Nx H' → ∃ m', m' < m ∧ W (i + 1) m' H') ∧ ∀ x H', J.yld i H x H' → g x (wipe σ vs) H' fun σ2 H2 => wipe σ2 vs = wipe σ vs ∧ tt σ2 H2 fun b H3 =>
    if b = true then te σ2 H3 fun y H4 => ∃ acc, H4 L = some (.lst acc) ∧ acc.length < sizeLine ∧ Nx (upd H4 L (.lst (acc ++ [y]))) else Nx H3)
theorem g_lc {wi : TI} {g : TG} {tt : TT} {vs : List Nat} (q : wi σ H fun J H1 => ∀ L, H1 L = none → LoopC J g tt te vs L σ (fun H => Q (.ref L) H) H1) : tLc wi g tt te vs σ H Q := q
theorem lcl_range {lo : Int} {n : Nat} {g : TG} {tt : TT} {te : TE} {vs : List Nat} {L : Addr} {Qd : Hp → Prop} (Pv : Nat → Hp → Prop) (h0 : Pv 0 (upd H L (.lst [])))
    (hs : ∀ i H, i < n → Pv i H → g (.int (lo + i)) (wipe σ vs) H fun σ2 H2 => wipe σ2 vs = wipe σ vs ∧ tt σ2 H2 fun b H3 =>
      if b = true then te σ2 H3 fun y H4 => ∃ acc, H4 L = some (.lst acc) ∧ acc.length < sizeLine ∧ Pv (i + 1) (upd H4 L (.lst (acc ++ [y]))) else Pv (i + 1) H3) (hd : ∀ H, Pv n H → Qd H) : LoopC (Itr lo n) g tt te vs L σ Qd H := lc_range Pv h0 hs hd
theorem lcl_list {a : Addr} {xs : List V} {g : TG} {tt : TT} {te : TE} {vs : List Nat} {L : Addr} {Qd : Hp → Prop} (Pv : Nat → Hp → Prop) (h0 : Pv 0 (upd H L (.lst []))) (hl : ∀ i H, i ≤ xs.length → Pv i H → SqL K H a xs)
    (hs : ∀ i x H, xs[i]? = some x → Pv i H → g x (wipe σ vs) H fun σ2 H2 => wipe σ2 vs = wipe σ vs ∧ tt σ2 H2 fun b H3 =>
      if b = true then te σ2 H3 fun y H4 => ∃ acc, H4 L = some (.lst acc) ∧ acc.length < sizeLine ∧ Pv (i + 1) (upd H4 L (.lst (acc ++ [y]))) else Pv (i + 1) H3) (hd : ∀ H, Pv xs.length H → Qd H) : LoopC (Itl K a) g tt te vs L σ Qd H := lc_list Pv h0 hl hs hd
theorem lcl_tup {a : Addr} {xs : List V} {g : TG} {tt : TT} {te : TE} {vs : List Nat} {L : Addr} {Qd : Hp → Prop} (Pv : Nat → Hp → Prop) (h0 : Pv 0 (upd H L (.lst []))) (hl : ∀ i H, i ≤ xs.length → Pv i H → SqT K H a xs)
    (hs : ∀ i x H, xs[i]? = some x → Pv i H → g x (wipe σ vs) H fun σ2 H2 => wipe σ2 vs = wipe σ vs ∧ tt σ2 H2 fun b H3 =>
      if b = true then te σ2 H3 fun y H4 => ∃ acc, H4 L = some (.lst acc) ∧ acc.length < sizeLine ∧ Pv (i + 1) (upd H4 L (.lst (acc ++ [y]))) else Pv (i + 1) H3) (hd : ∀ H, Pv xs.length H → Qd H) : LoopC (Itt K a) g tt te vs L σ Qd H := lc_tup Pv h0 hl hs hd
theorem g_yes {Q : Bool → Hp → Prop} (q : Q true H) : tYes σ H Q := q
/-- a power of written numbers -/
theorem g_powE {k : Int} (c : CPow i j) (e : i ^ j.toNat = k) (q : Q (.int k) H) : rI CPow (fun i j => .int (i ^ j.toNat)) (.int i) (.int j) H Q := ⟨i, j, rfl, rfl, c, by show Q (.int (i ^ j.toNat)) H; rw [e]; exact q⟩
theorem cpow_ok (h : 0 ≤ j ∧ j ≤ 1000000 ∧ i.natAbs < 2 ^ 64) : CPow i j := h
theorem atI_of {ns : List Int} {k : Int} (p : Int → Prop) (h0 : 0 ≤ k) (h : k < ns.length) (hp : ∀ z ∈ ns, p z) : ∃ z, atI (ns.map V.int) k = some (.int z) ∧ p z := by
  obtain ⟨j, rfl⟩ : ∃ j : Nat, k = j := ⟨k.toNat, by omega⟩
  have hj : j < ns.length := by omega
  exact ⟨ns[j], atI_nat (by rw [List.getElem?_map, List.getElem?_eq_getElem hj]; rfl), hp _ (List.getElem_mem hj)⟩
theorem two_le : ([x, y] : List V).length ≤ sizeLine := by show 2 ≤ sizeLine; decide
theorem sz_le {n : Nat} (h : n ≤ 100000) : n ≤ sizeLine := Nat.le_trans h (by decide)
theorem sz_lt {n : Nat} (h : n < 100000) : n < sizeLine := Nat.lt_of_lt_of_le h (by decide)
theorem tyX_tup {a : Addr} {xs : List V} (h : SqT K H a xs) : TyX K H (.ref a) (.type "tuple") := by
  rcases h with (h | ⟨o, h⟩) | ⟨o, its, n, h, c, _⟩
  · exact .base (.tup h)
  · exact .fTuple h
  · exact .kTuple h c
theorem tyX_lst {a : Addr} {xs : List V} (h : SqL K H a xs) : TyX K H (.ref a) (.type "list") := by
  rcases h with (h | ⟨o, h⟩) | ⟨o, its, n, h, c, _⟩
  · exact .base (.lst h)
  · exact .base (.frz h)
  · exact .kList h c
theorem g_isiT {a : Addr} {xs : List V} (h : SqT K H a xs) (q : Q (.bl true) H) : rIsi K [.ref a, .ty "tuple"] H Q := g_isi (.ty _) (tyX_tup h) (kit_ty (by decide +kernel)) q
theorem g_isiL {a : Addr} {xs : List V} (h : SqL K H a xs) (q : Q (.bl true) H) : rIsi K [.ref a, .ty "list"] H Q := g_isi (.ty _) (tyX_lst h) (kit_ty (by decide +kernel)) q
theorem g_isiTL {a : Addr} {xs : List V} (h : SqT K H a xs) (q : Q (.bl false) H) : rIsi K [.ref a, .ty "list"] H Q := g_isi (.ty _) (tyX_tup h) (kit_ty (by decide +kernel)) q
theorem g_isiLT {a : Addr} {xs : List V} (h : SqL K H a xs) (q : Q (.bl false) H) : rIsi K [.ref a, .ty "tuple"] H Q := g_isi (.ty _) (tyX_lst h) (kit_ty (by decide +kernel)) q
theorem g_isiI (q : Q (.bl true) H) : rIsi K [.int i, .ty "int"] H Q := g_isi (.ty _) (.base (.int i)) (kit_ty (by decide +kernel)) q
theorem g_isiIB (q : Q (.bl false) H) : rIsi K [.int i, .ty "bool"] H Q := g_isi (.ty _) (.base (.int i)) (kit_ty (by decide +kernel)) q
theorem g_isiB {b : Bool} (q : Q (.bl true) H) : rIsi K [.bl b, .ty "bool"] H Q := g_isi (.ty _) (.base (.bl b)) (kit_ty (by decide +kernel)) q
theorem g_isiS {s : Str} (q : Q (.bl true) H) : rIsi K [.str s, .ty "str"] H Q := g_isi (.ty _) (.base (.str s)) (kit_ty (by decide +kernel)) q
end
/-! ### one step of a reading: what stands below it, found by its head -/
class St1 (g : Prop) (n : outParam Prop) : Prop where
  pf : n → g
section
variable {K : PySem.W.Frag} {σ : L2.St} {H : Hp} {Q : VK} {D : Ends} {x y v : V} {ta tb te : TE} {t u : TS} {i j : Int} {n m : Nat} {b : Bool}
instance  : St1 (tC v σ H Q) (Q v H) := ⟨g_c⟩
instance {r : R2} : St1 (tOp r ta tb σ H Q) (ta σ H fun x H1 => tb σ H1 fun y H2 => r x y H2 Q) := ⟨g_op⟩
instance {r : V → Hp → VK → Prop} : St1 (tUn r ta σ H Q) (ta σ H fun x H1 => r x H1 Q) := ⟨g_un⟩
instance  : St1 (rU (fun i => .int (-i)) (.int i) H Q) (Q (.int (-i)) H) := ⟨g_neg⟩
instance {g : Int → Int → V} : St1 (rI0 g (.int i) (.int j) H Q) (Q (g i j) H) := ⟨g_I0⟩
instance  : St1 (rEq (.int i) (.int j) H Q) (Q (.bl (decide (i = j))) H) := ⟨g_eqI⟩
instance  : St1 (rNe (.int i) (.int j) H Q) (Q (.bl (!decide (i = j))) H) := ⟨g_neI⟩
instance {a b : Bool} : St1 (rEq (.bl a) (.bl b) H Q) (Q (.bl (decide (a = b))) H) := ⟨g_eqB⟩
instance {a b : Bool} : St1 (rNe (.bl a) (.bl b) H Q) (Q (.bl (!decide (a = b))) H) := ⟨g_neB⟩
instance {tr : TA} {Q : List V → Hp → Prop} : St1 (tCons ta tr σ H Q) (ta σ H fun x H1 => tr σ H1 fun xs H2 => Q (x :: xs) H2) := ⟨g_tcons⟩
instance {Q : List V → Hp → Prop} : St1 (tNil σ H Q) (Q [] H) := ⟨g_tnil⟩
instance {r : List V → Hp → VK → Prop} {t : TA} : St1 (tCB r t σ H Q) (t σ H fun vs H1 => r vs H1 Q) := ⟨g_cb⟩
instance {sp : Sp} {dvs : List V} {E : XK} {t : TA} : St1 (tCall sp dvs E t σ H Q) (t σ H fun vs H1 => sp (vs ++ dvs) H1 Q E) := ⟨g_call⟩
instance {t : TA} : St1 (tTup t σ H Q) (t σ H fun xs H1 => xs.length ≤ sizeLine ∧ ∀ p, H1 p = none → Q (.ref p) (upd H1 p (.tup xs))) := ⟨g_tup⟩
instance {t : TA} : St1 (tLst t σ H Q) (t σ H fun xs H1 => xs.length ≤ sizeLine ∧ ∀ p, H1 p = none → Q (.ref p) (upd H1 p (.lst xs))) := ⟨g_lst⟩
instance {c : TT} : St1 (tIfS c t u D σ H) (c σ H fun b H1 => if b = true then t D σ H1 else u D σ H1) := ⟨g_if⟩
instance {Q : Bool → Hp → Prop} : St1 (tTest te σ H Q) (te σ H fun x H' => ∃ k, x = .bl k ∧ Q k H') := ⟨g_test⟩
instance {Q : Bool → Hp → Prop} : St1 (tB te σ H Q) (te σ H fun x H' => ∃ k, x = .bl k ∧ Q k H') := ⟨g_tB⟩
instance {c : TT} {Q : Bool → Hp → Prop} : St1 (tNot c σ H Q) (c σ H fun c H1 => Q (!c) H1) := ⟨g_not⟩
instance {c d : TT} {Q : Bool → Hp → Prop} : St1 (tAnd c d σ H Q) (c σ H fun c H1 => if c = true then d σ H1 Q else Q false H1) := ⟨g_and⟩
instance {c d : TT} {Q : Bool → Hp → Prop} : St1 (tOr c d σ H Q) (c σ H fun c H1 => if c = true then Q true H1 else d σ H1 Q) := ⟨g_or⟩
instance  : St1 (tAndV ta tb σ H Q) (ta σ H fun x H1 => ∃ c, x = .bl c ∧ if c = true then tb σ H1 Q else Q (.bl false) H1) := ⟨g_andV⟩
instance  : St1 (tOrV ta tb σ H Q) (ta σ H fun x H1 => ∃ c, x = .bl c ∧ if c = true then Q (.bl true) H1 else tb σ H1 Q) := ⟨g_orV⟩
instance  : St1 (tNotV ta σ H Q) (ta σ H fun x H1 => ∃ c, x = .bl c ∧ Q (.bl (!c)) H1) := ⟨g_notV⟩
instance  : St1 (tSeq t u D σ H) (t { D with nx := u D } σ H) := ⟨g_seq⟩
instance  : St1 (tNext D σ H) (D.nx σ H) := ⟨g_next⟩
instance {g : TG} : St1 (tAsg te g D σ H) (te σ H fun x H1 => g x σ H1 D.nx) := ⟨g_asg⟩
instance {Q : L2.St → Hp → Prop} : St1 (gName n v σ H Q) (Q (σ.set n (some v)) H) := ⟨g_name⟩
instance  : St1 (tRet te D σ H) (te σ H D.rt) := ⟨g_ret⟩
instance  : St1 (tDrop te D σ H) (te σ H fun _ H1 => D.nx σ H1) := ⟨g_drop⟩
instance {ta : TA} : St1 (tPar n m ta D σ H) (ta σ H fun vs H1 => ∃ v w, vs = [v, w] ∧ D.nx ((σ.set n (some v)).set m (some w)) H1) := ⟨g_par⟩
instance {g : Int → Int → Int} : St1 (ipI g (.int i) (.int j) H Q) (Q (.int (g i j)) H) := ⟨g_ipI⟩
instance {o ix : TE} {s : V → V → V → Hp → (Hp → Prop) → Prop} {Q : L2.St → Hp → Prop} : St1 (gSub o ix s v σ H Q) (o σ H fun o H1 => ix σ H1 fun i H2 => s o i v H2 fun H3 => Q σ H3) := ⟨g_sub⟩
instance  : St1 (rAbs [.int i] H Q) (Q (.int (if i < 0 then -i else i)) H) := ⟨g_abs⟩
instance  : St1 (rMax2 [.int i, .int j] H Q) (Q (.int (if j > i then j else i)) H) := ⟨g_max2⟩
instance  : St1 (rMin2 [.int i, .int j] H Q) (Q (.int (if j < i then j else i)) H) := ⟨g_min2⟩
instance  : St1 (rInt1 [.int i] H Q) (Q (.int i) H) := ⟨g_intI⟩
instance  : St1 (rInt1 [.bl b] H Q) (Q (.int (if b then 1 else 0)) H) := ⟨g_intB⟩
instance {wi : TI} {g : TG} {tb : TS} : St1 (tFor wi g tb D σ H) (wi σ H fun J H1 => LoopF J g tb D σ H1) := ⟨g_for⟩
instance {ta : TA} {R : It → Hp → Prop} : St1 (iRng1 ta σ H R) (ta σ H (rng1 R)) := ⟨g_irng1⟩
instance {ta : TA} {R : It → Hp → Prop} : St1 (iRng2 ta σ H R) (ta σ H (rng2 R)) := ⟨g_irng2⟩
instance {tl : TE} {R : It → Hp → Prop} : St1 (iList K tl σ H R) (tl σ H (ilR K R)) := ⟨g_ilist⟩
instance {tl : TE} {R : It → Hp → Prop} : St1 (iTup K tl σ H R) (tl σ H (itR K R)) := ⟨g_itup⟩
instance {wi : TI} {g : TG} {tt : TT} {vs : List Nat} : St1 (tLc wi g tt te vs σ H Q) (wi σ H fun J H1 => ∀ L, H1 L = none → LoopC J g tt te vs L σ (fun H => Q (.ref L) H) H1) := ⟨g_lc⟩
instance {Q : Bool → Hp → Prop} : St1 (tYes σ H Q) (Q true H) := ⟨g_yes⟩
instance  : St1 (rIsi K [.int i, .ty "int"] H Q) (Q (.bl true) H) := ⟨g_isiI⟩
instance  : St1 (rIsi K [.int i, .ty "bool"] H Q) (Q (.bl false) H) := ⟨g_isiIB⟩
instance  : St1 (rIsi K [.bl b, .ty "bool"] H Q) (Q (.bl true) H) := ⟨g_isiB⟩
instance {s : Str} : St1 (rIsi K [.str s, .ty "str"] H Q) (Q (.bl true) H) := ⟨g_isiS⟩
instance {b : Bool} {Q : Bool → Prop} : St1 (∃ k, V.bl b = .bl k ∧ Q k) (Q b) := ⟨fun q => ⟨b, rfl, q⟩⟩
instance {x y : V} {Q : V → V → Prop} : St1 (∃ v w, [x, y] = [v, w] ∧ Q v w) (Q x y) := ⟨fun q => ⟨x, y, rfl, q⟩⟩
instance {A B : Prop} : St1 (if true = true then A else B) A := ⟨iteT⟩
instance {A B : Prop} : St1 (if false = true then A else B) B := ⟨iteF⟩
instance {A B : Prop} : St1 (if (!true) = true then A else B) B := ⟨iteF⟩
instance {A B : Prop} : St1 (if (!false) = true then A else B) A := ⟨iteT⟩
instance {p A B : Prop} [Decidable p] : St1 (if (!!decide p) = true then A else B) (if decide p = true then A else B) := ⟨fun h => by rw [Bool.not_not]; exact h⟩
end

/-! ### the rules that hang on the written part, with K said -/
section
variable {X : Cx} {K : PySem.W.Frag}
theorem k_isi (h : X.K = K := by rfl) : CallR X (.builtin "isinstance") (rIsi K) := by subst h; exact call_isi
theorem k_isiT (h : X.K = K := by rfl) : CallR X (.builtin "isinstance") (rIsiT K) := by subst h; exact call_isiT
theorem k_ixL (h : X.K = K := by rfl) : IxR X (rIxL K) := by subst h; exact ix_list
theorem k_ixT (h : X.K = K := by rfl) : IxR X (rIxT K) := by subst h; exact ix_tup
theorem k_slL (h : X.K = K := by rfl) : SlR X (rSlL K) := by subst h; exact sl_list
theorem k_slT (h : X.K = K := by rfl) : SlR X (rSlA K) := by subst h; exact sl_tupA
theorem k_len (h : X.K = K := by rfl) : CallR X (.builtin "len") (rLenSeq K) := by subst h; exact cr_lenSeq
theorem k_list (h : X.K = K := by rfl) : CallR X (.type "list") (rListOf K) := by subst h; exact cr_listOf
theorem k_sum (hc : X.calm = true := by rfl) (h : X.K = K := by rfl) : CallR X (.builtin "sum") (rSum K) := by subst h; exact cr_sum hc
theorem k_max (hc : X.calm = true := by rfl) (h : X.K = K := by rfl) : CallR X (.builtin "max") (rMax K) := by subst h; exact cr_max hc
theorem k_min (hc : X.calm = true := by rfl) (h : X.K = K := by rfl) : CallR X (.builtin "min") (rMin K) := by subst h; exact cr_min hc
theorem k_all (hc : X.calm = true := by rfl) (h : X.K = K := by rfl) : CallR X (.builtin "all") (rAll K) := by subst h; exact cr_all hc
theorem k_any (hc : X.calm = true := by rfl) (h : X.K = K := by rfl) : CallR X (.builtin "any") (rAny K) := by subst h; exact cr_any hc
theorem k_sortedI (h : X.K = K := by rfl) : CallR X (.builtin "sorted") (rSortedI K) := by subst h; exact cr_sortedI
theorem k_in (h : X.K = K := by rfl) : OpR X (compareOp .In) (rIn K false) := by subst h; exact op_in_seq
theorem k_notIn (h : X.K = K := by rfl) : OpR X (compareOp .NotIn) (rIn K true) := by subst h; exact op_notIn_seq
theorem k_eqD (hu : X.A.units + 64 < cLine) (h : X.K = K := by rfl) : OpR X (compareOp .Eq) (rEqD K) := by subst h; exact op_eqD hu
theorem k_neD (hu : X.A.units + 64 < cLine) (h : X.K = K := by rfl) : OpR X (compareOp .NotEq) (rNeD K) := by subst h; exact op_neD hu
theorem k_inD (hu : X.A.units + 65 < cLine) (h : X.K = K := by rfl) : OpR X (compareOp .In) (rInD K) := by subst h; exact op_inD hu
theorem k_notInD (hu : X.A.units + 65 < cLine) (h : X.K = K := by rfl) : OpR X (compareOp .NotIn) (rNotInD K) := by subst h; exact op_notInD hu
theorem k_catT (h : X.K = K := by rfl) : OpR X (binaryOp .Add) (rCatA K) := by subst h; exact op_catA
end
section
variable {X : Cx} {K : PySem.W.Frag} {tg : Expr}
theorem k_piL {l : Expr} {tl : TE} (hl : PE X l tl) (h : X.K = K := by rfl) : PI X tg l (iList K tl) := by subst h; exact pi_list hl
theorem k_piT {l : Expr} {tl : TE} (hl : PE X l tl) (h : X.K = K := by rfl) : PI X tg l (iTup K tl) := by subst h; exact pi_tup hl
theorem k_enum {e : Expr} {ta : TA} {p pos tpos : Pos} {elts : List Expr} {kk : Nat} (hg : Gl X "enumerate") (hm : X.mg "enumerate" = none) (ha : PA X [e] ta) (hs : starEach [e] X.env = [(false, eval e X.env)] := by rfl) (h : X.K = K := by rfl) :
    PI X (.Tuple elts kk tpos) (.Call (.Name "enumerate" p) [e] [] pos) (iEnum K ta) := by subst h; exact pi_enum hg hm ha hs
theorem k_zip {e e2 : Expr} {ta : TA} {p pos tpos : Pos} {elts : List Expr} {kk : Nat} (hg : Gl X "zip") (hm : X.mg "zip" = none) (ha : PA X [e, e2] ta)
    (hs : starEach [e, e2] X.env = (false, eval e X.env) :: starEach [e2] X.env := by rfl) (hpl : (backTo pos (starEach [e2] X.env)).any (·.1) = false := by rfl) (h : X.K = K := by rfl) :
    PI X (.Tuple elts kk tpos) (.Call (.Name "zip" p) [e, e2] [] pos) (iZip K ta) := by subst h; exact pi_zip hg hm ha hs hpl
theorem k_tup {pos : Pos} {es : List Expr} {k : Nat} {t : TGs} {n : Nat} (hc : X.calm = true) (h : PGs X es t)
    (hn : (assignEach es X.env).length = n := by rfl) (hst : (assignEach es X.env).findIdx? (·.1) = none := by rfl) (h : X.K = K := by rfl) : PG X (.Tuple es k pos) (gTup K n t) := by subst h; exact pg_tup hc (by assumption) hn hst
end

/-! ### fractions: the mathematics -/
theorem divInt_num (t b : Int) (hb : b ≠ 0) : (Rat.divInt t b).num = if b < 0 then t.fdiv (-(Int.gcd t b : Int)) else t.fdiv (Int.gcd t b : Int) := by
  rw [Rat.num_divInt, Int.gcd_comm]
  have hd : ((t.gcd b : Nat) : Int) ∣ t := Int.gcd_dvd_left t b
  by_cases h : b < 0
  · rw [if_pos h, Int.sign_eq_neg_one_of_neg h, Int.fdiv_eq_ediv_of_dvd (Int.neg_dvd.mpr hd), Int.ediv_neg, Int.neg_mul, Int.one_mul, Int.neg_ediv_of_dvd hd]
  · rw [if_neg h, Int.sign_eq_one_of_pos (by omega), Int.one_mul, Int.fdiv_eq_ediv_of_dvd hd]
theorem divInt_den (t b : Int) (hb : b ≠ 0) : ((Rat.divInt t b).den : Int) = if b < 0 then b.fdiv (-(Int.gcd t b : Int)) else b.fdiv (Int.gcd t b : Int) := by
  rw [Rat.den_divInt, if_neg hb, Int.gcd_comm]
  have hd : ((t.gcd b : Nat) : Int) ∣ b := Int.gcd_dvd_right t b
  by_cases h : b < 0
  · rw [if_pos h, Int.fdiv_eq_ediv_of_dvd (Int.neg_dvd.mpr hd), Int.ediv_neg, ← Int.neg_ediv_of_dvd hd, Int.natCast_ediv]
    congr 1; omega
  · rw [if_neg h, Int.fdiv_eq_ediv_of_dvd hd, Int.natCast_ediv]
    congr 1; omega
theorem gcd_fmod (a b : Int) : b.gcd (a.fmod b) = a.gcd b := by
  rw [Int.fmod_def, Int.gcd_sub_mul_left_right, Int.gcd_comm]
theorem fmod_small (a b : Int) (hb : b ≠ 0) : (a.fmod b).natAbs < b.natAbs := by
  by_cases h : 0 < b
  · have h1 := Int.fmod_nonneg_of_pos a h
    have h2 := Int.fmod_lt_of_pos a h
    omega
  · have h0 : 0 < -b := by omega
    have e : a.fmod b = -((-a).fmod (-b)) := by
      rw [Int.fmod_def, Int.fmod_def, Int.neg_fdiv_neg, Int.neg_mul]; omega
    have h1 := Int.fmod_nonneg_of_pos (-a) h0
    have h2 := Int.fmod_lt_of_pos (-a) h0
    omega
theorem gcd_lt {t b : Int} {n : Nat} (hb : b ≠ 0) (h : b.natAbs < 2 ^ n) : (Int.gcd t b : Int).natAbs < 2 ^ n := by
  have : Int.gcd t b ≤ b.natAbs := Nat.le_of_dvd (by omega) (Nat.gcd_dvd_right _ _)
  show Int.gcd t b < 2 ^ n
  omega
theorem gcd_pos' {t b : Int} (hb : b ≠ 0) : 0 < (Int.gcd t b : Int) := by
  have := Int.gcd_pos_iff (a := t) (b := b) |>.mpr (.inr hb)
  omega
theorem gcd_abs (a b : Int) : Int.gcd (if a < 0 then -a else a) (if b < 0 then -b else b) = Int.gcd a b := by
  unfold Int.gcd
  congr 1 <;> split <;> omega
/-- what a fraction's tuple holds -/
def FV (x : Rat) : List V := [.int x.num, .int (x.den : Int)]
/-- small enough -/
def Bd (n : Nat) (x : Rat) : Prop := x.num.natAbs < 2 ^ n ∧ (x.den : Int).natAbs < 2 ^ n
theorem Bd.mono {n m : Nat} {x : Rat} (h : Bd n x) (l : n ≤ m) : Bd m x := ⟨Nat.lt_of_lt_of_le h.1 (Nat.pow_le_pow_right (by decide) l), Nat.lt_of_lt_of_le h.2 (Nat.pow_le_pow_right (by decide) l)⟩
theorem Bd.num {n : Nat} {x : Rat} (h : Bd n x) : x.num.natAbs < 2 ^ n := h.1
theorem Bd.de {n : Nat} {x : Rat} (h : Bd n x) : (x.den : Int).natAbs < 2 ^ n := h.2
theorem den_ne (x : Rat) : (x.den : Int) ≠ 0 := by have := x.den_pos; omega
theorem den_pos' (x : Rat) : (0 : Int) < (x.den : Int) := by have := x.den_pos; omega
theorem mulW {i j : Int} (n m : Nat) (h1 : i.natAbs < 2 ^ n) (h2 : j.natAbs < 2 ^ m) (h0 : 0 < n := by decide) (h3 : 0 < m := by decide) (h : n + m ≤ 1000000 := by decide) : CMulW i j := wide_mul h1 h2 h0 h3 h
theorem plus_eq (x y : Rat) : Rat.divInt (x.num * y.den + y.num * x.den) (x.den * y.den) = x + y := by
  have := Rat.divInt_add_divInt x.num y.num (den_ne x) (den_ne y)
  rw [Rat.num_divInt_den, Rat.num_divInt_den] at this
  exact this.symm
theorem minus_eq (x y : Rat) : Rat.divInt (x.num * y.den - y.num * x.den) (x.den * y.den) = x - y := by
  have := Rat.divInt_sub_divInt x.num y.num (den_ne x) (den_ne y)
  rw [Rat.num_divInt_den, Rat.num_divInt_den] at this
  exact this.symm
theorem times_eq (x y : Rat) : Rat.divInt (x.num * y.num) (x.den * y.den) = x * y := by
  have := Rat.divInt_mul_divInt x.num y.num (d₁ := x.den) (d₂ := y.den)
  rw [Rat.num_divInt_den, Rat.num_divInt_den] at this
  exact this.symm
theorem divided_eq (x y : Rat) : Rat.divInt (x.num * y.den) (x.den * y.num) = x / y := by
  have h := Rat.divInt_mul_divInt x.num y.den (d₁ := x.den) (d₂ := y.num)
  rw [← Rat.inv_divInt y.num y.den, Rat.num_divInt_den, Rat.num_divInt_den] at h
  rw [Rat.div_def]; exact h.symm
theorem lt_eq (x y : Rat) : decide (x.num * (y.den : Int) < y.num * (x.den : Int)) = decide (x < y) := by
  rw [decide_eq_decide]; exact (Rat.lt_iff x y).symm
theorem natAbs_mul_lt {i j : Int} {n m : Nat} (h1 : i.natAbs < 2 ^ n) (h2 : j.natAbs < 2 ^ m) : (i * j).natAbs < 2 ^ (n + m) := wide_lt h1 h2
/-- the floor by a divisor of either sign -/
def CDivV (_ j : Int) : Prop := j ≠ 0 ∧ j.natAbs.log2 < 9000
theorem op_fdivV {X : Cx} : OpR X (binaryOp .FloorDiv) (rI CDivV fun i j => .int (i.fdiv j)) := opI fun i j _ _ _ _ _ hc q =>
  floordiv_int hc.1 q (.inl (PyProof.noPylong_of_log2 hc.2))
theorem divV {i j : Int} (n : Nat) (h : j ≠ 0) (hb : j.natAbs < 2 ^ n) (h0 : 0 < n := by decide) (h9 : n ≤ 9000 := by decide) : CDivV i j := ⟨h, Nat.lt_of_lt_of_le (PySem.Flt.log2_lt_of h0 hb) h9⟩
section
variable {Q : VK} {H : Hp} {i j : Int}
theorem g_divV (c : CDivV i j) (q : Q (.int (i.fdiv j)) H) : rI CDivV (fun i j => .int (i.fdiv j)) (.int i) (.int j) H Q := ⟨i, j, rfl, rfl, c, q⟩
theorem g_modN (c : j ≠ 0) (q : Q (.int (i.fmod j)) H) : rI (fun _ j => j ≠ 0) (fun i j => .int (i.fmod j)) (.int i) (.int j) H Q := ⟨i, j, rfl, rfl, c, q⟩
end
abbrev Fr (K : PySem.W.Frag) (H : Hp) (a : Addr) (x : Rat) : Prop := SqT K H a (FV x)

/-! ### == of data -/
/-- a fraction as a datum -/
abbrev FD (x : Rat) : PyData := .tuple [.int x.num, .int (x.den : Int)]
theorem rat_ext {x y : Rat} : x = y ↔ x.num = y.num ∧ x.den = y.den := ⟨fun e => by subst e; exact ⟨rfl, rfl⟩, fun ⟨a, b⟩ => Rat.ext a b⟩
theorem FD_eqv (x y : Rat) : PyData.eqv (FD x) (FD y) = decide (x = y) := by
  unfold FD
  simp only [PyData.eqv, PyData.eqvAll, Bool.and_true]
  rw [Bool.eq_iff_iff]
  simp only [Bool.and_eq_true, beq_iff_eq, decide_eq_true_eq, rat_ext, Int.natCast_inj]
theorem FD_shaped (x : Rat) : SeqAt.shaped (FD x) = true := rfl
theorem FD_dp {K : PySem.W.Frag} {H : Hp} {a : Addr} {x : Rat} (h : Fr K H a x) : Dp K H (.ref a) (FD x) := .tup h (.cons (.int _) (.cons (.int _) .nil))
theorem g_eqF {K : PySem.W.Frag} {H : Hp} {Q : VK} {a b : Addr} {x y : Rat} (h1 : Fr K H a x) (h2 : Fr K H b y) (q : Q (.bl (decide (x = y))) H) : rEqD K (.ref a) (.ref b) H Q := ⟨_, _, FD_dp h1, FD_dp h2, rfl, rfl, by rw [FD_eqv]; exact q⟩
theorem g_neF {K : PySem.W.Frag} {H : Hp} {Q : VK} {a b : Addr} {x y : Rat} (h1 : Fr K H a x) (h2 : Fr K H b y) (q : Q (.bl (!decide (x = y))) H) : rNeD K (.ref a) (.ref b) H Q := ⟨_, _, FD_dp h1, FD_dp h2, rfl, rfl, by rw [FD_eqv]; exact q⟩
/-- an empty list against a list -/
theorem g_neNil {K : PySem.W.Frag} {H : Hp} {Q : VK} {a b : Addr} (h1 : SqL K H a []) (h2 : SqL K H b []) (q : Q (.bl false) H) : rNeD K (.ref a) (.ref b) H Q := ⟨_, _, .lst h1 .nil, .lst h2 .nil, rfl, rfl, q⟩
theorem g_eqNil {K : PySem.W.Frag} {H : Hp} {Q : VK} {a b : Addr} (h1 : SqL K H a []) (h2 : SqL K H b []) (q : Q (.bl true) H) : rEqD K (.ref a) (.ref b) H Q := ⟨_, _, .lst h1 .nil, .lst h2 .nil, rfl, rfl, q⟩

section
variable {P : Program} {w : World} {K : PySem.W.Frag} {mg : Str → Option Value} {base : Heap}
/-! ### fractions: the walk -/
def sp_common : Sp := fun vs H Q _ => ∃ a b : Int, vs = [.int a, .int b] ∧ Q (.int (Int.gcd a b)) H
theorem abs_gcd0 (a : Int) : (if a < 0 then -a else a) = (Int.gcd a 0 : Int) := by
  rw [Int.gcd_zero_right]; split <;> omega
def sp_fraction : Sp := fun vs H Q _ => ∃ t b : Int, vs = [.int t, .int b] ∧ b ≠ 0 ∧ b.natAbs < 2 ^ 8500 ∧ ∀ p, H p = none → Q (.ref p) (upd H p (.tup (FV (Rat.divInt t b))))
/-- two fractions to one -/
def sp2F (K : PySem.W.Frag) (f : Rat → Rat → Rat) (pre : Rat → Rat → Prop) : Sp := fun vs H Q _ => ∃ (a b : Addr) (x y : Rat), vs = [.ref a, .ref b] ∧ Fr K H a x ∧ Fr K H b y ∧ Bd 4000 x ∧ Bd 4000 y ∧ pre x y ∧
  ∀ p, H p = none → Q (.ref p) (upd H p (.tup (FV (f x y))))
theorem fr_at {H : Hp} {a : Addr} {x : Rat} {o : HO} (h : o = .tup (FV x)) : Fr K (upd H a o) a x := by subst h; exact sqT_at
def sp_below (K : PySem.W.Frag) : Sp := fun vs H Q _ => ∃ (a b : Addr) (x y : Rat), vs = [.ref a, .ref b] ∧ Fr K H a x ∧ Fr K H b y ∧ Bd 4000 x ∧ Bd 4000 y ∧ Q (.bl (decide (x < y))) H
end

/-! ### the law's pool of draws -/
/-- a pool with at most n draws behind it -/
def Pool (n : Nat) (H : Hp) (p : Addr) : Prop := ∃ a b c : Int, H p = some (.lst [.int a, .int b, .int c]) ∧ 0 ≤ c ∧ c ≤ n
theorem Pool.mono {n m : Nat} {H : Hp} {p : Addr} (h : Pool n H p) (l : n ≤ m) : Pool m H p := by
  obtain ⟨a, b, c, e, h0, h1⟩ := h
  exact ⟨a, b, c, e, h0, by omega⟩
theorem Pool.same {n : Nat} {H H' : Hp} {p : Addr} (h : Pool n H p) (s : Same H H') : Pool n H' p := by
  obtain ⟨a, b, c, e, h0, h1⟩ := h
  exact ⟨a, b, c, s _ _ e, h0, h1⟩
theorem Pool.new {n : Nat} {H : Hp} {p q : Addr} {o : HO} (h : Pool n H p) (s : H q = none) : Pool n (upd H q o) p := h.same (same_new s)
theorem Pool.some {n : Nat} {H : Hp} {p : Addr} (h : Pool n H p) : ∃ xs, H p = Option.some (.lst xs) := by
  obtain ⟨a, b, c, e, _⟩ := h
  exact ⟨_, e⟩
theorem sqT_pool {K : PySem.W.Frag} {n : Nat} {H H' : Hp} {p a : Addr} {xs : List V} (b : But p H H') (e : Pool n H p) (h : SqT K H a xs) : SqT K H' a xs := by
  obtain ⟨ys, e⟩ := e.some
  exact sqT_but b e h
theorem same_of_but {p : Addr} {H H' : Hp} (b : But p H H') (n : H p = none) : Same H H' := fun q o e => b q o (ne_of_none e n) e
theorem But.newp {p q : Addr} {H H' : Hp} {o : HO} (b : But p H H') (n : H' q = none) : But p H (upd H' q o) := b.trans (But.new n)
section
variable {P : Program} {w : World} {K : PySem.W.Frag} {mg : Str → Option Value} {base : Heap}
def sp_pool (K : PySem.W.Frag) : Sp := fun vs H Q _ => ∃ (a : Addr) (ns : List Int) (k : Int), vs = [.ref a, .int k] ∧ SqL K H a (ns.map V.int) ∧ 0 ≤ k ∧ k ≤ 1000 ∧
  ∀ p H', H p = none → Same H H' → Pool 23000 H' p → Q (.ref p) H'
theorem atI_int {ns : List Int} {k : Int} (h0 : 0 ≤ k) (h : k < ns.length) : ∃ z, atI (ns.map V.int) k = some (.int z) := by
  obtain ⟨j, rfl⟩ : ∃ j : Nat, k = j := ⟨k.toNat, by omega⟩
  have hj : j < ns.length := by omega
  exact ⟨ns[j], atI_nat (by rw [List.getElem?_map, List.getElem?_eq_getElem hj]; rfl)⟩
def sp_take (K : PySem.W.Frag) : Sp := fun vs H Q _ => ∃ (p : Addr) (n : Nat) (m : Int), vs = [.ref p, .int m] ∧ Pool n H p ∧ n ≤ 2 ^ 60 ∧ 0 < m ∧ m.natAbs < 2 ^ 8500 ∧
  ∀ r H', 0 ≤ r → r < m → But p H H' → Pool (n + 1) H' p → Q (.int r) H'
end

/-! ### the law's own fractions -/
theorem Bd_divInt {t b : Int} {n : Nat} (hb : b ≠ 0) (h1 : t.natAbs < 2 ^ n) (h2 : b.natAbs < 2 ^ n) : Bd n (Rat.divInt t b) := by
  constructor
  · rw [Rat.num_divInt]
    refine Nat.lt_of_le_of_lt ?_ h1
    rw [Int.natAbs_ediv_of_dvd (Int.dvd_mul_of_dvd_right (Int.gcd_dvd_right b t)), Int.natAbs_mul, Int.natAbs_sign_of_ne_zero hb, Nat.one_mul]
    exact Nat.div_le_self _ _
  · rw [Rat.den_divInt, if_neg hb]
    exact Nat.lt_of_le_of_lt (Nat.div_le_self _ _) h2
theorem atI_memV {xs : List V} {k : Int} (p : V → Prop) (h0 : 0 ≤ k) (h : k < xs.length) (hp : ∀ z ∈ xs, p z) : ∃ z, atI xs k = some z ∧ p z := by
  obtain ⟨j, rfl⟩ : ∃ j : Nat, k = j := ⟨k.toNat, by omega⟩
  have hj : j < xs.length := by omega
  exact ⟨xs[j], atI_nat (List.getElem?_eq_getElem hj), hp _ (List.getElem_mem hj)⟩
theorem FV_neg (x : Rat) : FV (-x) = [.int (0 - x.num), .int (x.den : Int)] := by
  unfold FV
  rw [Rat.neg_num, Rat.neg_den, Int.zero_sub]
theorem Bd.neg {n : Nat} {x : Rat} (h : Bd n x) : Bd n (-x) := by
  unfold Bd at *
  rw [Rat.neg_num, Rat.neg_den]
  omega
section
variable {P : Program} {w : World} {K : PySem.W.Frag} {mg : Str → Option Value} {base : Heap}
def sp_figures (K : PySem.W.Frag) : Sp := fun vs H Q _ => ∃ (p : Addr) (n : Nat), vs = [.ref p] ∧ Pool n H p ∧ n ≤ 2 ^ 59 ∧
  ∀ r H', 0 ≤ r → r < 10 ^ 40 → But p H H' → Pool (n + 10) H' p → Q (.int r) H'
/-- a drawn fraction -/
def sp_q (K : PySem.W.Frag) : Sp := fun vs H Q _ => ∃ (p : Addr) (n : Nat), vs = [.ref p] ∧ Pool n H p ∧ n ≤ 2 ^ 58 ∧
  ∀ a x H', H a = none → Bd 134 x → But p H H' → Pool (n + 40) H' p → Fr K H' a x → Q (.ref a) H'
theorem pool_ne {n : Nat} {H : Hp} {p l : Addr} (h : Pool n H p) (e : H l = none) : l ≠ p := fun z => by
  obtain ⟨xs, e2⟩ := h.some
  rw [← z, e] at e2; cases e2
theorem FV_zero : FV 0 = [.int 0, .int 1] := rfl
theorem Bd_zero {n : Nat} (h : 0 < n) : Bd n 0 := ⟨Nat.pow_pos (by decide), Nat.one_lt_two_pow (by omega)⟩
theorem free_but {p a : Addr} {H H' : Hp} (b : But p H H') (n : a ≠ p) (e : H' a = none) : H a = none := by
  cases h : H a with
  | none => rfl
  | some o => rw [b a o n h] at e; cases e
end

section
variable {P : Program} {w : World} {K : PySem.W.Frag} {mg : Str → Option Value} {base : Heap}
/-- found is told to be the fraction t over b -/
def sp_isfr (K : PySem.W.Frag) : Sp := fun vs H Q _ => ∃ (a : Addr) (t b : Int), vs = [.ref a, .int t, .int b] ∧ Fr K H a (Rat.divInt t b) ∧ b ≠ 0 ∧ b.natAbs < 2 ^ 8500 ∧ ∀ H', Same H H' → Q (.bl true) H'
end

/-! ### bounds, and the deeds by one step each -/
def IB (n : Nat) (i : Int) : Prop := i.natAbs < 2 ^ n
theorem IB.mono {n m : Nat} {i : Int} (h : IB n i) (l : n ≤ m) : IB m i := Nat.lt_of_lt_of_le h (Nat.pow_le_pow_right (by decide) l)
theorem IB.num {n : Nat} {x : Rat} (h : Bd n x) : IB n x.num := h.1
theorem IB.den {n : Nat} {x : Rat} (h : Bd n x) : IB n (x.den : Int) := h.2
theorem IB.mul {n m : Nat} {i j : Int} (h : IB n i) (h' : IB m j) : IB (n + m) (i * j) := natAbs_mul_lt h h'
theorem two_pow_max {n m : Nat} {a b : Nat} (h : a < 2 ^ n) (h' : b < 2 ^ m) : a + b < 2 ^ (max n m + 1) := by
  have h1 := Nat.pow_le_pow_right (n := 2) (by decide) (Nat.le_max_left n m)
  have h2 := Nat.pow_le_pow_right (n := 2) (by decide) (Nat.le_max_right n m)
  rw [Nat.pow_succ]
  omega
theorem IB.add {n m : Nat} {i j : Int} (h : IB n i) (h' : IB m j) : IB (max n m + 1) (i + j) := Nat.lt_of_le_of_lt (Int.natAbs_add_le i j) (two_pow_max h h')
theorem IB.sub {n m : Nat} {i j : Int} (h : IB n i) (h' : IB m j) : IB (max n m + 1) (i - j) := by
  refine Nat.lt_of_le_of_lt ?_ (two_pow_max h h')
  omega
theorem IB.neg {n : Nat} {i : Int} (h : IB n i) : IB n (-i) := by unfold IB at *; rw [Int.natAbs_neg]; exact h
theorem IB.lit {i : Int} (h : i.natAbs < 2 ^ 64 := by decide) : IB 64 i := h
theorem IB.mulW {n m : Nat} {i j : Int} (h : IB n i) (h' : IB m j) (l : n + m + 2 ≤ 1000000) : CMulW i j := wide_mul (a := n + 1) (b := m + 1) (h.mono (by omega)) (h'.mono (by omega)) (by omega) (by omega) (by omega)
theorem Bd_add {n m : Nat} {x y : Rat} (h : Bd n x) (h' : Bd m y) : Bd (n + m + 1) (x + y) := by
  rw [← plus_eq]
  refine Bd_divInt (Int.ne_of_gt (Int.mul_pos (den_pos' x) (den_pos' y))) ?_ ?_
  · exact (IB.add (IB.mul (IB.num h) (IB.den h')) (IB.mul (IB.num h') (IB.den h))).mono (by omega)
  · exact (IB.mul (IB.den h) (IB.den h')).mono (by omega)
theorem Bd_sub {n m : Nat} {x y : Rat} (h : Bd n x) (h' : Bd m y) : Bd (n + m + 1) (x - y) := by
  rw [← minus_eq]
  refine Bd_divInt (Int.ne_of_gt (Int.mul_pos (den_pos' x) (den_pos' y))) ?_ ?_
  · exact (IB.sub (IB.mul (IB.num h) (IB.den h')) (IB.mul (IB.num h') (IB.den h))).mono (by omega)
  · exact (IB.mul (IB.den h) (IB.den h')).mono (by omega)
theorem Bd_mul {n m : Nat} {x y : Rat} (h : Bd n x) (h' : Bd m y) : Bd (n + m) (x * y) := by
  rw [← times_eq]
  refine Bd_divInt (Int.ne_of_gt (Int.mul_pos (den_pos' x) (den_pos' y))) ?_ ?_
  · exact IB.mul (IB.num h) (IB.num h')
  · exact IB.mul (IB.den h) (IB.den h')
theorem num_ne {y : Rat} (h : y ≠ 0) : y.num ≠ 0 := fun z => h (Rat.num_eq_zero.mp z)
theorem Bd_div {n m : Nat} {x y : Rat} (h : Bd n x) (h' : Bd m y) (h0 : y ≠ 0) : Bd (n + m) (x / y) := by
  rw [← divided_eq]
  refine Bd_divInt (Int.mul_ne_zero (den_ne x) (num_ne h0)) ?_ ?_
  · exact IB.mul (IB.num h) (IB.den h')
  · exact IB.mul (IB.den h) (IB.num h')
section
variable {K : PySem.W.Frag} {H : Hp} {Q : VK} {E : XK} {a b : Addr} {x y : Rat} {t u : Int}
theorem g_plus (hx : Fr K H a x) (hy : Fr K H b y) (bx : Bd 4000 x) (bu : Bd 4000 y) (q : ∀ p, H p = none → Q (.ref p) (upd H p (.tup (FV (x + y))))) : sp2F K (fun x y => x + y) (fun _ _ => True) ([.ref a, .ref b] ++ []) H Q E := ⟨a, b, x, y, rfl, hx, hy, bx, bu, trivial, q⟩
theorem g_minus (hx : Fr K H a x) (hy : Fr K H b y) (bx : Bd 4000 x) (bu : Bd 4000 y) (q : ∀ p, H p = none → Q (.ref p) (upd H p (.tup (FV (x - y))))) : sp2F K (fun x y => x - y) (fun _ _ => True) ([.ref a, .ref b] ++ []) H Q E := ⟨a, b, x, y, rfl, hx, hy, bx, bu, trivial, q⟩
theorem g_times (hx : Fr K H a x) (hy : Fr K H b y) (bx : Bd 4000 x) (bu : Bd 4000 y) (q : ∀ p, H p = none → Q (.ref p) (upd H p (.tup (FV (x * y))))) : sp2F K (fun x y => x * y) (fun _ _ => True) ([.ref a, .ref b] ++ []) H Q E := ⟨a, b, x, y, rfl, hx, hy, bx, bu, trivial, q⟩
theorem g_divided (hx : Fr K H a x) (hy : Fr K H b y) (bx : Bd 4000 x) (bu : Bd 4000 y) (h0 : y ≠ 0) (q : ∀ p, H p = none → Q (.ref p) (upd H p (.tup (FV (x / y))))) : sp2F K (fun x y => x / y) (fun _ y => y ≠ 0) ([.ref a, .ref b] ++ []) H Q E := ⟨a, b, x, y, rfl, hx, hy, bx, bu, h0, q⟩
theorem g_below (hx : Fr K H a x) (hy : Fr K H b y) (bx : Bd 4000 x) (bu : Bd 4000 y) (q : Q (.bl (decide (x < y))) H) : sp_below K ([.ref a, .ref b] ++ []) H Q E := ⟨a, b, x, y, rfl, hx, hy, bx, bu, q⟩
theorem g_frac (h0 : u ≠ 0) (h : IB 8500 u) (q : ∀ p, H p = none → Q (.ref p) (upd H p (.tup (FV (Rat.divInt t u))))) : sp_fraction ([.int t, .int u] ++ []) H Q E := ⟨t, u, rfl, h0, h, q⟩
theorem ifN_known {p A B : Prop} [Decidable p] (h : p) (q : B) : if (!decide p) = true then A else B := by
  rw [decide_eq_true h]; exact q
theorem ifY_known {p A B : Prop} [Decidable p] (h : p) (q : A) : if decide p = true then A else B := by
  rw [decide_eq_true h]; exact q
theorem fin_eq {p : Prop} [Decidable p] {Q : VK} (h : p) (q : Q (.bl true) H) : Q (.bl (decide p)) H := by rw [decide_eq_true h]; exact q
end

/-! ### lists of fractions -/
def TS (K : PySem.W.Frag) (H H' : Hp) : Prop := ∀ a xs, SqT K H a xs → SqT K H' a xs
theorem TS.refl {K : PySem.W.Frag} (H : Hp) : TS K H H := fun _ _ h => h
theorem TS.trans {K : PySem.W.Frag} {H H1 H2 : Hp} (a : TS K H H1) (b : TS K H1 H2) : TS K H H2 := fun x xs h => b x xs (a x xs h)
theorem Same.ts {K : PySem.W.Frag} {H H' : Hp} (s : Same H H') : TS K H H' := fun _ _ h => sqT_same s h
theorem ts_but {K : PySem.W.Frag} {H H' : Hp} {p : Addr} {ys : List V} (b : But p H H') (e : H p = some (.lst ys)) : TS K H H' := fun _ _ h => sqT_but b e h
theorem ts_pool {K : PySem.W.Frag} {H H' : Hp} {p : Addr} {n : Nat} (b : But p H H') (e : Pool n H p) : TS K H H' := fun _ _ h => sqT_pool b e h
theorem ts_new {K : PySem.W.Frag} {H : Hp} {p : Addr} {o : HO} (e : H p = none) : TS K H (upd H p o) := fun _ _ h => sqT_new e h
theorem ts_mut {K : PySem.W.Frag} {H : Hp} {p : Addr} {o : HO} {ys : List V} (e : H p = some (.lst ys)) : TS K H (upd H p o) := fun _ _ h => sqT_mut e h
def Frs (K : PySem.W.Frag) (H : Hp) : List V → List Rat → Prop
  | [], [] => True
  | v :: vs, x :: xs => (∃ a, v = .ref a ∧ Fr K H a x) ∧ Frs K H vs xs
  | _, _ => False
section
variable {K : PySem.W.Frag} {H H' : Hp}
theorem Frs.ts (t : TS K H H') : ∀ {vs : List V} {xs : List Rat}, Frs K H vs xs → Frs K H' vs xs
  | [], [], _ => True.intro
  | _ :: _, _ :: _, ⟨⟨a, e, h⟩, r⟩ => ⟨⟨a, e, t _ _ h⟩, Frs.ts t r⟩
  | [], _ :: _, h => h.elim
  | _ :: _, [], h => h.elim
theorem Frs.len : ∀ {vs : List V} {xs : List Rat}, Frs K H vs xs → vs.length = xs.length
  | [], [], _ => rfl
  | _ :: _, _ :: _, ⟨_, r⟩ => by rw [List.length_cons, List.length_cons, Frs.len r]
  | [], _ :: _, h => h.elim
  | _ :: _, [], h => h.elim
theorem Frs.snoc {a : Addr} {x : Rat} (h : Fr K H a x) : ∀ {vs : List V} {xs : List Rat}, Frs K H vs xs → Frs K H (vs ++ [.ref a]) (xs ++ [x])
  | [], [], _ => ⟨⟨a, rfl, h⟩, True.intro⟩
  | _ :: _, _ :: _, ⟨e, r⟩ => ⟨e, Frs.snoc h r⟩
  | [], _ :: _, h => h.elim
  | _ :: _, [], h => h.elim
theorem Frs.get : ∀ {vs : List V} {xs : List Rat} {i : Nat} {v : V}, Frs K H vs xs → vs[i]? = some v → ∃ a x, v = .ref a ∧ xs[i]? = some x ∧ Fr K H a x
  | [], [], _, _, _, h => by simp at h
  | _ :: _, x :: _, 0, v, ⟨⟨a, e, h⟩, _⟩, g => ⟨a, x, (Option.some.inj g).symm.trans e, rfl, h⟩
  | _ :: _, _ :: _, i + 1, v, ⟨_, r⟩, g => Frs.get (i := i) r g
  | [], _ :: _, _, _, h, _ => h.elim
  | _ :: _, [], _, _, h, _ => h.elim
theorem Frs.at : ∀ {vs : List V} {xs : List Rat} {i : Nat} {x : Rat}, Frs K H vs xs → xs[i]? = some x → ∃ a, vs[i]? = some (.ref a) ∧ Fr K H a x
  | [], [], _, _, _, h => by simp at h
  | v :: _, x :: _, 0, y, ⟨⟨a, e, h⟩, _⟩, g => by
    obtain rfl : x = y := Option.some.inj g
    exact ⟨a, by rw [e]; rfl, h⟩
  | _ :: _, _ :: _, i + 1, v, ⟨_, r⟩, g => Frs.at (i := i) r g
  | [], _ :: _, _, _, h, _ => h.elim
  | _ :: _, [], _, _, h, _ => h.elim
theorem k_unl {X : Cx} {pos : Pos} {es : List Expr} {k : Nat} {t : TGs} {n : Nat} (hc : X.calm = true) (h : PGs X es t)
    (hn : (assignEach es X.env).length = n := by rfl) (hst : (assignEach es X.env).findIdx? (·.1) = none := by rfl) (h : X.K = K := by rfl) : PG X (.Tuple es k pos) (gUnl K n t) := by subst h; exact pg_unl hc (by assumption) hn hst
end
theorem num_cast (x : Rat) : ((x.num : Int) : Rat) = x * ((x.den : Int) : Rat) := by
  have h := Rat.num_divInt_den x
  rw [Rat.divInt_eq_div] at h
  have h2 : ((x.den : Int) : Rat) ≠ 0 := fun z => den_ne x (by exact_mod_cast z)
  grind
theorem den_cast (x : Rat) : ((x.den : Int) : Rat) ≠ 0 := fun z => den_ne x (by exact_mod_cast z)
theorem fr_one_at {K : PySem.W.Frag} {H : Hp} {a : Addr} : Fr K (upd H a (.tup [.int 1, .int 1])) a 1 := sqT_at (xs := [.int 1, .int 1])
theorem fr_zero_at {K : PySem.W.Frag} {H : Hp} {a : Addr} : Fr K (upd H a (.tup [.int 0, .int 1])) a 0 := sqT_at (xs := [.int 0, .int 1])
theorem fr_int_at {K : PySem.W.Frag} {H : Hp} {a : Addr} {i : Int} : Fr K (upd H a (.tup [.int i, .int 1])) a ((i : Int) : Rat) := sqT_at (xs := [.int i, .int 1])
theorem fr_neg_at {K : PySem.W.Frag} {H : Hp} {a : Addr} {x : Rat} : Fr K (upd H a (.tup [.int (0 - x.num), .int (x.den : Int)])) a (-x) := by
  show SqT _ _ _ _
  rw [FV_neg]
  exact sqT_at
theorem Bd_int {n : Nat} {i : Int} (h : IB n i) : Bd (n + 1) ((i : Int) : Rat) := ⟨IB.mono h (by omega), Nat.one_lt_two_pow (by omega)⟩
theorem Bd_one : Bd 1 (1 : Rat) := ⟨by decide, by decide⟩
theorem ifY_no {p A B : Prop} [Decidable p] (h : ¬p) (q : B) : if decide p = true then A else B := by
  rw [decide_eq_false h]; exact q
theorem ifN_no {p A B : Prop} [Decidable p] (h : ¬p) (q : A) : if (!decide p) = true then A else B := by
  rw [decide_eq_false h]; exact q
theorem neg_ne {i : Int} (h : i ≠ 0) : 0 - i ≠ 0 := by omega
theorem rat_num_pos {x : Rat} : 0 < x.num ↔ 0 < x := by
  rw [Rat.lt_iff]
  show _ ↔ (0 : Int) * (x.den : Int) < x.num * ((1 : Nat) : Int)
  rw [Int.zero_mul, Int.natCast_one, Int.mul_one]
/-- the sum of the first i of some fractions -/
def sumT (xs : List Rat) : Nat → Rat
  | 0 => 0
  | i + 1 => sumT xs i + xs.getD i 0
theorem getD_of {xs : List Rat} {i : Nat} {x : Rat} (h : xs[i]? = some x) : xs.getD i 0 = x := by
  rw [List.getD_eq_getElem?_getD, h]; rfl
theorem mem_of_at {α : Type} {xs : List α} {i : Nat} {x : α} (h : xs[i]? = some x) : x ∈ xs := List.mem_of_getElem? h
section
variable {H : Hp} {Q : VK} {a : Addr} {i : Int} {s : Str} {b : Bool}
instance : St1 (rIsN (.ref a) .non H Q) (Q (.bl false) H) := ⟨fun q => ⟨rfl, q⟩⟩
instance : St1 (rIsN .non .non H Q) (Q (.bl true) H) := ⟨fun q => ⟨rfl, q⟩⟩
instance : St1 (rNotN (.ref a) .non H Q) (Q (.bl true) H) := ⟨fun q => ⟨rfl, q⟩⟩
instance : St1 (rNotN .non .non H Q) (Q (.bl false) H) := ⟨fun q => ⟨rfl, q⟩⟩
instance : St1 (rIsN (.int i) .non H Q) (Q (.bl false) H) := ⟨fun q => ⟨rfl, q⟩⟩
instance : St1 (rNotN (.int i) .non H Q) (Q (.bl true) H) := ⟨fun q => ⟨rfl, q⟩⟩
end
theorem cutV_int (ns : List Int) (lo hi : Option Int) : ∃ ms : List Int, cutV (ns.map V.int) lo hi = ms.map V.int ∧ ms.length ≤ ns.length := by
  unfold cutV
  refine ⟨(ns.drop (HT.sIx (ns.map V.int).length 0 lo)).take (HT.sIx (ns.map V.int).length (ns.map V.int).length hi - HT.sIx (ns.map V.int).length 0 lo), ?_, ?_⟩
  · rw [List.map_take, List.map_drop]
  · rw [List.length_take, List.length_drop]; omega
section
variable {K : PySem.W.Frag} {σ : L2.St} {H : Hp} {Q : VK} {T : String} {to : TE}
instance {r : V → List V → Hp → VK → Prop} {t : TA} : St1 (tBM K T r to t σ H Q) (to σ H fun x H1 => tyV K T x H1 ∧ t σ H1 fun xs H2 => r x xs H2 Q) := ⟨fun h => h⟩
instance {r : V → List V → Hp → VK → Prop} : St1 (tBM0 K T r to σ H Q) (to σ H fun x H1 => tyV K T x H1 ∧ r x [] H1 Q) := ⟨fun h => h⟩
theorem ty_l {a : Addr} {xs : List V} (h : H a = some (.lst xs)) : tyV K "list" (.ref a) H := .inl ⟨rfl, _, SqL.of h⟩
end
/-! ### data of any depth -/
mutual
theorem dp_same {K : PySem.W.Frag} {H H' : Hp} (s : Same H H') : ∀ (d : PyData) (v : V), Dp K H v d → Dp K H' v d
  | .none, _, h => by cases h; exact .non
  | .bool b, _, h => by cases h; exact .bl b
  | .int i, _, h => by cases h; exact .int i
  | .str x, _, h => by cases h; exact .str x
  | .list ds, _, h => by
    cases h with
    | lst h1 h2 => exact .lst (sqL_same s h1) (dpAll_same s ds _ h2)
  | .tuple ds, _, h => by
    cases h with
    | tup h1 h2 => exact .tup (sqT_same s h1) (dpAll_same s ds _ h2)
  | .dict _, _, h => nomatch h
theorem dpAll_same {K : PySem.W.Frag} {H H' : Hp} (s : Same H H') : ∀ (ds : List PyData) (vs : List V), DpAll K H vs ds → DpAll K H' vs ds
  | [], _, h => by cases h; exact .nil
  | d :: ds, _, h => by
    cases h with
    | cons h1 h2 => exact .cons (dp_same s d _ h1) (dpAll_same s ds _ h2)
end
section
variable {K : PySem.W.Frag} {H H' : Hp} {Q : VK} {x y v : V} {d e : PyData} {ds : List PyData} {vs : List V}
theorem Dp.sm (h : Dp K H v d) (s : Same H H') : Dp K H' v d := dp_same s d v h
theorem DpAll.sm (h : DpAll K H vs ds) (s : Same H H') : DpAll K H' vs ds := dpAll_same s ds vs h
theorem Dp.lstI (h : Dp K H v (.list ds)) : ∃ a xs, v = .ref a ∧ SqL K H a xs ∧ DpAll K H xs ds := by
  cases h with
  | lst h1 h2 => exact ⟨_, _, rfl, h1, h2⟩
theorem Dp.tupI (h : Dp K H v (.tuple ds)) : ∃ a xs, v = .ref a ∧ SqT K H a xs ∧ DpAll K H xs ds := by
  cases h with
  | tup h1 h2 => exact ⟨_, _, rfl, h1, h2⟩
theorem DpAll.len : ∀ {vs : List V} {ds : List PyData}, DpAll K H vs ds → vs.length = ds.length
  | _, _, .nil => rfl
  | _, _, .cons _ h => by rw [List.length_cons, List.length_cons, DpAll.len h]
theorem DpAll.get : ∀ {vs : List V} {ds : List PyData} {i : Nat} {d : PyData}, DpAll K H vs ds → ds[i]? = some d → ∃ v, vs[i]? = some v ∧ Dp K H v d
  | _, _, _, _, .nil, h => by simp at h
  | _, _, 0, _, .cons h1 _, h => by cases h; exact ⟨_, rfl, h1⟩
  | _, _, i + 1, _, .cons _ h2, h => DpAll.get (i := i) h2 h
theorem DpAll.got : ∀ {vs : List V} {ds : List PyData} {i : Nat} {v : V}, DpAll K H vs ds → vs[i]? = some v → ∃ d, ds[i]? = some d ∧ Dp K H v d
  | _, _, _, _, .nil, h => by simp at h
  | _, _, 0, _, .cons h1 _, h => by cases h; exact ⟨_, rfl, h1⟩
  | _, _, i + 1, _, .cons _ h2, h => DpAll.got (i := i) h2 h
theorem DpAll.snoc : ∀ {vs : List V} {ds : List PyData}, DpAll K H vs ds → Dp K H v d → DpAll K H (vs ++ [v]) (ds ++ [d])
  | _, _, .nil, h => .cons h .nil
  | _, _, .cons h1 h2, h => .cons h1 (DpAll.snoc h2 h)
theorem FD_fr {a : Addr} {x : Rat} (h : Dp K H (.ref a) (FD x)) : Fr K H a x := by
  cases h with
  | tup h1 h2 =>
    cases h2 with
    | cons h3 h4 =>
      cases h4 with
      | cons h5 h6 =>
        cases h3; cases h5; cases h6
        exact h1
theorem FD_ref {x : Rat} (h : Dp K H v (FD x)) : ∃ a, v = .ref a ∧ Fr K H a x := by
  obtain ⟨a, xs, rfl, _⟩ := Dp.tupI h
  exact ⟨a, rfl, FD_fr h⟩
theorem Frs.dp : ∀ {vs : List V} {xs : List Rat}, Frs K H vs xs → DpAll K H vs (xs.map FD)
  | [], [], _ => .nil
  | _ :: _, _ :: _, ⟨⟨a, e, h⟩, r⟩ => by subst e; exact .cons (FD_dp h) (Frs.dp r)
  | [], _ :: _, h => h.elim
  | _ :: _, [], h => h.elim
theorem frs_dp : ∀ {vs : List V} {xs : List Rat}, DpAll K H vs (xs.map FD) → Frs K H vs xs
  | _, [], h => by cases h; exact True.intro
  | _, x :: xs, h => by
    cases h with
    | cons h1 h2 => exact ⟨FD_ref h1, frs_dp h2⟩
/-- looks that == asks: lying, and no deeper than n -/
def Sh (n : Nat) (d : PyData) : Prop := d.canLay0 = true ∧ d.depth ≤ n
theorem Sh.ok {n : Nat} (h : Sh n d) (l : n ≤ 64 := by decide) : SeqAt.shaped d = true := by
  unfold SeqAt.shaped
  rw [h.1, Bool.true_and]
  exact decide_eq_true (Nat.le_trans h.2 l)
theorem sh_all {n : Nat} : ∀ {ds : List PyData}, (∀ d ∈ ds, Sh n d) → PyData.canLayAll0 ds = true ∧ PyData.depthAll ds ≤ n
  | [], _ => ⟨rfl, Nat.zero_le _⟩
  | d :: ds, h => by
    have h1 := h d List.mem_cons_self
    have h2 := sh_all fun e he => h e (List.mem_cons_of_mem _ he)
    constructor
    · rw [PyData.canLayAll0, h1.1, h2.1]; rfl
    · rw [PyData.depthAll]; exact Nat.max_le.mpr ⟨h1.2, h2.2⟩
theorem Sh.lst {n : Nat} (h : ∀ d ∈ ds, Sh n d) : Sh (n + 1) (.list ds) := by
  have z := sh_all h
  exact ⟨by rw [PyData.canLay0]; exact z.1, by rw [PyData.depth]; exact Nat.add_le_add_right z.2 1⟩
theorem Sh.tup {n : Nat} (h : ∀ d ∈ ds, Sh n d) : Sh (n + 1) (.tuple ds) := by
  have z := sh_all h
  exact ⟨by rw [PyData.canLay0]; exact z.1, by rw [PyData.depth]; exact Nat.add_le_add_right z.2 1⟩
theorem Sh.mono {n m : Nat} (h : Sh n d) (l : n ≤ m) : Sh m d := ⟨h.1, Nat.le_trans h.2 l⟩
theorem Sh.int {i : Int} {n : Nat} : Sh n (.int i) := ⟨rfl, Nat.zero_le _⟩
theorem Sh.fd {x : Rat} : Sh 1 (FD x) := ⟨rfl, Nat.le_refl _⟩
/-- a list of fractions, a table, a list of ints as data -/
abbrev FL (xs : List Rat) : PyData := .list (xs.map FD)
abbrev TD (t : List (List Rat)) : PyData := .list (t.map FL)
abbrev IL (ns : List Int) : PyData := .list (ns.map PyData.int)
theorem Sh.fl {xs : List Rat} : Sh 2 (FL xs) := Sh.lst fun d h => by
  obtain ⟨x, _, rfl⟩ := List.mem_map.mp h
  exact Sh.fd
theorem Sh.td {t : List (List Rat)} : Sh 3 (TD t) := Sh.lst fun d h => by
  obtain ⟨x, _, rfl⟩ := List.mem_map.mp h
  exact Sh.fl
theorem Sh.il {ns : List Int} : Sh 1 (IL ns) := Sh.lst fun d h => by
  obtain ⟨x, _, rfl⟩ := List.mem_map.mp h
  exact Sh.int
theorem il_dp : ∀ {ns : List Int}, DpAll K H (ns.map V.int) (ns.map PyData.int)
  | [] => .nil
  | n :: ns => .cons (.int n) il_dp
theorem IL_dp {a : Addr} {ns : List Int} (h : SqL K H a (ns.map V.int)) : Dp K H (.ref a) (IL ns) := .lst h il_dp
theorem g_neSame {n : Nat} (h1 : Dp K H x d) (h2 : Dp K H y d) (s : Sh n d) (q : Q (.bl false) H) (l : n ≤ 64 := by decide) : rNeD K x y H Q := ⟨d, d, h1, h2, s.ok l, s.ok l, by rw [SeqAt.eqv_refl d s.1]; exact q⟩
theorem g_eqSame {n : Nat} (h1 : Dp K H x d) (h2 : Dp K H y d) (s : Sh n d) (q : Q (.bl true) H) (l : n ≤ 64 := by decide) : rEqD K x y H Q := ⟨d, d, h1, h2, s.ok l, s.ok l, by rw [SeqAt.eqv_refl d s.1]; exact q⟩
/-- a list of ints against a fresh empty list -/
theorem eqv_nil (ds : List PyData) : PyData.eqv (.list ds) (.list []) = decide (ds = []) := by
  cases ds <;> simp [PyData.eqv, PyData.eqvAll]
theorem g_neE {a b : Addr} {n : Nat} {xs : List V} (h : SqL K H a xs) (hd : DpAll K H xs ds) (s : Sh n (.list ds)) (hb : SqL K H b []) (q : Q (.bl (!decide (ds = []))) H) (l : n ≤ 64 := by decide) : rNeD K (.ref a) (.ref b) H Q :=
  ⟨_, _, .lst h hd, .lst hb .nil, s.ok l, rfl, by rw [eqv_nil]; exact q⟩
theorem g_eqE {a b : Addr} {n : Nat} {xs : List V} (h : SqL K H a xs) (hd : DpAll K H xs ds) (s : Sh n (.list ds)) (hb : SqL K H b []) (q : Q (.bl (decide (ds = []))) H) (l : n ≤ 64 := by decide) : rEqD K (.ref a) (.ref b) H Q :=
  ⟨_, _, .lst h hd, .lst hb .nil, s.ok l, rfl, by rw [eqv_nil]; exact q⟩
/-- a cell of a table -/
theorem td_row {T : V} {t : List (List Rat)} {i : Nat} {row : List Rat} (h : Dp K H T (TD t)) (hr : t[i]? = some row) : ∃ a xs r, T = .ref a ∧ SqL K H a xs ∧ xs[i]? = some (.ref r) ∧ ∃ vs, SqL K H r vs ∧ Frs K H vs row := by
  obtain ⟨a, xs, rfl, hs, hd⟩ := Dp.lstI h
  obtain ⟨v, hv, hdv⟩ := DpAll.get hd (i := i) (d := FL row) (by rw [List.getElem?_map, hr]; rfl)
  obtain ⟨r, vs, rfl, hs2, hd2⟩ := Dp.lstI hdv
  exact ⟨a, xs, r, rfl, hs, hv, vs, hs2, frs_dp hd2⟩
/-- what is never called -/
def spNever : Sp := fun _ _ _ _ => False
theorem never_ok {P : Program} {w : World} {mg : Str → Option Value} {base : Heap} {k : Nat} {f : Addr} {fd : FuncData} {ps : List Str} : FnOk P w K mg base CX0 k f fd ps spNever :=
  ⟨fun _ _ _ _ h => h.elim, fun _ _ _ _ _ _ _ _ _ _ _ _ _ h => h.elim⟩
end
theorem same_mut {H H' : Hp} {p : Addr} {o : HO} (e : Same H H') (h : H p = none) : Same H (upd H' p o) := fun b u hb => by
  rw [upd_ne (ne_of_none hb h)]
  exact e b u hb
/-! ### tables by places -/
def at2 (t : List (List Rat)) (i j : Nat) : Rat := (t.getD i []).getD j 0
structure Sqr (b n : Nat) (t : List (List Rat)) : Prop where
  len : t.length = n
  row : ∀ r ∈ t, r.length = n
  bd : ∀ r ∈ t, ∀ x ∈ r, Bd b x
theorem Sqr.at {b n : Nat} {t : List (List Rat)} (s : Sqr b n t) {i j : Nat} (hi : i < n) (hj : j < n) : ∃ r, t[i]? = some r ∧ r[j]? = some (at2 t i j) ∧ Bd b (at2 t i j) := by
  have h1 : i < t.length := by rw [s.len]; exact hi
  have e1 : t[i]? = some t[i] := List.getElem?_eq_getElem h1
  have h2 : j < t[i].length := by rw [s.row _ (List.getElem_mem h1)]; exact hj
  have e2 : t[i][j]? = some t[i][j] := List.getElem?_eq_getElem h2
  have e3 : at2 t i j = t[i][j] := by
    unfold at2
    rw [show t.getD i [] = t[i] by rw [List.getD_eq_getElem?_getD, e1, Option.getD_some], List.getD_eq_getElem?_getD, e2, Option.getD_some]
  exact ⟨t[i], e1, by rw [e3]; exact e2, by rw [e3]; exact s.bd _ (List.getElem_mem h1) _ (List.getElem_mem h2)⟩
/-- a cell's way: the row's place, the cell's place -/
theorem td_at {K : PySem.W.Frag} {H : Hp} {T : V} {b n : Nat} {t : List (List Rat)} (h : Dp K H T (TD t)) (s : Sqr b n t) : ∃ a xs, T = .ref a ∧ SqL K H a xs ∧ xs.length = n ∧
    ∀ i, i < n → ∃ r vs, xs[i]? = some (.ref r) ∧ SqL K H r vs ∧ vs.length = n ∧ ∀ j, j < n → ∃ c, vs[j]? = some (.ref c) ∧ Fr K H c (at2 t i j) := by
  obtain ⟨a, xs, rfl, hs, hd⟩ := Dp.lstI h
  refine ⟨a, xs, rfl, hs, by rw [DpAll.len hd, List.length_map, s.len], fun i hi => ?_⟩
  have h1 : i < t.length := by rw [s.len]; exact hi
  have e1 : t[i]? = some t[i] := List.getElem?_eq_getElem h1
  obtain ⟨v, hv, hdv⟩ := DpAll.get hd (i := i) (d := FL t[i]) (by rw [List.getElem?_map, e1]; rfl)
  obtain ⟨r, vs, rfl, hs2, hd2⟩ := Dp.lstI hdv
  have fr := frs_dp hd2
  refine ⟨r, vs, hv, hs2, by rw [fr.len, s.row _ (List.getElem_mem h1)], fun j hj => ?_⟩
  obtain ⟨r', e2, e3, _⟩ := s.at hi hj
  rw [e1] at e2
  cases e2
  exact fr.at e3
def ab (x : Rat) : Rat := if x < 0 then -x else x
theorem ab_num (x : Rat) : x.num < 0 ↔ x < 0 := by
  rw [Rat.lt_iff]
  show _ ↔ x.num * ((1 : Nat) : Int) < (0 : Int) * (x.den : Int)
  rw [Int.zero_mul, Int.natCast_one, Int.mul_one]
theorem range_snoc {α : Type} (f : Nat → α) (i : Nat) : (List.range (i + 1)).map f = (List.range i).map f ++ [f i] := by
  rw [List.range_succ, List.map_append]; rfl
/-! ### a list under way, and all that does not hang on it -/
section
variable {K : PySem.W.Frag} {H H' : Hp} {L a : Addr} {o : HO} {xs : List V}
theorem same_del : Same (delH H L) H := fun b u e => by
  by_cases z : b = L
  · rw [z, delH_same] at e; cases e
  · rw [delH_ne z] at e; exact e
theorem del_mono (s : Same H H') : Same (delH H L) (delH H' L) := fun b u e => by
  by_cases z : b = L
  · rw [z, delH_same] at e; cases e
  · rw [delH_ne z] at e ⊢; exact s b u e
theorem del_upd : Same (delH H L) (delH (upd H L o) L) := fun b u e => by
  by_cases z : b = L
  · rw [z, delH_same] at e; cases e
  · rw [delH_ne z] at e ⊢; rw [upd_ne z]; exact e
theorem to_del (s : Same H H') (n : H L = none) : Same H (delH H' L) := fun b u e => by
  rw [delH_ne (ne_of_none e n)]; exact s b u e
theorem ts_del (e : H L = some (.lst xs)) : TS K H (delH H L) := fun c ys h => by
  rcases h with (h | ⟨u, h⟩) | h
  · exact .inl (.inl (by rw [delH_ne (ne_of h e (by intro z; cases z))]; exact h))
  · exact .inl (.inr ⟨u, by rw [delH_ne (ne_of h e (by intro z; cases z))]; exact h⟩)
  · exact .inr h
theorem sql_del {ys : List V} (h : H a = some (.lst ys)) (n : a ≠ L) : SqL K (delH H L) a ys := SqL.of (by rw [delH_ne n]; exact h)
/-- a fresh list of fractions, beside L -/
theorem fl_del {ys : List V} {qs : List Rat} (e : H L = some (.lst xs)) (h : H a = some (.lst ys)) (n : a ≠ L) (f : Frs K H ys qs) : Dp K (delH H L) (.ref a) (FL qs) := .lst (sql_del h n) (Frs.dp (Frs.ts (ts_del e) f))
theorem lcd_list {σ : L2.St} {g : TG} {te : TE} {vs : List Nat} {Qd : Hp → Prop} (e : Nat → PyData) (hs : SqL K H a xs) (nL : H L = none) (sz : xs.length < 100000)
    (turn : ∀ i x H' (R : VK), xs[i]? = some x → Same H H' → (∃ acc, H' L = some (.lst acc)) → (∀ y H4, Same H' H4 → Dp K (delH H4 L) y (e i) → R y H4) → g x (wipe σ vs) H' fun σ2 H2 => wipe σ2 vs = wipe σ vs ∧ te σ2 H2 R)
    (done : ∀ ws H', H' L = some (.lst ws) → Same H H' → DpAll K (delH H' L) ws ((List.range xs.length).map e) → Qd H') : LoopC (Itl K a) g tYes te vs L σ Qd H := by
  refine lcl_list (K := K) (a := a) (xs := xs) (fun i H' => ∃ ws, H' L = some (.lst ws) ∧ Same H H' ∧ DpAll K (delH H' L) ws ((List.range i).map e)) ⟨[], upd_same, same_new nL, .nil⟩ (fun i H' _ ⟨_, _, s1, _⟩ => sqL_same s1 hs) ?_ (fun H' ⟨ws, h1, h2, h3⟩ => done ws H' h1 h2 h3)
  rintro i x H' hx ⟨ws, h1, h2, h3⟩
  have hi : i < xs.length := (List.getElem?_eq_some_iff.mp hx).1
  have := turn i x H' (fun y H4 => ∃ acc, H4 L = some (.lst acc) ∧ acc.length < sizeLine ∧ ∃ ws, upd H4 L (.lst (acc ++ [y])) L = some (.lst ws) ∧ Same H (upd H4 L (.lst (acc ++ [y]))) ∧ DpAll K (delH (upd H4 L (.lst (acc ++ [y]))) L) ws ((List.range (i + 1)).map e)) hx h2 ⟨ws, h1⟩ (fun y H4 s4 d4 => by
    refine ⟨ws, s4 _ _ h1, sz_lt (by rw [DpAll.len h3, List.length_map, List.length_range]; omega), ws ++ [y], upd_same, same_mut (h2.trans s4) nL, ?_⟩
    rw [range_snoc]
    exact DpAll.sm (DpAll.snoc (DpAll.sm h3 (del_mono s4)) d4) del_upd)
  exact this
theorem lcd_range {lo : Int} {n : Nat} {σ : L2.St} {g : TG} {te : TE} {vs : List Nat} {Qd : Hp → Prop} (e : Nat → PyData) (nL : H L = none) (sz : n < 100000)
    (turn : ∀ (i : Nat) H' (R : VK), i < n → Same H H' → (∃ acc, H' L = some (.lst acc)) → (∀ y H4, Same H' H4 → Dp K (delH H4 L) y (e i) → R y H4) → g (.int (lo + i)) (wipe σ vs) H' fun σ2 H2 => wipe σ2 vs = wipe σ vs ∧ te σ2 H2 R)
    (done : ∀ ws H', H' L = some (.lst ws) → Same H H' → DpAll K (delH H' L) ws ((List.range n).map e) → Qd H') : LoopC (Itr lo n) g tYes te vs L σ Qd H := by
  refine lcl_range (fun i H' => ∃ ws, H' L = some (.lst ws) ∧ Same H H' ∧ DpAll K (delH H' L) ws ((List.range i).map e)) ⟨[], upd_same, same_new nL, .nil⟩ ?_ (fun H' ⟨ws, h1, h2, h3⟩ => done ws H' h1 h2 h3)
  rintro i H' hi ⟨ws, h1, h2, h3⟩
  have := turn i H' (fun y H4 => ∃ acc, H4 L = some (.lst acc) ∧ acc.length < sizeLine ∧ ∃ ws, upd H4 L (.lst (acc ++ [y])) L = some (.lst ws) ∧ Same H (upd H4 L (.lst (acc ++ [y]))) ∧ DpAll K (delH (upd H4 L (.lst (acc ++ [y]))) L) ws ((List.range (i + 1)).map e)) hi h2 ⟨ws, h1⟩ (fun y H4 s4 d4 => by
    refine ⟨ws, s4 _ _ h1, sz_lt (by rw [DpAll.len h3, List.length_map, List.length_range]; omega), ws ++ [y], upd_same, same_mut (h2.trans s4) nL, ?_⟩
    rw [range_snoc]
    exact DpAll.sm (DpAll.snoc (DpAll.sm h3 (del_mono s4)) d4) del_upd)
  exact this
theorem int_dp : ∀ {vs : List V} {ns : List Int}, DpAll K H vs (ns.map PyData.int) → vs = ns.map V.int
  | _, [], h => by cases h; rfl
  | _, n :: ns, h => by
    cases h with
    | cons h1 h2 => cases h1; rw [int_dp h2]; rfl
theorem range_at {α β : Type} (f : α → β) (xs : List α) (d : α) : (List.range xs.length).map (fun i => f (xs.getD i d)) = xs.map f := by
  apply List.ext_getElem
  · simp
  · intro i h1 h2
    simp only [List.getElem_map, List.getElem_range]
    rw [List.getD_eq_getElem?_getD, List.getElem?_eq_getElem (by simpa using h1)]
    rfl
end
/-! ### a deck -/
/-- a deck: a list of one number -/
def Deck (H : Hp) (p : Addr) : Prop := ∃ a : Int, H p = some (.lst [.int a])
theorem Deck.same {H H' : Hp} {p : Addr} (h : Deck H p) (s : Same H H') : Deck H' p := by
  obtain ⟨a, e⟩ := h
  exact ⟨a, s _ _ e⟩
theorem Deck.new {H : Hp} {p q : Addr} {o : HO} (h : Deck H p) (s : H q = none) : Deck (upd H q o) p := h.same (same_new s)
theorem deck_ne {H : Hp} {p l : Addr} (h : Deck H p) (e : H l = none) : l ≠ p := fun z => by
  obtain ⟨a, e2⟩ := h
  rw [← z, e] at e2; cases e2
theorem sqT_deck {K : PySem.W.Frag} {H H' : Hp} {p a : Addr} {xs : List V} (b : But p H H') (e : Deck H p) (h : SqT K H a xs) : SqT K H' a xs := by
  obtain ⟨z, e⟩ := e
  exact sqT_but b e h
theorem ts_deck {K : PySem.W.Frag} {H H' : Hp} {p : Addr} (b : But p H H') (e : Deck H p) : TS K H H' := fun _ _ h => sqT_deck b e h
def sp_dtake (K : PySem.W.Frag) : Sp := fun vs H Q _ => ∃ (p : Addr) (m : Int), vs = [.ref p, .int m] ∧ Deck H p ∧ 0 < m ∧ m.natAbs < 2 ^ 8500 ∧ ∀ r H', 0 ≤ r → r < m → But p H H' → Deck H' p → Q (.int r) H'
/-! ### sorted of data -/
/-- items with their data, sorted by these, stable -/
def sortD (xs : List V) (ds : List PyData) : List (V × PyData) := (xs.zip ds).mergeSort (PySem.W.dataLe false Prod.snd)
def rSortedD (K : PySem.W.Frag) : List V → Hp → VK → Prop := fun vs H Q => ∃ (a : Addr) (xs : List V) (ds : List PyData), vs = [V.ref a] ∧ SqL K H a xs ∧ DpAll K H xs ds ∧ PySem.W.AllAlike ds ∧ PySem.W.Sortable ds ∧ (∀ d ∈ ds, d.depth ≤ 50) ∧
  ∀ p : Addr, H p = none → Q (.ref p) (upd H p (.lst ((sortD xs ds).map Prod.fst)))
theorem each_in {K : PySem.W.Frag} {H : Hp} : ∀ {xs : List V} {us : List Value} {ds : List PyData}, Vals xs us → DpAll K H xs ds → PySem.W.EachIs (fun u (b : V × PyData) => RelV b.1 u ∧ Dp K H b.1 b.2) us (xs.zip ds)
  | _, _, _, .nil, .nil => .nil
  | _, _, _, .cons r rs, .cons h hs => .cons ⟨r, h⟩ (each_in rs hs)
theorem each_out {K : PySem.W.Frag} {H : Hp} : ∀ {us : List Value} {bs : List (V × PyData)}, PySem.W.EachIs (fun u (b : V × PyData) => RelV b.1 u ∧ Dp K H b.1 b.2) us bs → Vals (bs.map Prod.fst) us
  | _, _, .nil => .nil
  | _, _, .cons ⟨r, _⟩ t => .cons r (each_out t)
theorem each_reads {X : Cx} {pins : List (Addr × Obj)} {σ : L2.St} {H : Hp} {s : Shared} (I : Inv X pins σ H s) : ∀ {us : List Value} {bs : List (V × PyData)}, PySem.W.EachIs (fun u (b : V × PyData) => RelV b.1 u ∧ Dp X.K H b.1 b.2) us bs → PySem.W.EachIs (fun u (b : V × PyData) => ∃ as, Reads s.heap u (Prod.snd b) as) us bs
  | _, _, .nil => .nil
  | _, _, .cons ⟨r, h⟩ t => .cons (Dp.reads I _ _ _ h r) (each_reads I t)
theorem zip_snd {α β : Type} : ∀ {xs : List α} {ds : List β}, xs.length = ds.length → (xs.zip ds).map Prod.snd = ds
  | [], [], _ => rfl
  | _ :: xs, _ :: ds, h => by
    have e := zip_snd (xs := xs) (ds := ds) (by simpa using h)
    rw [List.zip_cons_cons, List.map_cons, e]
theorem zip_fst {α β : Type} : ∀ {xs : List α} {ds : List β}, xs.length = ds.length → (xs.zip ds).map Prod.fst = xs
  | [], [], _ => rfl
  | _ :: xs, _ :: ds, h => by
    have e := zip_fst (xs := xs) (ds := ds) (by simpa using h)
    rw [List.zip_cons_cons, List.map_cons, e]
theorem sortD_perm (xs : List V) (ds : List PyData) : (sortD xs ds).Perm (xs.zip ds) := List.mergeSort_perm _ _
theorem sortD_len {xs : List V} {ds : List PyData} (h : xs.length = ds.length) : (sortD xs ds).length = xs.length := by
  rw [(sortD_perm xs ds).length_eq, List.length_zip, h, Nat.min_self]
theorem cr_sortedD {X : Cx} (hu : X.A.units + 64 < cLine) : CallR X (.builtin "sorted") (rSortedD X.K) := by
  intro pins s σ H vs us Q I r h
  obtain ⟨a, xs, ds, rfl, hs, hd, hal, hk, hdp, q⟩ := h
  obtain ⟨its, rv, hl, hz⟩ := I.list hs
  rw [Vals.ref1 r]
  have e := each_in rv hd
  have ld : xs.length = ds.length := DpAll.len hd
  refine PySem.W.sorted_data (enc := Prod.snd) (bs := xs.zip ds) hl.isList e (each_reads I e) (by rw [zip_snd ld]; exact hal) (by rw [zip_snd ld]; exact hk) (by rw [List.length_zip, ← ld, Nat.min_self]; exact hz) (fun b hm => ?_) fun out hlen ho => ?_
  · have := hdp b.2 (List.of_mem_zip hm).2
    show X.A.units + 2 + b.2.depth < cLine
    omega
  · obtain ⟨ep, he'⟩ := PyProof.Rows.sortedAll_at s.heap its out.toArray
    exact ⟨.ref _, upd H (s.heap.objs.size + 1) (.lst ((sortD xs ds).map Prod.fst)), I.laid (t' := s.toks) (fun _ _ => PyProof.Rows.sortedAll_old) (Nat.le_succ _) ⟨by rw [List.length_map, sortD_len ld]; exact hz, out, ep, each_out ho, he'⟩, rfl, q _ (I.hok.fresh (Nat.le_succ _))⟩
theorem k_sortedD {X : Cx} {K : PySem.W.Frag} (hu : X.A.units + 64 < cLine) (h : X.K = K := by rfl) : CallR X (.builtin "sorted") (rSortedD K) := by subst h; exact cr_sortedD hu
/-- what is sorted stays -/
theorem sortD_id {xs : List V} {ds : List PyData} (h : ds.Pairwise fun a b => PySem.W.dataLe false id a b = true) (l : xs.length = ds.length) : (sortD xs ds).map Prod.fst = xs := by
  unfold sortD
  rw [List.mergeSort_of_pairwise, zip_fst l]
  have : ((xs.zip ds).map Prod.snd).Pairwise fun a b => PySem.W.dataLe false id a b = true := by rw [zip_snd l]; exact h
  exact List.pairwise_map.mp this
/-! ### all cuts, in order -/
def cutsL : Nat → Nat → List (List Int)
  | 0, _ => []
  | k + 1, p => [[(p : Int)]] ++ (cutsL k (p + 1)).map (fun c => (p : Int) :: c) ++ cutsL k (p + 1)
theorem cutsL_head : ∀ {k p : Nat} {c : List Int}, c ∈ cutsL k p → ∃ z r, c = z :: r ∧ (p : Int) ≤ z
  | k + 1, p, c, h => by
    unfold cutsL at h
    rcases List.mem_append.mp h with h | h
    · rcases List.mem_append.mp h with h | h
      · rw [List.mem_singleton.mp h]; exact ⟨_, _, rfl, Int.le_refl _⟩
      · obtain ⟨x, _, rfl⟩ := List.mem_map.mp h
        exact ⟨_, _, rfl, Int.le_refl _⟩
    · obtain ⟨z, r, e, hz⟩ := cutsL_head h
      exact ⟨z, r, e, by omega⟩
theorem cutsL_sorted : ∀ k p : Nat, (cutsL k p).Pairwise (· < ·)
  | 0, _ => .nil
  | k + 1, p => by
    have ih := cutsL_sorted k (p + 1)
    unfold cutsL
    rw [List.pairwise_append]
    refine ⟨?_, ih, fun a ha b hb => ?_⟩
    · rw [List.singleton_append, List.pairwise_cons]
      refine ⟨fun b hb => ?_, ?_⟩
      · obtain ⟨c, hc, rfl⟩ := List.mem_map.mp hb
        obtain ⟨z, r, rfl, _⟩ := cutsL_head hc
        rw [List.cons_lt_cons_iff]
        exact .inr ⟨rfl, List.nil_lt_cons _ _⟩
      · rw [List.pairwise_map]
        exact ih.imp fun h => by rw [List.cons_lt_cons_iff]; exact .inr ⟨rfl, h⟩
    · obtain ⟨z, r, rfl, hz⟩ := cutsL_head hb
      have ha' : ∃ s, a = (p : Int) :: s := by
        rcases List.mem_append.mp ha with h | h
        · rw [List.mem_singleton.mp h]; exact ⟨_, rfl⟩
        · obtain ⟨x, _, rfl⟩ := List.mem_map.mp h
          exact ⟨_, rfl⟩
      obtain ⟨s, rfl⟩ := ha'
      rw [List.cons_lt_cons_iff]
      exact .inl (by omega)
theorem cutsL_len : ∀ k p : Nat, (cutsL k p).length + 1 = 2 ^ k
  | 0, _ => rfl
  | k + 1, p => by
    have := cutsL_len k (p + 1)
    unfold cutsL
    rw [List.length_append, List.length_append, List.length_map, List.length_singleton, Nat.pow_succ]
    omega
theorem dataLe_il {a b : List Int} (h : a < b) : PySem.W.dataLe false id (IL a) (IL b) = true := by
  have := PySem.W.dataLe_rows (fun x : List Int => x)
  have e := congrFun (congrFun this a) b
  show PySem.W.dataLe false (fun x : List Int => PyData.list (x.map PyData.int)) a b = true
  rw [e]
  exact decide_eq_true (List.le_of_lt h)
theorem cuts_sortable {css : List (List Int)} : PySem.W.Sortable (css.map IL) := PySem.W.Sortable.others fun b => ⟨nofun, fun _ => nofun⟩
theorem cuts_alike {css : List (List Int)} : PySem.W.AllAlike (css.map IL) := PySem.W.AllAlike.of fun b b' => by
  show PySem.W.alikeAll _ _ = true
  exact PySem.W.alike_ints b b'
/-- lists of ints, each its own -/
def LLs (H : Hp) : List Addr → List (List Int) → Prop
  | [], [] => True
  | r :: rs, c :: cs => H r = some (.lst (c.map V.int)) ∧ LLs H rs cs
  | _, _ => False
theorem LLs.same {H H' : Hp} (s : Same H H') : ∀ {rs : List Addr} {cs : List (List Int)}, LLs H rs cs → LLs H' rs cs
  | [], [], _ => True.intro
  | _ :: _, _ :: _, ⟨h, t⟩ => ⟨s _ _ h, LLs.same s t⟩
  | [], _ :: _, h => h.elim
  | _ :: _, [], h => h.elim
theorem LLs.upd {H : Hp} {L : Addr} {o : HO} : ∀ {rs : List Addr} {cs : List (List Int)}, L ∉ rs → LLs H rs cs → LLs (upd H L o) rs cs
  | [], [], _, _ => True.intro
  | r :: _, _ :: _, n, ⟨h, t⟩ => ⟨by rw [upd_ne (fun z => n (by rw [← z]; exact List.mem_cons_self))]; exact h, LLs.upd (fun z => n (List.mem_cons_of_mem _ z)) t⟩
  | [], _ :: _, _, h => h.elim
  | _ :: _, [], _, h => h.elim
theorem LLs.app {H : Hp} : ∀ {rs ss : List Addr} {cs ds : List (List Int)}, LLs H rs cs → LLs H ss ds → LLs H (rs ++ ss) (cs ++ ds)
  | [], _, [], _, _, h => h
  | _ :: _, _, _ :: _, _, ⟨h, t⟩, g => ⟨h, LLs.app t g⟩
  | [], _, _ :: _, _, h, _ => h.elim
  | _ :: _, _, [], _, h, _ => h.elim
theorem LLs.len {H : Hp} : ∀ {rs : List Addr} {cs : List (List Int)}, LLs H rs cs → rs.length = cs.length
  | [], [], _ => rfl
  | _ :: _, _ :: _, ⟨_, t⟩ => by rw [List.length_cons, List.length_cons, LLs.len t]
  | [], _ :: _, h => h.elim
  | _ :: _, [], h => h.elim
theorem LLs.get {H : Hp} : ∀ {rs : List Addr} {cs : List (List Int)} {i : Nat} {r : Addr}, LLs H rs cs → rs[i]? = some r → ∃ c, cs[i]? = some c ∧ H r = some (.lst (c.map V.int))
  | [], [], _, _, _, h => by simp at h
  | _ :: _, _ :: _, 0, _, ⟨h, _⟩, e => by cases e; exact ⟨_, rfl, h⟩
  | _ :: _, _ :: _, i + 1, _, ⟨_, t⟩, e => LLs.get (i := i) t e
  | [], _ :: _, _, _, h, _ => h.elim
  | _ :: _, [], _, _, h, _ => h.elim
theorem LLs.dp {K : PySem.W.Frag} {H : Hp} : ∀ {rs : List Addr} {cs : List (List Int)}, LLs H rs cs → DpAll K H (rs.map V.ref) (cs.map IL)
  | [], [], _ => .nil
  | _ :: _, _ :: _, ⟨h, t⟩ => .cons (IL_dp (SqL.of h)) (LLs.dp t)
  | [], _ :: _, h => h.elim
  | _ :: _, [], h => h.elim
theorem loop_rangeC {lo c : Int} {n : Nat} {g : L2.TG} {tb : L2.TS} {D : Ends} {σ : L2.St} {H : Hp} (Pv : Nat → L2.St → Hp → Prop) (h0 : Pv 0 σ H)
    (hs : ∀ i σ H, i < n → Pv i σ H → g (.int (lo + (i : Nat) * c)) σ H fun σ2 H2 => tb { D with nx := Pv (i + 1), ct := Pv (i + 1), bk := D.nx } σ2 H2) (hd : ∀ σ H, Pv n σ H → D.nx σ H) : LoopF (Itc lo c n) g tb D σ H := for_rangeC Pv h0 hs hd
def rng3 (R : It → Hp → Prop) (vs : List V) (H : Hp) : Prop := ∃ (i j c : Int) (n : Nat), vs = [.int i, .int j, .int c] ∧ RgC i j c n ∧ R (Itc i c n) H
instance {σ : L2.St} {H : Hp} {ta : TA} {R : It → Hp → Prop} : St1 (iRng3 ta σ H R) (ta σ H (rng3 R)) := ⟨fun h => h⟩
theorem g_rng3d {H : Hp} {i j : Int} {R : It → Hp → Prop} (h : -(2 ^ 62) ≤ i ∧ i < 2 ^ 62 ∧ -(2 ^ 62) ≤ j ∧ j < 2 ^ 62) (q : R (Itc i (-1) (i - j).toNat) H) : rng3 R [.int i, .int j, .int (-1)] H := ⟨i, j, -1, _, rfl, RgC.neg h.1 h.2.1 h.2.2.1 h.2.2.2, q⟩
theorem nd_app {a b : List Addr} (h1 : a.Nodup) (h2 : b.Nodup) (h : ∀ x ∈ a, x ∉ b) : (a ++ b).Nodup := List.nodup_append.mpr ⟨h1, h2, fun x hx y hy e => h x hx (e ▸ hy)⟩
theorem ll_keep {H H' : Hp} {rs : List Addr} {cs : List (List Int)} (k : ∀ r ∈ rs, ∀ o, H r = some o → H' r = some o) (h : LLs H rs cs) : LLs H' rs cs := by
  induction rs generalizing cs with
  | nil => cases cs <;> exact h
  | cons r rs ih =>
    cases cs with
    | nil => exact h
    | cons c cs => exact ⟨k r List.mem_cons_self _ h.1, ih (fun x hx => k x (List.mem_cons_of_mem _ hx)) h.2⟩
theorem take_snoc {α : Type} {l : List α} {i : Nat} {x : α} (h : l[i]? = some x) : l.take (i + 1) = l.take i ++ [x] := by
  rw [List.take_add_one, h]; rfl
theorem cutsL_el : ∀ {k p : Nat} {c : List Int}, c ∈ cutsL k p → c.length ≤ k
  | k + 1, p, c, h => by
    unfold cutsL at h
    rcases List.mem_append.mp h with h | h
    · rcases List.mem_append.mp h with h | h
      · rw [List.mem_singleton.mp h]; simp
      · obtain ⟨x, hx, rfl⟩ := List.mem_map.mp h
        have := cutsL_el hx
        rw [List.length_cons]; omega
    · have := cutsL_el h
      omega
theorem il_depth {d : PyData} {css : List (List Int)} (h : d ∈ css.map IL) : d.depth ≤ 50 := by
  obtain ⟨c, _, rfl⟩ := List.mem_map.mp h
  exact Nat.le_trans Sh.il.2 (by decide)
theorem cutsL_pair {k p : Nat} : ((cutsL k p).map IL).Pairwise fun a b => PySem.W.dataLe false id a b = true := by
  rw [List.pairwise_map]
  exact (cutsL_sorted k p).imp dataLe_il
/-! a cut and all that begin with it; a pile of such, the top last -/
def lastN (c : List Int) : Nat := (c.getLastD 0).toNat
def begun (n : Nat) (c : List Int) : List (List Int) := [c] ++ (cutsL (n - 1 - lastN c) (lastN c + 1)).map (c ++ ·)
def pileR (n : Nat) (ps : List (List Int)) : List (List Int) := (ps.reverse.map (begun n)).flatten
theorem pileR_snoc (n : Nat) (ps : List (List Int)) (c : List Int) : pileR n (ps ++ [c]) = begun n c ++ pileR n ps := by
  unfold pileR
  rw [List.reverse_append, List.map_append]
  rfl
theorem pileR_app (n : Nat) (ps qs : List (List Int)) : pileR n (ps ++ qs) = pileR n qs ++ pileR n ps := by
  unfold pileR
  rw [List.reverse_append, List.map_append, List.flatten_append]
theorem lastN_snoc (c : List Int) (q : Nat) : lastN (c ++ [(q : Int)]) = q := by
  unfold lastN
  rw [List.getLastD_eq_getLast?, List.getLast?_concat]
  rfl
/-- the longer ones by one point, from the greatest point down, come to all that begin with c and are longer -/
theorem pileR_longer (n : Nat) (c : List Int) : ∀ (k p : Nat), p + k = n → pileR n ((List.range k).map fun i => c ++ [((n - 1 - i : Nat) : Int)]) = (cutsL k p).map (c ++ ·)
  | 0, _, _ => rfl
  | k + 1, p, h => by
    have ih := pileR_longer n c k (p + 1) (by omega)
    rw [range_snoc, pileR_snoc, ih]
    have e : n - 1 - k = p := by omega
    rw [e]
    unfold begun
    rw [lastN_snoc, show n - 1 - p = k by omega, show cutsL (k + 1) p = [[(p : Int)]] ++ (cutsL k (p + 1)).map (fun c => (p : Int) :: c) ++ cutsL k (p + 1) from rfl, List.map_append, List.map_append, List.map_map]
    congr 2
    apply List.map_congr_left
    intro x _
    simp
theorem pileR_first (n : Nat) (h : 1 ≤ n) : pileR n ((List.range (n - 1)).map fun i => [((n - 1 - i : Nat) : Int)]) = cutsL (n - 1) 1 := by
  have := pileR_longer n [] (n - 1) 1 (by omega)
  rw [show (fun x : List Int => [] ++ x) = id from funext fun x => List.nil_append x, List.map_id] at this
  exact this
theorem begun_len (n : Nat) (c : List Int) : 1 ≤ (begun n c).length := by
  unfold begun
  rw [List.length_append]
  show 1 ≤ 1 + _
  omega
theorem lcl_rangeC {lo st : Int} {n : Nat} {σ : L2.St} {H : Hp} {g : L2.TG} {tt : TT} {te : TE} {vs : List Nat} {L : Addr} {Qd : Hp → Prop} (Pv : Nat → Hp → Prop) (h0 : Pv 0 (upd H L (.lst [])))
    (turn : ∀ i G, i < n → Pv i G → g (.int (lo + (i : Nat) * st)) (wipe σ vs) G fun σ2 H2 => wipe σ2 vs = wipe σ vs ∧ tt σ2 H2 fun b H3 =>
      if b = true then te σ2 H3 fun y H4 => ∃ acc, H4 L = some (.lst acc) ∧ acc.length < sizeLine ∧ Pv (i + 1) (upd H4 L (.lst (acc ++ [y]))) else Pv (i + 1) H3) (done : ∀ G, Pv n G → Qd G) : LoopC (Itc lo st n) g tt te vs L σ Qd H := by
  refine ⟨fun i left G => left + i = n ∧ Pv i G, ⟨n, Nat.add_zero n, h0⟩, ?_⟩
  rintro i left G ⟨e, p⟩
  rcases Nat.lt_or_ge i n with lt | ge
  · refine Or.inr ⟨lt, Pv (i + 1), fun G' p' => ⟨left - 1, by omega, by omega, p'⟩, ?_⟩
    rintro x G' ⟨rfl, rfl⟩
    exact turn i _ lt p
  · obtain rfl : i = n := by omega
    exact Or.inl ⟨ge, done G p⟩
theorem g_while {c : TT} {tb : L2.TS} {D : Ends} {σ : L2.St} {H : Hp} (W : Nat → L2.St → Hp → Prop) (h0 : ∃ m, W m σ H) (turn : ∀ m σ G, W m σ G → c σ G fun b H1 => if b = true then
    ∃ N : L2.St → Hp → Prop, (∀ σ' H', N σ' H' → ∃ m', m' < m ∧ W m' σ' H') ∧ tb { D with nx := N, ct := N, bk := D.nx } σ H1 else D.nx σ H1) : tWhile c tb D σ H := ⟨W, h0, turn⟩
theorem LLs.snoc {H : Hp} {rs : List Addr} {cs : List (List Int)} {r : Addr} {c : List Int} (h : LLs H rs cs) (e : H r = some (.lst (c.map V.int))) : LLs H (rs ++ [r]) (cs ++ [c]) := LLs.app h ⟨e, True.intro⟩
theorem LLs.unsnoc {H : Hp} : ∀ {rs : List Addr} {cs : List (List Int)} {r : Addr}, LLs H (rs ++ [r]) cs → ∃ ds c, cs = ds ++ [c] ∧ LLs H rs ds ∧ H r = some (.lst (c.map V.int))
  | [], [c], r, ⟨h, _⟩ => ⟨[], c, rfl, True.intro, h⟩
  | [], _ :: _ :: _, _, ⟨_, h⟩ => h.elim
  | [], [], _, h => h.elim
  | _ :: rs, [], _, h => h.elim
  | _ :: rs, d :: cs, r, ⟨h, t⟩ => by
    obtain ⟨ds, c, rfl, h1, h2⟩ := LLs.unsnoc (rs := rs) t
    exact ⟨d :: ds, c, rfl, ⟨h, h1⟩, h2⟩
theorem pileR_ge (n : Nat) : ∀ ps : List (List Int), ps.length ≤ (pileR n ps).length := fun ps => by
  unfold pileR
  rw [← List.length_reverse (as := ps)]
  generalize ps.reverse = qs
  induction qs with
  | nil => exact Nat.zero_le _
  | cons c qs ih =>
    rw [List.map_cons, List.flatten_cons, List.length_append, List.length_cons]
    have := begun_len n c
    omega
/-! ### data of any depth, its lists standing by themselves -/
mutual
inductive Dq (K : PySem.W.Frag) (H : Hp) : V → PyData → Prop
  | non : Dq K H .non .none
  | bl (b : Bool) : Dq K H (.bl b) (.bool b)
  | int (i : Int) : Dq K H (.int i) (.int i)
  | str (x : Str) : Dq K H (.str x) (.str x)
  | lst {a : Addr} {xs : List V} {ds : List PyData} : H a = some (.lst xs) → DqAll K H xs ds → Dq K H (.ref a) (.list ds)
  | tup {a : Addr} {xs : List V} {ds : List PyData} : SqT K H a xs → DqAll K H xs ds → Dq K H (.ref a) (.tuple ds)
inductive DqAll (K : PySem.W.Frag) (H : Hp) : List V → List PyData → Prop
  | nil : DqAll K H [] []
  | cons {v : V} {vs : List V} {d : PyData} {ds : List PyData} : Dq K H v d → DqAll K H vs ds → DqAll K H (v :: vs) (d :: ds)
end
mutual
theorem dq_same {K : PySem.W.Frag} {H H' : Hp} (s : Same H H') : ∀ (d : PyData) (v : V), Dq K H v d → Dq K H' v d
  | .none, _, h => by cases h; exact .non
  | .bool b, _, h => by cases h; exact .bl b
  | .int i, _, h => by cases h; exact .int i
  | .str x, _, h => by cases h; exact .str x
  | .list ds, _, h => by
    cases h with
    | lst h1 h2 => exact .lst (s _ _ h1) (dqAll_same s ds _ h2)
  | .tuple ds, _, h => by
    cases h with
    | tup h1 h2 => exact .tup (sqT_same s h1) (dqAll_same s ds _ h2)
  | .dict _, _, h => nomatch h
theorem dqAll_same {K : PySem.W.Frag} {H H' : Hp} (s : Same H H') : ∀ (ds : List PyData) (vs : List V), DqAll K H vs ds → DqAll K H' vs ds
  | [], _, h => by cases h; exact .nil
  | d :: ds, _, h => by
    cases h with
    | cons h1 h2 => exact .cons (dq_same s d _ h1) (dqAll_same s ds _ h2)
end
mutual
theorem dq_dp {K : PySem.W.Frag} {H : Hp} : ∀ (d : PyData) (v : V), Dq K H v d → Dp K H v d
  | .none, _, h => by cases h; exact .non
  | .bool b, _, h => by cases h; exact .bl b
  | .int i, _, h => by cases h; exact .int i
  | .str x, _, h => by cases h; exact .str x
  | .list ds, _, h => by
    cases h with
    | lst h1 h2 => exact .lst (SqL.of h1) (dqAll_dp ds _ h2)
  | .tuple ds, _, h => by
    cases h with
    | tup h1 h2 => exact .tup h1 (dqAll_dp ds _ h2)
  | .dict _, _, h => nomatch h
theorem dqAll_dp {K : PySem.W.Frag} {H : Hp} : ∀ (ds : List PyData) (vs : List V), DqAll K H vs ds → DpAll K H vs ds
  | [], _, h => by cases h; exact .nil
  | d :: ds, _, h => by
    cases h with
    | cons h1 h2 => exact .cons (dq_dp d _ h1) (dqAll_dp ds _ h2)
end
section
variable {K : PySem.W.Frag} {H H' : Hp} {x y v : V} {d e : PyData} {ds : List PyData} {vs : List V}
theorem Dq.lstI (h : Dq K H v (.list ds)) : ∃ a xs, v = .ref a ∧ H a = some (.lst xs) ∧ DqAll K H xs ds := by
  cases h with
  | lst h1 h2 => exact ⟨_, _, rfl, h1, h2⟩
theorem Dq.tupI (h : Dq K H v (.tuple ds)) : ∃ a xs, v = .ref a ∧ SqT K H a xs ∧ DqAll K H xs ds := by
  cases h with
  | tup h1 h2 => exact ⟨_, _, rfl, h1, h2⟩
theorem DqAll.len : ∀ {vs : List V} {ds : List PyData}, DqAll K H vs ds → vs.length = ds.length
  | _, _, .nil => rfl
  | _, _, .cons _ h => by rw [List.length_cons, List.length_cons, DqAll.len h]
theorem DqAll.get : ∀ {vs : List V} {ds : List PyData} {i : Nat} {d : PyData}, DqAll K H vs ds → ds[i]? = some d → ∃ v, vs[i]? = some v ∧ Dq K H v d
  | _, _, _, _, .nil, h => by simp at h
  | _, _, 0, _, .cons h1 _, h => by cases h; exact ⟨_, rfl, h1⟩
  | _, _, i + 1, _, .cons _ h2, h => DqAll.get (i := i) h2 h
theorem DqAll.got : ∀ {vs : List V} {ds : List PyData} {i : Nat} {v : V}, DqAll K H vs ds → vs[i]? = some v → ∃ d, ds[i]? = some d ∧ Dq K H v d
  | _, _, _, _, .nil, h => by simp at h
  | _, _, 0, _, .cons h1 _, h => by cases h; exact ⟨_, rfl, h1⟩
  | _, _, i + 1, _, .cons _ h2, h => DqAll.got (i := i) h2 h
theorem fr_dq {a : Addr} {x : Rat} (h : Fr K H a x) : Dq K H (.ref a) (FD x) := .tup h (.cons (.int _) (.cons (.int _) .nil))
theorem dq_fr {a : Addr} {x : Rat} (h : Dq K H (.ref a) (FD x)) : Fr K H a x := FD_fr (dq_dp _ _ h)
theorem dq_frR {x : Rat} (h : Dq K H v (FD x)) : ∃ a, v = .ref a ∧ Fr K H a x := FD_ref (dq_dp _ _ h)
end
/-! ### what stands side by side in a heap: facts that stay, lists of one's own -/
mutual
/-- no list within -/
def noL : PyData → Bool
  | .list _ => false
  | .dict _ => false
  | .tuple ds => noLs ds
  | _ => true
def noLs : List PyData → Bool
  | [] => true
  | d :: ds => noL d && noLs ds
end
/-- the heap without some -/
noncomputable def wo (H : Hp) (O : Addr → Prop) : Hp := fun b => @ite _ (O b) (Classical.propDecidable _) none (H b)
theorem wo_in {H : Hp} {O : Addr → Prop} {b : Addr} (h : O b) : wo H O b = none := by unfold wo; rw [if_pos h]
theorem wo_out {H : Hp} {O : Addr → Prop} {b : Addr} (h : ¬ O b) : wo H O b = H b := by unfold wo; rw [if_neg h]
theorem wo_some {H : Hp} {O : Addr → Prop} {b : Addr} {o : HO} (h : wo H O b = some o) : ¬ O b ∧ H b = some o := by
  by_cases z : O b
  · rw [wo_in z] at h; cases h
  · rw [wo_out z] at h; exact ⟨z, h⟩
theorem wo_same {H : Hp} {O : Addr → Prop} : Same (wo H O) H := fun b o h => (wo_some h).2
def none0 : Addr → Prop := fun _ => False
theorem wo_no {H : Hp} {O : Addr → Prop} (h : ∀ b, ¬ O b) : wo H O = H := by funext b; exact wo_out (h b)
theorem wo_less {H : Hp} {O O' : Addr → Prop} (h : ∀ a, O' a → O a) : Same (wo H O) (wo H O') := fun b o e => by
  obtain ⟨n, e⟩ := wo_some e
  rw [wo_out (fun z => n (h b z))]; exact e
theorem wo_mono {H H' : Hp} {O : Addr → Prop} (s : Same H H') : Same (wo H O) (wo H' O) := fun b o e => by
  obtain ⟨n, e⟩ := wo_some e
  rw [wo_out n]; exact s _ _ e
mutual
theorem dq_noL {K : PySem.W.Frag} {H H' : Hp} (t : ∀ a xs, SqT K H a xs → SqT K H' a xs) : ∀ (d : PyData) (v : V), noL d = true → Dq K H v d → Dq K H' v d
  | .none, _, _, h => by cases h; exact .non
  | .bool b, _, _, h => by cases h; exact .bl b
  | .int i, _, _, h => by cases h; exact .int i
  | .str x, _, _, h => by cases h; exact .str x
  | .list ds, _, n, _ => by simp [noL] at n
  | .tuple ds, _, n, h => by
    cases h with
    | tup h1 h2 => exact .tup (t _ _ h1) (dqAll_noL t ds _ (by simpa [noL] using n) h2)
  | .dict _, _, n, _ => by simp [noL] at n
theorem dqAll_noL {K : PySem.W.Frag} {H H' : Hp} (t : ∀ a xs, SqT K H a xs → SqT K H' a xs) : ∀ (ds : List PyData) (vs : List V), noLs ds = true → DqAll K H vs ds → DqAll K H' vs ds
  | [], _, _, h => by cases h; exact .nil
  | d :: ds, _, n, h => by
    have n : noL d = true ∧ noLs ds = true := by simpa [noLs] using n
    cases h with
    | cons h1 h2 => exact .cons (dq_noL t d _ n.1 h1) (dqAll_noL t ds _ n.2 h2)
end
inductive Im where
  | ps (P : Hp → Prop)
  | top (a : Addr) (xs : List V)
  | fr (F : Addr → Option (List V))
  | ob (a : Addr) (o : HO)
/-- what may be changed -/
def Mutb : HO → Prop
  | .lst _ => True
  | .ins _ _ _ => True
  | .dK _ => True
  | .dT _ => True
  | _ => False
abbrev OwnO := { o : HO // Mutb o }
def Im.oad : Im → Option Addr
  | .ob a _ => some a
  | _ => none
def obs (L : List Im) : List Addr := L.filterMap Im.oad
theorem obs_app (A B : List Im) : obs (A ++ B) = obs A ++ obs B := List.filterMap_append
theorem mem_obs {a : Addr} {L : List Im} : a ∈ obs L ↔ ∃ o, Im.ob a o ∈ L := by
  unfold obs
  rw [List.mem_filterMap]
  constructor
  · rintro ⟨m, h, e⟩
    cases m with
    | ps P => cases e
    | top b xs => cases e
    | fr F => cases e
    | ob b o => cases e; exact ⟨o, h⟩
  · rintro ⟨xs, h⟩
    exact ⟨_, h, rfl⟩
def Im.ad : Im → Option Addr
  | .top a _ => some a
  | _ => none
def tops (L : List Im) : List Addr := L.filterMap Im.ad
theorem tops_app (A B : List Im) : tops (A ++ B) = tops A ++ tops B := List.filterMap_append
theorem tops_ps (P : Hp → Prop) (L : List Im) : tops (.ps P :: L) = tops L := rfl
theorem tops_top (a : Addr) (xs : List V) (L : List Im) : tops (.top a xs :: L) = a :: tops L := rfl
theorem mem_tops {a : Addr} {L : List Im} : a ∈ tops L ↔ ∃ xs, Im.top a xs ∈ L := by
  unfold tops
  rw [List.mem_filterMap]
  constructor
  · rintro ⟨m, h, e⟩
    cases m with
    | ps P => cases e
    | top b xs => cases e; exact ⟨xs, h⟩
    | fr F => cases e
    | ob b o => cases e
  · rintro ⟨xs, h⟩
    exact ⟨_, h, rfl⟩
/-- what is owned: one's own lists, and what stands in a frame -/
def ows (L : List Im) : Addr → Prop := fun a => a ∈ tops L ∨ (∃ F, Im.fr F ∈ L ∧ ∃ ys, F a = some ys) ∨ a ∈ obs L
theorem ows_sub {A B : List Im} (h : ∀ m ∈ A, m ∈ B) {a : Addr} : ows A a → ows B a := by
  rintro (z | ⟨F, hF, z⟩ | z)
  · obtain ⟨xs, hm⟩ := mem_tops.mp z
    exact .inl (mem_tops.mpr ⟨xs, h _ hm⟩)
  · exact .inr (.inl ⟨F, h _ hF, z⟩)
  · obtain ⟨o, hm⟩ := mem_obs.mp z
    exact .inr (.inr (mem_obs.mpr ⟨o, h _ hm⟩))
theorem ows_app {A B : List Im} {a : Addr} : ows (A ++ B) a ↔ ows A a ∨ ows B a := by
  constructor
  · rintro (z | ⟨F, hF, z⟩ | z)
    · rw [tops_app] at z
      rcases List.mem_append.mp z with z | z
      · exact .inl (.inl z)
      · exact .inr (.inl z)
    · rcases List.mem_append.mp hF with h | h
      · exact .inl (.inr (.inl ⟨F, h, z⟩))
      · exact .inr (.inr (.inl ⟨F, h, z⟩))
    · rw [obs_app] at z
      rcases List.mem_append.mp z with z | z
      · exact .inl (.inr (.inr z))
      · exact .inr (.inr (.inr z))
  · rintro (z | z)
    · exact ows_sub (fun m h => List.mem_append_left _ h) z
    · exact ows_sub (fun m h => List.mem_append_right _ h) z
theorem ows_ps {P : Hp → Prop} {L : List Im} {a : Addr} (h : ows (.ps P :: L) a) : ows L a := by
  rcases h with z | ⟨F, hF, z⟩ | z
  · exact .inl z
  · rcases List.mem_cons.mp hF with e | e
    · cases e
    · exact .inr (.inl ⟨F, e, z⟩)
  · exact .inr (.inr z)
theorem ows_top {b : Addr} {xs : List V} {L : List Im} {a : Addr} (h : ows (.top b xs :: L) a) : a = b ∨ ows L a := by
  rcases h with z | ⟨F, hF, z⟩ | z
  · rw [tops_top] at z
    rcases List.mem_cons.mp z with z | z
    · exact .inl z
    · exact .inr (.inl z)
  · rcases List.mem_cons.mp hF with e | e
    · cases e
    · exact .inr (.inr (.inl ⟨F, e, z⟩))
  · exact .inr (.inr (.inr z))
theorem ows_ob {b : Addr} {o : HO} {L : List Im} {a : Addr} (h : ows (.ob b o :: L) a) : a = b ∨ ows L a := by
  rcases h with z | ⟨F, hF, z⟩ | z
  · exact .inr (.inl z)
  · rcases List.mem_cons.mp hF with e | e
    · cases e
    · exact .inr (.inr (.inl ⟨F, e, z⟩))
  · have z : a ∈ b :: obs L := z
    rcases List.mem_cons.mp z with z | z
    · exact .inl z
    · exact .inr (.inr (.inr z))
def Im.ok (H : Hp) (O : Addr → Prop) : Im → Prop
  | .ps P => (∀ H H', Same H H' → P H → P H') ∧ P (wo H O)
  | .top a xs => H a = some (.lst xs)
  | .fr F => ∀ a xs, F a = some xs → H a = some (.lst xs)
  | .ob a o => H a = some o ∧ (Mutb o ∧ ∀ xs, o ≠ .lst xs)
theorem Im.ok_less {H : Hp} {O O' : Addr → Prop} (h : ∀ a, O' a → O a) {m : Im} (k : m.ok H O) : m.ok H O' := by
  cases m with
  | ps P => exact ⟨k.1, k.1 _ _ (wo_less h) k.2⟩
  | top a xs => exact k
  | fr F => exact k
  | ob a o => exact k
theorem Im.ok_same {H H' : Hp} {O : Addr → Prop} (s : Same H H') {m : Im} (k : m.ok H O) : m.ok H' O := by
  cases m with
  | ps P => exact ⟨k.1, k.1 _ _ (wo_mono s) k.2⟩
  | top a xs => exact s _ _ k
  | fr F => exact fun a xs ha => s _ _ (k a xs ha)
  | ob a o => exact ⟨s _ _ k.1, k.2⟩
structure Rf (H : Hp) (L : List Im) : Prop where
  nd : (tops L).Nodup
  fd : ∀ F, Im.fr F ∈ L → ∀ a ∈ tops L, F a = none
  all : ∀ m ∈ L, m.ok H (ows L)
  no : (obs L).Nodup
section
variable {H H' : Hp} {L L' : List Im} {a p : Addr} {xs ys : List V} {o : HO}
theorem Rf.lists (R : Rf H L) {b : Addr} (h : ows L b) : ∃ ys : OwnO, H b = some ys.1 := by
  rcases h with z | ⟨F, hF, z⟩ | z
  · obtain ⟨ys, hm⟩ := mem_tops.mp z
    exact ⟨⟨.lst ys, trivial⟩, R.all _ hm⟩
  · obtain ⟨ys, z⟩ := z
    exact ⟨⟨.lst ys, trivial⟩, R.all _ hF b ys z⟩
  · obtain ⟨o, hm⟩ := mem_obs.mp z
    have k := R.all _ hm
    exact ⟨⟨o, k.2.1⟩, k.1⟩
theorem Rf.perm (h : L.Perm L') (R : Rf H L) : Rf H L' := by
  have t : (tops L).Perm (tops L') := h.filterMap _
  have t2 : (obs L).Perm (obs L') := h.filterMap _
  refine ⟨t.nodup_iff.mp R.nd, fun F hF a ha => R.fd F (h.mem_iff.mpr hF) a (t.mem_iff.mpr ha), fun m hm => ?_, t2.nodup_iff.mp R.no⟩
  exact Im.ok_less (fun a ha => ows_sub (fun m hm => h.mem_iff.mpr hm) ha) (R.all m (h.mem_iff.mpr hm))
theorem Rf.sub (h : L'.Sublist L) (R : Rf H L) : Rf H L' := by
  have t : (tops L').Sublist (tops L) := h.filterMap _
  have t2 : (obs L').Sublist (obs L) := h.filterMap _
  exact ⟨t.nodup R.nd, fun F hF a ha => R.fd F (h.subset hF) a (t.subset ha), fun m hm => Im.ok_less (fun a ha => ows_sub (fun m hm => h.subset hm) ha) (R.all m (h.subset hm)), t2.nodup R.no⟩
theorem Rf.tail {m : Im} (R : Rf H (m :: L)) : Rf H L := R.sub (List.sublist_cons_self _ _)
theorem Rf.same (s : Same H H') (R : Rf H L) : Rf H' L := ⟨R.nd, R.fd, fun m hm => Im.ok_same s (R.all m hm), R.no⟩
theorem Rf.addps {P : Hp → Prop} (m : ∀ H H', Same H H' → P H → P H') (h : P (wo H (ows L))) (R : Rf H L) : Rf H (.ps P :: L) := by
  refine ⟨R.nd, fun F hF a ha => ?_, fun n hn => ?_, R.no⟩
  · rcases List.mem_cons.mp hF with e | e
    · cases e
    · exact R.fd F e a ha
  · rcases List.mem_cons.mp hn with rfl | hn
    · exact ⟨m, m _ _ (wo_less fun a ha => ows_ps ha) h⟩
    · exact Im.ok_less (fun a ha => ows_ps ha) (R.all n hn)
theorem Rf.psK {P : Hp → Prop} (R : Rf H (.ps P :: L)) : (∀ H H', Same H H' → P H → P H') ∧ P (wo H (ows L)) := by
  have k := R.all (.ps P) List.mem_cons_self
  exact ⟨k.1, k.1 _ _ (wo_less fun a ha => ows_sub (fun m hm => List.mem_cons_of_mem _ hm) ha) k.2⟩
theorem Rf.new (n : H p = none) (R : Rf H L) : Rf (upd H p (.lst xs)) (.top p xs :: L) := by
  have np : ¬ ows L p := fun z => by
    obtain ⟨ys, e⟩ := R.lists z
    rw [n] at e; cases e
  refine ⟨by rw [tops_top]; exact List.nodup_cons.mpr ⟨fun z => np (.inl z), R.nd⟩, fun F hF a ha => ?_, fun m hm => ?_, R.no⟩
  · rcases List.mem_cons.mp hF with e | e
    · cases e
    · rw [tops_top] at ha
      rcases List.mem_cons.mp ha with rfl | ha
      · cases q : F a with
        | none => rfl
        | some ys => exact (np (.inr (.inl ⟨F, e, ys, q⟩))).elim
      · exact R.fd F e a ha
  · rcases List.mem_cons.mp hm with rfl | hm
    · exact upd_same
    · have k := R.all m hm
      cases m with
      | ps P =>
        refine ⟨k.1, k.1 _ _ (fun b o e => ?_) k.2⟩
        obtain ⟨nb, e⟩ := wo_some e
        have bp : b ≠ p := ne_of_none e n
        rw [wo_out (fun z => by rcases ows_top z with z | z; exact bp z; exact nb z), upd_ne bp]; exact e
      | top b ys => exact same_new n _ _ k
      | fr F => exact Im.ok_same (m := .fr F) (O := ows L) (same_new n) k
      | ob b o => exact ⟨same_new n _ _ k.1, k.2⟩
/-- a list of one's own is changed -/
theorem Rf.mut (s : But a H H') (e : H' a = some (.lst ys)) (R : Rf H (.top a xs :: L)) : Rf H' (.top a ys :: L) := by
  have nd := R.nd
  rw [tops_top] at nd
  have na : ¬ ows L a := by
    rintro (z | ⟨F, hF, z⟩ | z)
    · exact (List.nodup_cons.mp nd).1 z
    · obtain ⟨ys, z⟩ := z
      rw [R.fd F (List.mem_cons_of_mem _ hF) a (by rw [tops_top]; exact List.mem_cons_self)] at z; cases z
    · obtain ⟨o, hm⟩ := mem_obs.mp z
      have k := R.all _ (List.mem_cons_of_mem _ hm)
      have k2 := R.all (.top a xs) List.mem_cons_self
      have e2 : some (HO.lst xs) = some o := Eq.trans (Eq.symm k2) k.1
      exact k.2.2 xs (Option.some.inj e2).symm
  refine ⟨R.nd, fun F hF b hb => ?_, fun m hm => ?_, R.no⟩
  · rcases List.mem_cons.mp hF with z | z
    · cases z
    · exact R.fd F (List.mem_cons_of_mem _ z) b hb
  · rcases List.mem_cons.mp hm with rfl | hm
    · exact e
    · have k := R.all m (List.mem_cons_of_mem _ hm)
      cases m with
      | ps P =>
        refine ⟨k.1, k.1 _ _ (fun b o q => ?_) k.2⟩
        obtain ⟨nb, q⟩ := wo_some q
        have ba : b ≠ a := fun z => nb (by rw [z]; exact .inl (by rw [tops_top]; exact List.mem_cons_self))
        rw [wo_out (fun z => nb (by
          rcases ows_top z with z | z
          · exact (ba z).elim
          · exact ows_sub (fun m hm => List.mem_cons_of_mem _ hm) z))]
        exact s b o ba q
      | top b zs => exact s b _ (fun z => na (.inl (z ▸ mem_tops.mpr ⟨zs, hm⟩))) k
      | fr F => exact fun b zs hb => s b _ (fun z => na (.inr (.inl ⟨F, hm, zs, z ▸ hb⟩))) (k b zs hb)
      | ob b o => exact ⟨s b _ (fun z => na (.inr (.inr (z ▸ mem_obs.mpr ⟨o, hm⟩)))) k.1, k.2⟩
end
section
variable {H H' : Hp} {L : List Im} {a p : Addr} {o o' : HO}
theorem Rf.newO (n : H p = none) (h : Mutb o ∧ ∀ xs, o ≠ .lst xs) (R : Rf H L) : Rf (upd H p o) (.ob p o :: L) := by
  have np : ¬ ows L p := fun z => by
    obtain ⟨ys, e⟩ := R.lists z
    rw [n] at e; cases e
  refine ⟨R.nd, fun F hF a ha => ?_, fun m hm => ?_, List.nodup_cons.mpr ⟨fun z => np (.inr (.inr z)), R.no⟩⟩
  · rcases List.mem_cons.mp hF with e | e
    · cases e
    · exact R.fd F e a ha
  · rcases List.mem_cons.mp hm with rfl | hm
    · exact ⟨upd_same, h⟩
    · have k := R.all m hm
      cases m with
      | ps P =>
        refine ⟨k.1, k.1 _ _ (fun b o e => ?_) k.2⟩
        obtain ⟨nb, e⟩ := wo_some e
        have bp : b ≠ p := ne_of_none e n
        rw [wo_out (fun z => by rcases ows_ob z with z | z; exact bp z; exact nb z), upd_ne bp]; exact e
      | top b ys => exact same_new n _ _ k
      | fr F => exact Im.ok_same (m := .fr F) (O := ows L) (same_new n) k
      | ob b o => exact ⟨same_new n _ _ k.1, k.2⟩
theorem Rf.mutO (s : But a H H') (e : H' a = some o') (h : Mutb o' ∧ ∀ xs, o' ≠ .lst xs) (R : Rf H (.ob a o :: L)) : Rf H' (.ob a o' :: L) := by
  have no := R.no
  have no : (a :: obs L).Nodup := no
  have k0 := R.all (.ob a o) List.mem_cons_self
  have na : ¬ ows L a := by
    rintro (z | ⟨F, hF, z⟩ | z)
    · obtain ⟨xs, hm⟩ := mem_tops.mp z
      have k := R.all _ (List.mem_cons_of_mem _ hm)
      have e2 : some o = some (HO.lst xs) := Eq.trans (Eq.symm k0.1) k
      exact k0.2.2 xs (Option.some.inj e2)
    · obtain ⟨ys, z⟩ := z
      have k := R.all _ (List.mem_cons_of_mem _ hF) a ys z
      have e2 : some o = some (HO.lst ys) := Eq.trans (Eq.symm k0.1) k
      exact k0.2.2 ys (Option.some.inj e2)
    · exact (List.nodup_cons.mp no).1 z
  refine ⟨R.nd, fun F hF b hb => ?_, fun m hm => ?_, no⟩
  · rcases List.mem_cons.mp hF with z | z
    · cases z
    · exact R.fd F (List.mem_cons_of_mem _ z) b hb
  · rcases List.mem_cons.mp hm with rfl | hm
    · exact ⟨e, h⟩
    · have k := R.all m (List.mem_cons_of_mem _ hm)
      cases m with
      | ps P =>
        refine ⟨k.1, k.1 _ _ (fun b o q => ?_) k.2⟩
        obtain ⟨nb, q⟩ := wo_some q
        have ba : b ≠ a := fun z => nb (by rw [z]; exact .inr (.inr List.mem_cons_self))
        rw [wo_out (fun z => nb (by
          rcases ows_ob z with z | z
          · exact (ba z).elim
          · exact ows_sub (fun m hm => List.mem_cons_of_mem _ hm) z))]
        exact s b o ba q
      | top b zs => exact s b _ (fun z => na (.inl (z ▸ mem_tops.mpr ⟨zs, hm⟩))) k
      | fr F => exact fun b zs hb => s b _ (fun z => na (.inr (.inl ⟨F, hm, zs, z ▸ hb⟩))) (k b zs hb)
      | ob b o => exact ⟨s b _ (fun z => na (.inr (.inr (z ▸ mem_obs.mpr ⟨o, hm⟩)))) k.1, k.2⟩
end
inductive Own where
  | lf | li (s : Own) | t2 (s1 s2 : Own) | t3 (s1 s2 s3 : Own)
inductive All3 (P : V → PyData → List Im → Prop) : List V → List PyData → List Im → Prop
  | nil : All3 P [] [] []
  | cons {x : V} {xs : List V} {d : PyData} {ds : List PyData} {p ps : List Im} : P x d p → All3 P xs ds ps → All3 P (x :: xs) (d :: ds) (p ++ ps)
def Unf (K : PySem.W.Frag) : Own → V → PyData → List Im → Prop
  | .lf, v, d, ps => ps = [.ps fun H => Dq K H v d]
  | .li s, v, d, ps => ∃ a xs ds qs, v = .ref a ∧ d = .list ds ∧ ps = .top a xs :: qs ∧ All3 (Unf K s) xs ds qs
  | .t2 s1 s2, v, d, ps => ∃ a x1 x2 d1 d2 p1 p2, v = .ref a ∧ d = .tuple [d1, d2] ∧ ps = .ps (fun H => SqT K H a [x1, x2]) :: (p1 ++ p2) ∧ Unf K s1 x1 d1 p1 ∧ Unf K s2 x2 d2 p2
  | .t3 s1 s2 s3, v, d, ps => ∃ a x1 x2 x3 d1 d2 d3 p1 p2 p3, v = .ref a ∧ d = .tuple [d1, d2, d3] ∧ ps = .ps (fun H => SqT K H a [x1, x2, x3]) :: (p1 ++ (p2 ++ p3)) ∧ Unf K s1 x1 d1 p1 ∧ Unf K s2 x2 d2 p2 ∧ Unf K s3 x3 d3 p3
inductive It where
  | ow (s : Own) (v : V) (d : PyData)
  | top (a : Addr) (xs : List V)
  | ps (P : Hp → Prop)
  | pr (P : List V → Prop) (a : Addr)
  | fr (F : Addr → Option (List V))
  | ob (a : Addr) (o : HO)
abbrev It.sh (v : V) (d : PyData) : It := .ow .lf v d
def UnI (K : PySem.W.Frag) : It → List Im → Prop
  | .ow s v d, qs => Unf K s v d qs
  | .top a xs, qs => qs = [.top a xs]
  | .ps P, qs => qs = [.ps P]
  | .pr P a, qs => ∃ xs, P xs ∧ qs = [.top a xs]
  | .fr F, qs => qs = [.fr F]
  | .ob a o, qs => qs = [.ob a o]
inductive UnIs (K : PySem.W.Frag) : List It → List Im → Prop
  | nil : UnIs K [] []
  | cons {m : It} {L : List It} {p ps : List Im} : UnI K m p → UnIs K L ps → UnIs K (m :: L) (p ++ ps)
/-- the heap H has all these, side by side -/
def Rp (K : PySem.W.Frag) (H : Hp) (L : List It) : Prop := ∃ ps, UnIs K L ps ∧ Rf H ps
theorem UnIs.inv {K : PySem.W.Frag} {m : It} {L : List It} {ps : List Im} (h : UnIs K (m :: L) ps) : ∃ p q, ps = p ++ q ∧ UnI K m p ∧ UnIs K L q := by
  cases h with
  | cons h t => exact ⟨_, _, rfl, h, t⟩
theorem Rp.inv {K : PySem.W.Frag} {H : Hp} {m : It} {L : List It} (R : Rp K H (m :: L)) : ∃ p q, UnI K m p ∧ UnIs K L q ∧ Rf H (p ++ q) := by
  obtain ⟨ps, u, r⟩ := R
  obtain ⟨p, q, rfl, h, t⟩ := u.inv
  exact ⟨p, q, h, t, r⟩
section
variable {K : PySem.W.Frag} {H H' : Hp} {L L' A B : List It} {a p : Addr} {xs ys : List V} {o : HO} {v x y : V} {d e : PyData} {ds : List PyData} {s : Own}
theorem UnIs.app : ∀ {A B : List It} {p q : List Im}, UnIs K A p → UnIs K B q → UnIs K (A ++ B) (p ++ q)
  | _, _, _, _, .nil, h => h
  | _, _, _, _, .cons h t, g => by rw [List.append_assoc]; exact .cons h (UnIs.app t g)
theorem UnIs.split : ∀ {A B : List It} {ps : List Im}, UnIs K (A ++ B) ps → ∃ p q, ps = p ++ q ∧ UnIs K A p ∧ UnIs K B q
  | [], _, ps, h => ⟨[], ps, rfl, .nil, h⟩
  | m :: A, _, _, .cons h t => by
    obtain ⟨p, q, rfl, h1, h2⟩ := UnIs.split (A := A) t
    exact ⟨_ ++ p, q, by rw [List.append_assoc], .cons h h1, h2⟩
theorem UnIs.perm (h : A.Perm B) : ∀ {ps : List Im}, UnIs K A ps → ∃ qs, UnIs K B qs ∧ ps.Perm qs := by
  induction h with
  | nil => intro ps u; exact ⟨ps, u, .refl _⟩
  | cons m _ ih =>
    intro ps u
    cases u with
    | cons h t =>
      obtain ⟨qs, h1, h2⟩ := ih t
      exact ⟨_, .cons h h1, h2.append_left _⟩
  | swap m n l =>
    intro ps u
    cases u with
    | cons h t =>
      cases t with
      | cons h2 t2 =>
        refine ⟨_, .cons h2 (.cons h t2), ?_⟩
        rw [← List.append_assoc, ← List.append_assoc]
        exact List.perm_append_comm.append_right _
  | trans _ _ ih1 ih2 =>
    intro ps u
    obtain ⟨qs, h1, h2⟩ := ih1 u
    obtain ⟨rs, h3, h4⟩ := ih2 h1
    exact ⟨rs, h3, h2.trans h4⟩
theorem Rp.perm (h : A.Perm B) (R : Rp K H A) : Rp K H B := by
  obtain ⟨ps, u, r⟩ := R
  obtain ⟨qs, u', h'⟩ := u.perm h
  exact ⟨qs, u', r.perm h'⟩
theorem Rf.nil : Rf H [] := ⟨List.nodup_nil, fun _ h => (by cases h), fun _ h => (by cases h), List.nodup_nil⟩
theorem Rp.nil : Rp K H [] := ⟨[], .nil, Rf.nil⟩
theorem Rp.tail {m : It} (R : Rp K H (m :: L)) : Rp K H L := by
  obtain ⟨_, _, h, t, r⟩ := R.inv
  exact ⟨_, t, r.sub (List.sublist_append_right _ _)⟩
theorem Rp.same (R : Rp K H L) (s : Same H H') : Rp K H' L := by
  obtain ⟨ps, u, r⟩ := R
  exact ⟨ps, u, r.same s⟩
theorem Rp.new (R : Rp K H L) (n : H p = none) : Rp K (upd H p o) L := R.same (same_new n)
/-- a new list -/
theorem Rp.lst (R : Rp K H L) (n : H p = none) : Rp K (upd H p (.lst xs)) (.top p xs :: L) := by
  obtain ⟨ps, u, r⟩ := R
  exact ⟨_, .cons (p := [.top p xs]) rfl u, r.new n⟩
theorem mono_dp : ∀ H H' : Hp, Same H H' → Dq K H v d → Dq K H' v d := fun _ _ s h => dq_same s d v h
theorem mono_sqt : ∀ H H' : Hp, Same H H' → SqT K H a xs → SqT K H' a xs := fun _ _ s h => sqT_same s h
theorem wo_sqt0 {O : Addr → Prop} (l : ∀ b, O b → ∃ ys : OwnO, H b = some ys.1) (h : SqT K H a xs) : SqT K (wo H O) a xs := by
  rcases h with (h | ⟨u, h⟩) | h
  · refine .inl (.inl ?_)
    rw [wo_out (fun z => by
      obtain ⟨ys, e⟩ := l _ z
      rw [h] at e
      have q := ys.2
      rw [← Option.some.inj e] at q
      exact q)]
    exact h
  · refine .inl (.inr ⟨u, ?_⟩)
    rw [wo_out (fun z => by
      obtain ⟨ys, e⟩ := l _ z
      rw [h] at e
      have q := ys.2
      rw [← Option.some.inj e] at q
      exact q)]
    exact h
  · exact .inr h
theorem wo_sqt {L : List Im} (R : Rf H L) (h : SqT K H a xs) : SqT K (wo H (ows L)) a xs := wo_sqt0 (fun _ z => R.lists z) h
/-- a datum without lists -/
theorem Rp.flat (R : Rp K H L) (h : Dq K H v d) (n : noL d = true) : Rp K H (.sh v d :: L) := by
  obtain ⟨ps, u, r⟩ := R
  exact ⟨_, .cons (p := [_]) rfl u, r.addps mono_dp (dq_noL (fun a xs h => wo_sqt r h) d v n h)⟩
theorem Rp.tup (R : Rp K H L) (n : H p = none) : Rp K (upd H p (.tup xs)) (.ps (fun H => SqT K H p xs) :: L) := by
  obtain ⟨ps, u, r⟩ := R
  have r' := r.same (same_new (o := .tup xs) n)
  exact ⟨_, .cons (p := [_]) rfl u, r'.addps mono_sqt (wo_sqt r' sqT_at)⟩
theorem Rp.int (R : Rp K H L) (i : Int) : Rp K H (.sh (.int i) (.int i) :: L) := R.flat (.int i) rfl
theorem Rp.str (R : Rp K H L) (i : Str) : Rp K H (.sh (.str i) (.str i) :: L) := R.flat (.str i) rfl
theorem Rp.bl (R : Rp K H L) (i : Bool) : Rp K H (.sh (.bl i) (.bool i) :: L) := R.flat (.bl i) rfl
theorem Rp.non (R : Rp K H L) : Rp K H (.sh .non .none :: L) := R.flat .non rfl
/-- an own list is changed -/
theorem Rp.chg (R : Rp K H (.top a xs :: L)) (s : But a H H') (e : H' a = some (.lst ys)) : Rp K H' (.top a ys :: L) := by
  obtain ⟨_, _, h, t, r⟩ := R.inv
  cases h
  exact ⟨_, .cons (p := [.top a ys]) rfl t, r.mut s e⟩
theorem Rp.mut (R : Rp K H (.top a xs :: L)) : Rp K (upd H a (.lst ys)) (.top a ys :: L) := R.chg But.mut upd_same
theorem Rp.chgP {P P' : List V → Prop} (R : Rp K H (.pr P a :: L)) (s : But a H H') (e : H' a = some (.lst ys)) (h : P' ys) : Rp K H' (.pr P' a :: L) := by
  obtain ⟨_, _, ⟨xs, _, h1⟩, t, r⟩ := R.inv
  cases h1
  exact ⟨_, .cons (p := [.top a ys]) ⟨ys, h, rfl⟩ t, r.mut s e⟩
theorem Rp.topAt (R : Rp K H (.top a xs :: L)) : H a = some (.lst xs) := by
  obtain ⟨_, _, h, t, r⟩ := R.inv
  cases h
  exact r.all (.top a xs) List.mem_cons_self
theorem Rp.prAt {P : List V → Prop} (R : Rp K H (.pr P a :: L)) : ∃ xs, H a = some (.lst xs) ∧ P xs := by
  obtain ⟨_, _, ⟨xs, hP, h1⟩, t, r⟩ := R.inv
  cases h1
  exact ⟨xs, r.all (.top a xs) List.mem_cons_self, hP⟩
theorem Rp.psAt {P : Hp → Prop} (R : Rp K H (.ps P :: L)) : P H := by
  obtain ⟨_, _, h, t, r⟩ := R.inv
  cases h
  have k := r.all (.ps P) List.mem_cons_self
  exact k.1 _ _ wo_same k.2
/-- what one owns is shared from here on -/
theorem unf_dp : ∀ (s : Own) {v : V} {d : PyData} {q r : List Im}, Unf K s v d q → Rf H (q ++ r) → Dq K (wo H (ows r)) v d
  | .lf, _, _, _, r, e, R => by
    cases e
    have k := R.all (.ps _) List.mem_cons_self
    exact k.1 _ _ (wo_less fun a ha => ows_sub (fun m hm => List.mem_cons_of_mem _ hm) ha) k.2
  | .li s, v, d, q, r, ⟨a, xs, ds, qs, e1, e2, e3, h⟩, R => by
    subst e1 e2 e3
    have nd := R.nd
    rw [List.cons_append, tops_top, tops_app] at nd
    have na : ¬ ows r a := by
      rintro (z | ⟨F, hF, z⟩ | z)
      · exact (List.nodup_cons.mp nd).1 (List.mem_append_right _ z)
      · obtain ⟨ys, z⟩ := z
        rw [R.fd F (List.mem_append_right _ hF) a (by rw [List.cons_append, tops_top]; exact List.mem_cons_self)] at z; cases z
      · obtain ⟨o, hm⟩ := mem_obs.mp z
        have k := R.all _ (List.mem_append_right _ hm)
        have k2 := R.all (.top a xs) List.mem_cons_self
        have e2 : some (HO.lst xs) = some o := Eq.trans (Eq.symm k2) k.1
        exact k.2.2 xs (Option.some.inj e2).symm
    refine .lst (by rw [wo_out na]; exact R.all (.top a xs) List.mem_cons_self) ?_
    have R' : Rf H (qs ++ r) := R.tail
    clear nd na R
    revert qs
    induction xs generalizing ds with
    | nil => intro qs h R'; cases h; exact .nil
    | cons x xs ih =>
      intro qs h R'
      cases h with
      | cons h1 h2 =>
        refine .cons (unf_dp s h1 ?_) (ih _ _ h2 (R'.sub ?_))
        · rw [List.append_assoc] at R'
          exact R'.sub ((List.sublist_append_right _ _).append_left _)
        · rw [List.append_assoc]
          exact List.sublist_append_right _ _
  | .t2 s1 s2, v, d, q, r, ⟨a, x1, x2, d1, d2, p1, p2, e1, e2, e3, h1, h2⟩, R => by
    subst e1 e2 e3
    have R' : Rf H (p1 ++ p2 ++ r) := R.tail
    have ht := R.all (.ps _) List.mem_cons_self
    refine .tup (wo_sqt (R'.sub (List.sublist_append_right _ _)) (ht.1 _ _ wo_same ht.2)) (.cons (unf_dp s1 h1 (R'.sub ?_)) (.cons (unf_dp s2 h2 (R'.sub ?_)) .nil))
    · rw [List.append_assoc]; exact (List.sublist_append_right _ _).append_left _
    · rw [List.append_assoc]; exact List.sublist_append_right _ _
  | .t3 s1 s2 s3, v, d, q, r, ⟨a, x1, x2, x3, d1, d2, d3, p1, p2, p3, e1, e2, e3, h1, h2, h3⟩, R => by
    subst e1 e2 e3
    have R' : Rf H (p1 ++ (p2 ++ p3) ++ r) := R.tail
    have ht := R.all (.ps _) List.mem_cons_self
    refine .tup (wo_sqt (R'.sub (List.sublist_append_right _ _)) (ht.1 _ _ wo_same ht.2)) (.cons (unf_dp s1 h1 (R'.sub ?_)) (.cons (unf_dp s2 h2 (R'.sub ?_)) (.cons (unf_dp s3 h3 (R'.sub ?_)) .nil)))
    · rw [List.append_assoc]; exact (List.sublist_append_right _ _).append_left _
    · rw [List.append_assoc, List.append_assoc]; exact ((List.sublist_append_right _ _).append_left _).trans (List.sublist_append_right _ _)
    · rw [List.append_assoc, List.append_assoc]; exact (List.sublist_append_right _ _).trans (List.sublist_append_right _ _)
theorem Rp.dp (R : Rp K H (.ow s v d :: L)) : Dq K H v d := by
  obtain ⟨_, _, h, t, r⟩ := R.inv
  exact dq_same wo_same _ _ (unf_dp s h r)
theorem Rp.fz (R : Rp K H (.ow s v d :: L)) : Rp K H (.sh v d :: L) := by
  obtain ⟨_, _, h, t, r⟩ := R.inv
  exact ⟨_, .cons (p := [_]) rfl t, (r.sub (List.sublist_append_right _ _)).addps mono_dp (unf_dp s h r)⟩
/-- a shared datum twice -/
theorem Rp.dup (R : Rp K H (.sh v d :: L)) : Rp K H (.sh v d :: .sh v d :: L) := by
  obtain ⟨_, _, h, t, r⟩ := R.inv
  cases h
  have k := r.all (.ps _) List.mem_cons_self
  exact ⟨_, .cons (p := [_]) rfl (.cons (p := [_]) rfl t), r.addps k.1 k.2⟩
theorem Rp.dupP {P : Hp → Prop} (R : Rp K H (.ps P :: L)) : Rp K H (.ps P :: .ps P :: L) := by
  obtain ⟨_, _, h, t, r⟩ := R.inv
  cases h
  have k := r.all (.ps _) List.mem_cons_self
  exact ⟨_, .cons (p := [_]) rfl (.cons (p := [_]) rfl t), r.addps k.1 k.2⟩
/-- what follows of a fact that stays -/
theorem Rp.imp {P P' : Hp → Prop} (R : Rp K H (.ps P :: L)) (h : ∀ H, P H → P' H) (m : ∀ H H', Same H H' → P' H → P' H') : Rp K H (.ps P' :: .ps P :: L) := by
  obtain ⟨_, _, h1, t, r⟩ := R.inv
  cases h1
  have k := r.all (.ps _) List.mem_cons_self
  exact ⟨_, .cons (p := [_]) rfl (.cons (p := [_]) rfl t), r.addps m (h _ k.2)⟩
theorem Rp.impS {P' : Hp → Prop} (R : Rp K H (.sh v d :: L)) (h : ∀ H, Dq K H v d → P' H) (m : ∀ H H', Same H H' → P' H → P' H') : Rp K H (.ps P' :: .sh v d :: L) := by
  obtain ⟨_, _, h1, t, r⟩ := R.inv
  cases h1
  have k := r.all (.ps _) List.mem_cons_self
  exact ⟨_, .cons (p := [_]) rfl (.cons (p := [_]) rfl t), r.addps m (h _ k.2)⟩
theorem Rp.toSh (R : Rp K H (.ps (fun H => Dq K H v d) :: L)) : Rp K H (.sh v d :: L) := by
  obtain ⟨_, _, h, t, r⟩ := R.inv
  cases h
  exact ⟨_, .cons (p := [_]) rfl t, r⟩
end
/-! ### what stands side by side: taken apart, put together, chosen -/
def each (s : Own) (xs : List V) (ds : List PyData) : List It := List.zipWith (fun x d => It.ow s x d) xs ds
section
variable {K : PySem.W.Frag} {H H' : Hp} {L L' A B : List It} {a p : Addr} {xs ys : List V} {o : HO} {v x y z : V} {d e f : PyData} {ds : List PyData} {s s1 s2 s3 : Own}
theorem All3.len {P : V → PyData → List Im → Prop} : ∀ {xs : List V} {ds : List PyData} {ps : List Im}, All3 P xs ds ps → xs.length = ds.length
  | _, _, _, .nil => rfl
  | _, _, _, .cons _ h => by rw [List.length_cons, List.length_cons, All3.len h]
theorem un_each : ∀ {xs : List V} {ds : List PyData} {ps : List Im}, All3 (Unf K s) xs ds ps → UnIs K (each s xs ds) ps
  | _, _, _, .nil => .nil
  | _, _, _, .cons h t => .cons h (un_each t)
theorem each_un : ∀ {xs : List V} {ds : List PyData} {ps : List Im}, xs.length = ds.length → UnIs K (each s xs ds) ps → All3 (Unf K s) xs ds ps
  | [], [], _, _, h => by cases h; exact .nil
  | _ :: _, _ :: _, _, l, h => by
    cases h with
    | cons h1 h2 => exact .cons h1 (each_un (by simpa using l) h2)
  | [], _ :: _, _, l, _ => by simp at l
  | _ :: _, [], _, l, _ => by simp at l
theorem Rp.put (R : Rp K H (.top a xs :: (each s xs ds ++ L))) (l : xs.length = ds.length) : Rp K H (.ow (.li s) (.ref a) (.list ds) :: L) := by
  obtain ⟨_, _, h, t, r⟩ := R.inv
  cases h
  obtain ⟨p, q, rfl, h1, h2⟩ := t.split
  exact ⟨_, .cons (p := .top a xs :: p) ⟨a, xs, ds, p, rfl, rfl, rfl, each_un l h1⟩ h2, r⟩
theorem Rp.take (R : Rp K H (.ow (.li s) v (.list ds) :: L)) : ∃ a xs, v = .ref a ∧ xs.length = ds.length ∧ Rp K H (.top a xs :: (each s xs ds ++ L)) := by
  obtain ⟨_, _, ⟨a, xs, ds', qs, e1, e2, e3, h⟩, t, r⟩ := R.inv
  cases e2
  subst e1 e3
  exact ⟨a, xs, rfl, h.len, _, .cons (p := [.top a xs]) rfl ((un_each h).app t), r⟩
theorem Rp.put2 (R : Rp K H (.ps (fun H => SqT K H a [x, y]) :: .ow s1 x d :: .ow s2 y e :: L)) : Rp K H (.ow (.t2 s1 s2) (.ref a) (.tuple [d, e]) :: L) := by
  obtain ⟨_, _, h, t1, r⟩ := R.inv
  obtain ⟨p1, _, rfl, h1, t2⟩ := t1.inv
  obtain ⟨p2, ps, rfl, h2, t⟩ := t2.inv
  cases h
  refine ⟨_, .cons (p := .ps (fun H => SqT K H a [x, y]) :: (p1 ++ p2)) ⟨a, x, y, d, e, p1, p2, rfl, rfl, rfl, h1, h2⟩ t, ?_⟩
  rw [List.cons_append, List.append_assoc]
  exact r
theorem Rp.take2 (R : Rp K H (.ow (.t2 s1 s2) v (.tuple [d, e]) :: L)) : ∃ a x y, v = .ref a ∧ Rp K H (.ps (fun H => SqT K H a [x, y]) :: .ow s1 x d :: .ow s2 y e :: L) := by
  obtain ⟨_, _, ⟨a, x1, x2, d1, d2, p1, p2, e1, e2, e3, h1, h2⟩, t, r⟩ := R.inv
  cases e2
  subst e1 e3
  refine ⟨a, x1, x2, rfl, _, .cons (p := [_]) rfl (.cons h1 (.cons h2 t)), ?_⟩
  rw [List.cons_append, List.append_assoc] at r
  exact r
theorem Rp.put3 (R : Rp K H (.ps (fun H => SqT K H a [x, y, z]) :: .ow s1 x d :: .ow s2 y e :: .ow s3 z f :: L)) : Rp K H (.ow (.t3 s1 s2 s3) (.ref a) (.tuple [d, e, f]) :: L) := by
  obtain ⟨_, _, h, t1, r⟩ := R.inv
  obtain ⟨p1, _, rfl, h1, t2⟩ := t1.inv
  obtain ⟨p2, _, rfl, h2, t3⟩ := t2.inv
  obtain ⟨p3, _, rfl, h3, t⟩ := t3.inv
  cases h
  refine ⟨_, .cons (p := .ps (fun H => SqT K H a [x, y, z]) :: (p1 ++ (p2 ++ p3))) ⟨a, x, y, z, d, e, f, p1, p2, p3, rfl, rfl, rfl, h1, h2, h3⟩ t, ?_⟩
  rw [List.cons_append, List.append_assoc, List.append_assoc]
  exact r
theorem Rp.take3 (R : Rp K H (.ow (.t3 s1 s2 s3) v (.tuple [d, e, f]) :: L)) : ∃ a x y z, v = .ref a ∧ Rp K H (.ps (fun H => SqT K H a [x, y, z]) :: .ow s1 x d :: .ow s2 y e :: .ow s3 z f :: L) := by
  obtain ⟨_, _, ⟨a, x1, x2, x3, d1, d2, d3, p1, p2, p3, e1, e2, e3, h1, h2, h3⟩, t, r⟩ := R.inv
  cases e2
  subst e1 e3
  refine ⟨a, x1, x2, x3, rfl, _, .cons (p := [_]) rfl (.cons h1 (.cons h2 (.cons h3 t))), ?_⟩
  rw [List.cons_append, List.append_assoc, List.append_assoc] at r
  exact r
/-- a new list of things one owns -/
theorem Rp.mkL (R : Rp K H (each s xs ds ++ L)) (l : xs.length = ds.length) (n : H p = none) : Rp K (upd H p (.lst xs)) (.ow (.li s) (.ref p) (.list ds) :: L) := (R.lst n).put l
theorem Rp.mkL0 (R : Rp K H L) (s : Own) (n : H p = none) : Rp K (upd H p (.lst [])) (.ow (.li s) (.ref p) (.list []) :: L) := Rp.mkL (xs := []) (ds := []) R rfl n
theorem Rp.mkL1 (R : Rp K H (.ow s x d :: L)) (n : H p = none) : Rp K (upd H p (.lst [x])) (.ow (.li s) (.ref p) (.list [d]) :: L) := Rp.mkL (xs := [x]) (ds := [d]) R rfl n
theorem Rp.mkL2 (R : Rp K H (.ow s x d :: .ow s y e :: L)) (n : H p = none) : Rp K (upd H p (.lst [x, y])) (.ow (.li s) (.ref p) (.list [d, e]) :: L) := Rp.mkL (xs := [x, y]) (ds := [d, e]) R rfl n
theorem Rp.mk2 (R : Rp K H (.ow s1 x d :: .ow s2 y e :: L)) (n : H p = none) : Rp K (upd H p (.tup [x, y])) (.ow (.t2 s1 s2) (.ref p) (.tuple [d, e]) :: L) := (R.tup n).put2
theorem Rp.mk3 (R : Rp K H (.ow s1 x d :: .ow s2 y e :: .ow s3 z f :: L)) (n : H p = none) : Rp K (upd H p (.tup [x, y, z])) (.ow (.t3 s1 s2 s3) (.ref p) (.tuple [d, e, f]) :: L) := (R.tup n).put3
/-- a list of ints -/
theorem each_ints : ∀ {ns : List Int} {ps : List Im}, Rf H ps → ∃ qs, UnIs K (each .lf (ns.map V.int) (ns.map PyData.int)) qs ∧ Rf H (qs ++ ps)
  | [], ps, r => ⟨[], .nil, r⟩
  | n :: ns, ps, r => by
    obtain ⟨qs, h1, h2⟩ := each_ints (ns := ns) r
    exact ⟨_, .cons (p := [_]) rfl h1, h2.addps mono_dp (.int n)⟩
theorem Rp.ints (R : Rp K H L) (ns : List Int) : Rp K H (each .lf (ns.map V.int) (ns.map PyData.int) ++ L) := by
  obtain ⟨ps, u, r⟩ := R
  obtain ⟨qs, h1, h2⟩ := each_ints (K := K) (ns := ns) r
  exact ⟨_, h1.app u, h2⟩
theorem Rp.il {ns : List Int} (R : Rp K H (.top a (ns.map V.int) :: L)) : Rp K H (.ow (.li .lf) (.ref a) (IL ns) :: L) := by
  obtain ⟨ps, u, r⟩ := R.tail
  have R2 := R.ints ns
  have R3 : Rp K H (.top a (ns.map V.int) :: (each .lf (ns.map V.int) (ns.map PyData.int) ++ L)) := R2.perm List.perm_middle
  exact Rp.put R3 (by rw [List.length_map, List.length_map])
theorem Rp.mkI {ns : List Int} (R : Rp K H L) (n : H p = none) : Rp K (upd H p (.lst (ns.map V.int))) (.ow (.li .lf) (.ref p) (IL ns) :: L) := (R.lst n).il
theorem each_int_eq : ∀ {xs : List V} {ns : List Int} {H : Hp}, xs.length = ns.length → Rp K H (each .lf xs (ns.map PyData.int) ++ L) → xs = ns.map V.int
  | [], [], _, _, _ => rfl
  | x :: xs, n :: ns, H, l, R => by
    have h : Dq K H x (.int n) := Rp.dp (L := each .lf xs (ns.map PyData.int) ++ L) R
    cases h
    rw [each_int_eq (xs := xs) (ns := ns) (by simpa using l) (Rp.tail R)]; rfl
  | [], _ :: _, _, l, _ => by simp at l
  | _ :: _, [], _, l, _ => by simp at l
theorem Rp.dropL : ∀ {A : List It}, Rp K H (A ++ L) → Rp K H L
  | [], R => R
  | _ :: _, R => Rp.dropL (Rp.tail R)
theorem Rp.ilTop {ns : List Int} (R : Rp K H (.ow (.li .lf) v (IL ns) :: L)) : ∃ a, v = .ref a ∧ Rp K H (.top a (ns.map V.int) :: L) := by
  obtain ⟨a, xs, rfl, l, R⟩ := R.take
  obtain rfl := each_int_eq (by simpa using l) R.tail
  exact ⟨a, rfl, Rp.dropL (A := each .lf (ns.map V.int) (ns.map PyData.int)) (R.perm List.perm_middle.symm)⟩
/-! choosing -/
inductive Sel : It → List It → List It → Prop
  | here {m : It} {L : List It} : Sel m (m :: L) L
  | there {m x : It} {L L' : List It} : Sel m L L' → Sel m (x :: L) (x :: L')
theorem Sel.perm {m : It} : ∀ {L L' : List It}, Sel m L L' → L.Perm (m :: L')
  | _, _, .here => .refl _
  | _, _, .there h => ((Sel.perm h).cons _).trans (.swap _ _ _)
theorem Sel.app {m : It} : ∀ {A L L' : List It}, Sel m L L' → Sel m (A ++ L) (A ++ L')
  | [], _, _, h => h
  | _ :: _, _, _, h => .there (Sel.app h)
theorem Rp.sel {m : It} (h : Sel m L L') (R : Rp K H L) : Rp K H (m :: L') := R.perm h.perm
inductive Wk : List It → List It → Prop
  | refl {L : List It} : Wk L L
  | take {m : It} {L L1 L' : List It} : Sel m L L1 → Wk L1 L' → Wk L (m :: L')
  | dup {v : V} {d : PyData} {L L1 L' : List It} : Sel (.sh v d) L L1 → Wk L L' → Wk L (.sh v d :: L')
  | dupP {P : Hp → Prop} {L L1 L' : List It} : Sel (.ps P) L L1 → Wk L L' → Wk L (.ps P :: L')
  | drop {m : It} {L L' : List It} : Wk L L' → Wk (m :: L) L'
  | dropA {A L L' : List It} : Wk L L' → Wk (A ++ L) L'
theorem Rp.wkA (w : Wk L L') : ∀ {A : List It}, Rp K H (A ++ L) → Rp K H (A ++ L') := by
  induction w with
  | refl => intro A R; exact R
  | @take m L L1 L' h _ ih =>
    intro A R
    have R1 : Rp K H (A ++ [m] ++ L1) := R.perm ((h.perm.append_left A).trans (by rw [List.append_assoc]; exact .refl _))
    have := ih R1
    rwa [List.append_assoc] at this
  | @dup v d L L1 L' h _ ih =>
    intro A R
    have R1 : Rp K H (.sh v d :: (A ++ L1)) := R.perm ((h.perm.append_left A).trans List.perm_middle)
    have R2 : Rp K H (A ++ [.sh v d] ++ L) := R1.dup.perm (by
      rw [List.append_assoc]
      refine (List.Perm.cons _ (List.perm_middle.symm.trans (h.perm.symm.append_left A))).trans ?_
      exact List.perm_middle.symm)
    have := ih R2
    rwa [List.append_assoc] at this
  | @dupP P L L1 L' h _ ih =>
    intro A R
    have R1 : Rp K H (.ps P :: (A ++ L1)) := R.perm ((h.perm.append_left A).trans List.perm_middle)
    have R2 : Rp K H (A ++ [.ps P] ++ L) := R1.dupP.perm (by
      rw [List.append_assoc]
      refine (List.Perm.cons _ (List.perm_middle.symm.trans (h.perm.symm.append_left A))).trans ?_
      exact List.perm_middle.symm)
    have := ih R2
    rwa [List.append_assoc] at this
  | @drop m L L' _ ih =>
    intro A R
    exact ih (Rp.tail (R.perm List.perm_middle))
  | @dropA B L L' _ ih =>
    intro A R
    refine ih (Rp.dropL (A := B) (R.perm ?_))
    rw [← List.append_assoc, ← List.append_assoc]
    exact List.perm_append_comm.append_right _
theorem Rp.wk (R : Rp K H L) (w : Wk L L') : Rp K H L' := Rp.wkA w (A := []) R
theorem sel_of_mem {m : It} : ∀ {L : List It}, m ∈ L → ∃ L', Sel m L L'
  | _ :: _, .head _ => ⟨_, .here⟩
  | _ :: _, .tail _ h => by
    obtain ⟨L', h'⟩ := sel_of_mem h
    exact ⟨_, .there h'⟩
theorem Rp.dpOf (R : Rp K H L) (h : It.ow s v d ∈ L) : Dq K H v d := by
  obtain ⟨L', h'⟩ := sel_of_mem h
  exact (R.sel h').dp
theorem Rp.psOf {P : Hp → Prop} (R : Rp K H L) (h : It.ps P ∈ L) : P H := by
  obtain ⟨L', h'⟩ := sel_of_mem h
  exact (R.sel h').psAt
theorem Rp.topOf (R : Rp K H L) (h : It.top a xs ∈ L) : H a = some (.lst xs) := by
  obtain ⟨L', h'⟩ := sel_of_mem h
  exact (R.sel h').topAt
theorem Rp.shM (R : Rp K H L) (h : It.sh v d ∈ L) : Rp K H (.sh v d :: L) := by
  obtain ⟨L', h'⟩ := sel_of_mem h
  exact R.wk (.dup h' .refl)
theorem Rp.psM {P : Hp → Prop} (R : Rp K H L) (h : It.ps P ∈ L) : Rp K H (.ps P :: L) := by
  obtain ⟨L', h'⟩ := sel_of_mem h
  exact R.wk (.dupP h' .refl)
theorem Rp.psI {P P' : Hp → Prop} (R : Rp K H L) (h : It.ps P ∈ L) (i : ∀ H, P H → P' H) (m : ∀ H H', Same H H' → P' H → P' H') : Rp K H (.ps P' :: L) :=
  ((R.psM h).imp i m).wk (.take .here (.drop .refl))
theorem Rp.shI {P' : Hp → Prop} (R : Rp K H L) (h : It.sh v d ∈ L) (i : ∀ H, Dq K H v d → P' H) (m : ∀ H H', Same H H' → P' H → P' H') : Rp K H (.ps P' :: L) :=
  ((R.shM h).impS i m).wk (.take .here (.drop .refl))
/-- a shared list seen: its items with their data -/
def Sv (K : PySem.W.Frag) (a : Addr) (xs : List V) (ds : List PyData) (H : Hp) : Prop := H a = some (.lst xs) ∧ DqAll K H xs ds
def Tv (K : PySem.W.Frag) (a : Addr) (xs : List V) (ds : List PyData) (H : Hp) : Prop := SqT K H a xs ∧ DqAll K H xs ds
theorem sv_mono : ∀ H H' : Hp, Same H H' → Sv K a xs ds H → Sv K a xs ds H' := fun _ _ s h => ⟨s _ _ h.1, dqAll_same s _ _ h.2⟩
theorem tv_mono : ∀ H H' : Hp, Same H H' → Tv K a xs ds H → Tv K a xs ds H' := fun _ _ s h => ⟨sqT_same s h.1, dqAll_same s _ _ h.2⟩
theorem Rp.sv (R : Rp K H L) (h : It.sh v (.list ds) ∈ L) : ∃ a xs, v = .ref a ∧ xs.length = ds.length ∧ H a = some (.lst xs) ∧ Rp K H (.ps (Sv K a xs ds) :: L) := by
  obtain ⟨L', h'⟩ := sel_of_mem h
  obtain ⟨_, _, h1, t, r⟩ := (R.shM h).inv
  cases h1
  have k := Rf.psK r
  obtain ⟨a, xs, rfl, h3, h4⟩ := Dq.lstI k.2
  exact ⟨a, xs, rfl, DqAll.len h4, wo_same _ _ h3, _, .cons (p := [_]) rfl t, r.tail.addps sv_mono ⟨h3, h4⟩⟩
theorem Rp.tv (R : Rp K H L) (h : It.sh v (.tuple ds) ∈ L) : ∃ a xs, v = .ref a ∧ xs.length = ds.length ∧ SqT K H a xs ∧ Rp K H (.ps (Tv K a xs ds) :: L) := by
  obtain ⟨L', h'⟩ := sel_of_mem h
  obtain ⟨_, _, h1, t, r⟩ := (R.shM h).inv
  cases h1
  have k := Rf.psK r
  obtain ⟨a, xs, rfl, h3, h4⟩ := Dq.tupI k.2
  exact ⟨a, xs, rfl, DqAll.len h4, sqT_same wo_same h3, _, .cons (p := [_]) rfl t, r.tail.addps tv_mono ⟨h3, h4⟩⟩
theorem Rp.svAt {i : Nat} (R : Rp K H L) (h : It.ps (Sv K a xs ds) ∈ L) (hx : xs[i]? = some x) (hd : ds[i]? = some d) : Rp K H (.sh x d :: L) := by
  refine Rp.toSh (R.psI h (fun H hh => ?_) mono_dp)
  obtain ⟨e, h1, h2⟩ := DqAll.got hh.2 hx
  rw [hd] at h1; cases h1
  exact h2
theorem Rp.tvAt {i : Nat} (R : Rp K H L) (h : It.ps (Tv K a xs ds) ∈ L) (hx : xs[i]? = some x) (hd : ds[i]? = some d) : Rp K H (.sh x d :: L) := by
  refine Rp.toSh (R.psI h (fun H hh => ?_) mono_dp)
  obtain ⟨e, h1, h2⟩ := DqAll.got hh.2 hx
  rw [hd] at h1; cases h1
  exact h2
/-- an item of a shared list -/
theorem Rp.shL {i : Nat} (R : Rp K H L) (h : It.sh v (.list ds) ∈ L) (hd : ds[i]? = some d) : ∃ a xs x, v = .ref a ∧ H a = some (.lst xs) ∧ xs[i]? = some x ∧ Rp K H (.sh x d :: L) := by
  obtain ⟨a, xs, rfl, l, hs, R'⟩ := R.sv h
  have hi : i < xs.length := by rw [l]; exact (List.getElem?_eq_some_iff.mp hd).1
  have hx : xs[i]? = some xs[i] := List.getElem?_eq_getElem hi
  exact ⟨a, xs, _, rfl, hs, hx, (R'.svAt List.mem_cons_self hx hd).wk (.take .here (.drop .refl))⟩
theorem Rp.shT {i : Nat} (R : Rp K H L) (h : It.sh v (.tuple ds) ∈ L) (hd : ds[i]? = some d) : ∃ a xs x, v = .ref a ∧ SqT K H a xs ∧ xs[i]? = some x ∧ Rp K H (.sh x d :: L) := by
  obtain ⟨a, xs, rfl, l, hs, R'⟩ := R.tv h
  have hi : i < xs.length := by rw [l]; exact (List.getElem?_eq_some_iff.mp hd).1
  have hx : xs[i]? = some xs[i] := List.getElem?_eq_getElem hi
  exact ⟨a, xs, _, rfl, hs, hx, (R'.tvAt List.mem_cons_self hx hd).wk (.take .here (.drop .refl))⟩
/-! beginnings and ends -/
/-- new: all its lists are new, each one of its own -/
def Nw (K : PySem.W.Frag) (H H' : Hp) (s : Own) (v : V) (d : PyData) : Prop := ∃ ps, Unf K s v d ps ∧ Rf H' ps ∧ ∀ a ∈ tops ps, H a = none
/-- the lists of a heap -/
def oldL (H : Hp) : Addr → Prop := fun a => ∃ xs, H a = some (.lst xs)
/-- new altogether: it does not hang on any list that stood -/
def Nf (K : PySem.W.Frag) (H H' : Hp) (s : Own) (v : V) (d : PyData) : Prop := ∃ ps, Unf K s v d ps ∧ Rf H' ps ∧ (∀ a ∈ tops ps, H a = none) ∧ ∀ P, Im.ps P ∈ ps → P (wo H' fun a => a ∈ tops ps ∨ oldL H a)
theorem mono_same {H0 : Hp} : ∀ H H' : Hp, Same H H' → Same H0 H → Same H0 H' := fun _ _ s h => h.trans s
theorem ows_nil {a : Addr} : ¬ ows [] a := by
  rintro (z | ⟨F, hF, _⟩ | z)
  · cases z
  · cases hF
  · cases z
theorem Rp.start : Rp K H [.ps (Same H)] := ⟨_, .cons (p := [_]) rfl .nil, Rf.addps (L := []) mono_same (by rw [wo_no fun _ => ows_nil]; exact Same.refl _) Rf.nil⟩
/-- with nothing of one's own all that stands is shared -/
theorem Rp.argS (R : Rp K H L) (n : ∀ ps, UnIs K L ps → ∀ a, ¬ ows ps a) (h : Dq K H v d) : Rp K H (.sh v d :: L) := by
  obtain ⟨ps, u, r⟩ := R
  exact ⟨_, .cons (p := [_]) rfl u, r.addps mono_dp (by show Dq K (wo H (ows ps)) v d; rw [wo_no (n ps u)]; exact h)⟩
theorem no_sh {L : List It} (n : ∀ ps, UnIs K L ps → ∀ a, ¬ ows ps a) : ∀ ps, UnIs K (.sh v d :: L) ps → ∀ a, ¬ ows ps a := fun ps u a h => by
  obtain ⟨p, q, rfl, h1, h2⟩ := u.inv
  cases h1
  exact n q h2 a (ows_ps h)
theorem no_ps {P : Hp → Prop} {L : List It} (n : ∀ ps, UnIs K L ps → ∀ a, ¬ ows ps a) : ∀ ps, UnIs K (.ps P :: L) ps → ∀ a, ¬ ows ps a := fun ps u a h => by
  obtain ⟨p, q, rfl, h1, h2⟩ := u.inv
  cases h1
  exact n q h2 a (ows_ps h)
theorem no_nil : ∀ ps, UnIs K [] ps → ∀ a, ¬ ows ps a := fun ps u a h => by
  cases u
  exact ows_nil h
/-- from arguments -/
theorem Rp.arg1 (h : Dq K H v d) : Rp K H [.sh v d, .ps (Same H)] := Rp.argS Rp.start (no_ps no_nil) h
theorem Rp.arg2 (h : Dq K H v d) (h2 : Dq K H x e) : Rp K H [.sh v d, .sh x e, .ps (Same H)] := Rp.argS (Rp.arg1 h2) (no_sh (no_ps no_nil)) h
theorem Rp.arg3 (h : Dq K H v d) (h2 : Dq K H x e) (h3 : Dq K H y f) : Rp K H [.sh v d, .sh x e, .sh y f, .ps (Same H)] := Rp.argS (Rp.arg2 h2 h3) (no_sh (no_sh (no_ps no_nil))) h
theorem Rp.out (R : Rp K H' (.ow s v d :: .ps (Same H) :: L)) : Same H H' ∧ Nw K H H' s v d := by
  obtain ⟨p, _, h, t1, r⟩ := R.inv
  obtain ⟨_, ps, rfl, h2, t⟩ := t1.inv
  cases h2
  have k := r.all (.ps (Same H)) (List.mem_append_right _ List.mem_cons_self)
  refine ⟨k.2.trans wo_same, p, h, r.sub (List.sublist_append_left _ _), fun a ha => ?_⟩
  cases e : H a with
  | none => rfl
  | some o =>
    have := k.2 _ _ e
    rw [wo_in (ows_app.mpr (.inl (.inl ha)))] at this
    cases this
/-- the lists that stand, but for one -/
noncomputable def oldF (H : Hp) (p : Option Addr) : Addr → Option (List V) := fun a => @ite _ (some a = p) (Classical.propDecidable _) none (match H a with | some (.lst xs) => some xs | _ => none)
theorem oldF_some {q : Option Addr} (h : oldF H q a = some xs) : some a ≠ q ∧ H a = some (.lst xs) := by
  unfold oldF at h
  by_cases z : some a = q
  · rw [if_pos z] at h; cases h
  · rw [if_neg z] at h
    refine ⟨z, ?_⟩
    cases e : H a with
    | none => rw [e] at h; cases h
    | some o => cases o <;> rw [e] at h <;> first | (cases h; rfl) | cases h
theorem oldF_of {q : Option Addr} (z : some a ≠ q) (e : H a = some (.lst xs)) : oldF H q a = some xs := by
  unfold oldF
  rw [if_neg z, e]
/-- a changed list (the pool) as argument; all else that stands is left alone -/
theorem Rp.startP {P : List V → Prop} (e : H p = some (.lst xs)) (h : P xs) : Rp K H [.pr P p, .ps (Same (wo H (oldL H))), .fr (oldF H (some p))] := by
  refine ⟨_, .cons (p := [.top p xs]) ⟨xs, h, rfl⟩ (.cons (p := [_]) rfl (.cons (p := [_]) rfl .nil)), ⟨by show [p].Nodup; simp, fun F hF a ha => ?_, fun m hm => ?_, List.nodup_nil⟩⟩
  · have ha : a = p := List.mem_singleton.mp ha
    have hF : Im.fr F ∈ [Im.top p xs, .ps (Same (wo H (oldL H))), .fr (oldF H (some p))] := hF
    simp only [List.mem_cons, reduceCtorEq, List.not_mem_nil, or_false, false_or, Im.fr.injEq] at hF
    subst hF
    cases q : oldF H (some p) a with
    | none => rfl
    | some ys => exact ((oldF_some q).1 (by rw [ha])).elim
  · have hm : m ∈ [Im.top p xs, .ps (Same (wo H (oldL H))), .fr (oldF H (some p))] := hm
    have ow : ∀ a, ows [Im.top p xs, .ps (Same (wo H (oldL H))), .fr (oldF H (some p))] a → oldL H a := fun a ha => by
      rcases ows_top ha with z | z
      · rw [z]; exact ⟨_, e⟩
      · rcases ows_ps z with z | ⟨F, hF, ys, z⟩ | z
        · cases z
        · simp only [List.mem_cons, List.not_mem_nil, or_false, Im.fr.injEq] at hF
          subst hF
          exact ⟨_, (oldF_some z).2⟩
        · cases z
    rcases List.mem_cons.mp hm with rfl | hm
    · exact e
    rcases List.mem_cons.mp hm with rfl | hm
    · exact ⟨mono_same, wo_less ow⟩
    · cases List.mem_singleton.mp hm
      exact fun a ys ha => (oldF_some ha).2
/-- no argument that is a list; all that stands is left alone -/
theorem Rp.startF : Rp K H [.ps (Same (wo H (oldL H))), .fr (oldF H none)] := by
  refine ⟨_, .cons (p := [_]) rfl (.cons (p := [_]) rfl .nil), ⟨by show ([] : List Addr).Nodup; simp, fun F hF a ha => (by cases ha), fun m hm => ?_, List.nodup_nil⟩⟩
  have hm : m ∈ [Im.ps (Same (wo H (oldL H))), .fr (oldF H none)] := hm
  have ow : ∀ a, ows [Im.ps (Same (wo H (oldL H))), .fr (oldF H none)] a → oldL H a := fun a ha => by
    rcases ows_ps ha with z | ⟨F, hF, ys, z⟩ | z
    · cases z
    · simp only [List.mem_cons, List.not_mem_nil, or_false, Im.fr.injEq] at hF
      subst hF
      exact ⟨_, (oldF_some z).2⟩
    · cases z
  rcases List.mem_cons.mp hm with rfl | hm
  · exact ⟨mono_same, wo_less ow⟩
  · cases List.mem_singleton.mp hm
    exact fun a ys ha => (oldF_some ha).2
theorem unf_nofr : ∀ (s : Own) {v : V} {d : PyData} {q : List Im}, Unf K s v d q → ∀ F, Im.fr F ∉ q
  | .lf, _, _, _, e, F => by cases e; simp
  | .li s, v, d, q, ⟨a, xs, ds, qs, e1, e2, e3, h⟩, F => by
    subst e1 e2 e3
    intro z
    replace z : Im.fr F ∈ qs := by
      rcases List.mem_cons.mp z with z | z
      · cases z
      · exact z
    induction h with
    | nil => cases z
    | cons h1 _ ih =>
      rcases List.mem_append.mp z with z | z
      · exact unf_nofr s h1 F z
      · exact ih z
  | .t2 s1 s2, v, d, q, ⟨a, x1, x2, d1, d2, p1, p2, e1, e2, e3, h1, h2⟩, F => by
    subst e1 e2 e3
    intro z
    rcases List.mem_cons.mp z with z | z
    · cases z
    · rcases List.mem_append.mp z with z | z
      · exact unf_nofr s1 h1 F z
      · exact unf_nofr s2 h2 F z
  | .t3 s1 s2 s3, v, d, q, ⟨a, x1, x2, x3, d1, d2, d3, p1, p2, p3, e1, e2, e3, h1, h2, h3⟩, F => by
    subst e1 e2 e3
    intro z
    rcases List.mem_cons.mp z with z | z
    · cases z
    · rcases List.mem_append.mp z with z | z
      · exact unf_nofr s1 h1 F z
      · rcases List.mem_append.mp z with z | z
        · exact unf_nofr s2 h2 F z
        · exact unf_nofr s3 h3 F z
theorem unf_noob : ∀ (s : Own) {v : V} {d : PyData} {q : List Im}, Unf K s v d q → ∀ a o, Im.ob a o ∉ q
  | .lf, _, _, _, e, a0, o => by cases e; simp
  | .li s, v, d, q, ⟨a, xs, ds, qs, e1, e2, e3, h⟩, a0, o => by
    subst e1 e2 e3
    intro z
    replace z : Im.ob a0 o ∈ qs := by
      rcases List.mem_cons.mp z with z | z
      · cases z
      · exact z
    induction h with
    | nil => cases z
    | cons h1 _ ih =>
      rcases List.mem_append.mp z with z | z
      · exact unf_noob s h1 a0 o z
      · exact ih z
  | .t2 s1 s2, v, d, q, ⟨a, x1, x2, d1, d2, p1, p2, e1, e2, e3, h1, h2⟩, a0, o => by
    subst e1 e2 e3
    intro z
    rcases List.mem_cons.mp z with z | z
    · cases z
    · rcases List.mem_append.mp z with z | z
      · exact unf_noob s1 h1 a0 o z
      · exact unf_noob s2 h2 a0 o z
  | .t3 s1 s2 s3, v, d, q, ⟨a, x1, x2, x3, d1, d2, d3, p1, p2, p3, e1, e2, e3, h1, h2, h3⟩, a0, o => by
    subst e1 e2 e3
    intro z
    rcases List.mem_cons.mp z with z | z
    · cases z
    · rcases List.mem_append.mp z with z | z
      · exact unf_noob s1 h1 a0 o z
      · rcases List.mem_append.mp z with z | z
        · exact unf_noob s2 h2 a0 o z
        · exact unf_noob s3 h3 a0 o z
theorem unf_obs {s : Own} {v : V} {d : PyData} {q : List Im} (h : Unf K s v d q) : obs q = [] := by
  refine List.eq_nil_iff_forall_not_mem.mpr fun a ha => ?_
  obtain ⟨o, hm⟩ := mem_obs.mp ha
  exact unf_noob s h a o hm
theorem but_old {q : Option Addr} (hF : ∀ b ys, oldF H q b = some ys → H' b = some (.lst ys)) (hS : Same (wo H (oldL H)) H') : ∀ b o, some b ≠ q → H b = some o → H' b = some o := fun b o n e => by
  cases o with
  | lst ys => exact hF b ys (oldF_of n e)
  | _ => exact hS b _ (by rw [wo_out (by rintro ⟨ys, z⟩; rw [e] at z; cases z)]; exact e)
theorem Rp.nf (R : Rp K H' (.ow s v d :: L)) (hold : ∀ ps, UnIs K L ps → ∀ a, oldL H a → ows ps a) (hn : ∀ a xs, H' a = some (.lst xs) → ¬ oldL H a → H a = none) : Nf K H H' s v d := by
  obtain ⟨p, q, h, t, r⟩ := R.inv
  refine ⟨p, h, r.sub (List.sublist_append_left _ _), fun a ha => ?_, fun P hP => ?_⟩
  · obtain ⟨xs, hm⟩ := mem_tops.mp ha
    refine hn a xs (r.all _ (List.mem_append_left _ hm)) fun z => ?_
    rcases hold q t a z with z | ⟨F, hF, ys, z⟩ | z
    · have nd := r.nd
      rw [tops_app] at nd
      exact (List.nodup_append.mp nd).2.2 a ha a z rfl
    · rw [r.fd F (List.mem_append_right _ hF) a (by rw [tops_app]; exact List.mem_append_left _ ha)] at z; cases z
    · obtain ⟨o, hm2⟩ := mem_obs.mp z
      have k := r.all _ (List.mem_append_right _ hm2)
      have k2 := r.all _ (List.mem_append_left _ hm)
      have e2 : some (HO.lst xs) = some o := Eq.trans (Eq.symm k2) k.1
      exact k.2.2 xs (Option.some.inj e2).symm
  · have k := r.all (.ps P) (List.mem_append_left _ hP)
    refine k.1 _ _ (wo_less fun a ha => ?_) k.2
    rcases ha with z | z
    · exact ows_app.mpr (.inl (.inl z))
    · exact ows_app.mpr (.inr (hold q t a z))
theorem new_or {q : Option Addr} (b : ∀ b o, some b ≠ q → H b = some o → H' b = some o) (hq : ∀ p, q = some p → oldL H p) {a : Addr} {xs : List V} (e : H' a = some (.lst xs)) (n : ¬ oldL H a) : H a = none := by
  cases z : H a with
  | none => rfl
  | some o =>
    have nq : some a ≠ q := fun h => n (hq a h.symm)
    have := b a o nq z
    rw [e] at this; cases this
    exact (n ⟨xs, z⟩).elim
theorem Rp.outF (R : Rp K H' (.ow s v d :: .ps (Same (wo H (oldL H))) :: .fr (oldF H none) :: L)) : Same H H' ∧ Nf K H H' s v d := by
  have R2 := R.tail
  have hS : Same (wo H (oldL H)) H' := R2.psAt
  obtain ⟨p, q, h, t, r⟩ := R2.tail.inv
  cases h
  have b := but_old (fun b ys z => r.all _ List.mem_cons_self b ys z) hS
  have sm : Same H H' := fun x o e => b x o (by simp) e
  refine ⟨sm, R.nf (fun ps u a ha => ?_) fun a xs e n => new_or b (by simp) e n⟩
  obtain ⟨p1, q1, rfl, h1, t1⟩ := u.inv
  obtain ⟨p2, q2, rfl, h2, t2⟩ := t1.inv
  cases h2
  obtain ⟨xs, ha⟩ := ha
  exact ows_app.mpr (.inr (.inr (.inl ⟨_, List.mem_cons_self, xs, oldF_of (by simp) ha⟩)))
theorem Rp.outP {P : List V → Prop} (hp : oldL H p) (R : Rp K H' (.ow s v d :: .pr P p :: .ps (Same (wo H (oldL H))) :: .fr (oldF H (some p)) :: L)) : But p H H' ∧ (∃ xs, H' p = some (.lst xs) ∧ P xs) ∧ Nf K H H' s v d := by
  have R2 := R.tail
  have hS : Same (wo H (oldL H)) H' := R2.tail.psAt
  obtain ⟨p', q, h, t, r⟩ := R2.tail.tail.inv
  cases h
  have b := but_old (fun b ys z => r.all _ List.mem_cons_self b ys z) hS
  refine ⟨fun x o n e => b x o (by simpa using n) e, R2.prAt, R.nf (fun ps u a ha => ?_) fun a xs e n => new_or b (by rintro _ ⟨⟩; exact hp) e n⟩
  obtain ⟨p1, q1, rfl, ⟨zs, _, h1⟩, t1⟩ := u.inv
  cases h1
  obtain ⟨p2, q2, rfl, h2, t2⟩ := t1.inv
  obtain ⟨p3, q3, rfl, h3, t3⟩ := t2.inv
  cases h2; cases h3
  by_cases z : a = p
  · exact .inl (by rw [z]; exact List.mem_cons_self)
  · obtain ⟨xs, ha⟩ := ha
    exact ows_app.mpr (.inr (ows_app.mpr (.inr (.inr (.inl ⟨_, List.mem_cons_self, xs, oldF_of (by simpa using z) ha⟩)))))
end
section
variable {K : PySem.W.Frag} {H H' : Hp} {L L' A B : List It} {a p : Addr} {xs ys : List V} {o : HO} {v x y z : V} {d e f : PyData} {ds : List PyData} {s s1 s2 s3 : Own}
def lfree : Own → PyData → Prop
  | .lf, d => noL d = true
  | .li s, .list ds => ∀ d ∈ ds, lfree s d
  | .t2 s1 s2, .tuple [d1, d2] => lfree s1 d1 ∧ lfree s2 d2
  | .t3 s1 s2 s3, .tuple [d1, d2, d3] => lfree s1 d1 ∧ lfree s2 d2 ∧ lfree s3 d3
  | _, _ => True
theorem unf_flat {H1 H2 : Hp} (t : ∀ a xs, SqT K H1 a xs → SqT K H2 a xs) : ∀ (s : Own) {v : V} {d : PyData} {q : List Im}, Unf K s v d q → lfree s d → ∀ P, Im.ps P ∈ q → P H1 → P H2
  | .lf, v, d, q, e, l, P, h => by
    cases e
    cases List.mem_singleton.mp h
    exact dq_noL t d v l
  | .li s, v, d, q, ⟨a, xs, ds, qs, e1, e2, e3, h⟩, l, P, hP => by
    subst e1 e2 e3
    have hQ : Im.ps P ∈ qs := by
      rcases List.mem_cons.mp hP with z | hP
      · cases z
      · exact hP
    clear hP
    replace l : ∀ d ∈ ds, lfree s d := l
    induction h with
    | nil => cases hQ
    | cons h1 h2 ih =>
      rcases List.mem_append.mp hQ with z | z
      · exact unf_flat t s h1 (l _ List.mem_cons_self) P z
      · exact ih z (fun d hd => l d (List.mem_cons_of_mem _ hd))
  | .t2 s1 s2, v, d, q, ⟨a, x1, x2, d1, d2, p1, p2, e1, e2, e3, h1, h2⟩, l, P, hP => by
    subst e1 e2 e3
    rcases List.mem_cons.mp hP with z | hP
    · cases z; exact t _ _
    rcases List.mem_append.mp hP with z | z
    · exact unf_flat t s1 h1 l.1 P z
    · exact unf_flat t s2 h2 l.2 P z
  | .t3 s1 s2 s3, v, d, q, ⟨a, x1, x2, x3, d1, d2, d3, p1, p2, p3, e1, e2, e3, h1, h2, h3⟩, l, P, hP => by
    subst e1 e2 e3
    rcases List.mem_cons.mp hP with z | hP
    · cases z; exact t _ _
    rcases List.mem_append.mp hP with z | hP
    · exact unf_flat t s1 h1 l.1 P z
    rcases List.mem_append.mp hP with z | z
    · exact unf_flat t s2 h2 l.2.1 P z
    · exact unf_flat t s3 h3 l.2.2 P z
/-- what is new put beside what stands -/
theorem Rf.join {A B : List Im} (RA : Rf H' A) (RB : Rf H B) (RB' : Rf H' B) (h : ∀ b o, ¬ ows B b → H b = some o → H' b = some o) (nw : ∀ a ∈ tops A, H a = none) (nf : ∀ F, Im.fr F ∉ A) (no : obs A = [])
    (hA : ∀ P, Im.ps P ∈ A → P (wo H' fun a => a ∈ tops A ∨ ows B a)) : Rf H' (A ++ B) := by
  have dj : ∀ a ∈ tops A, ¬ ows B a := fun a ha z => by
    obtain ⟨ys, e⟩ := RB.lists z
    rw [nw a ha] at e; cases e
  have oA : ∀ a, ows A a → a ∈ tops A := fun a ha => by
    rcases ha with z | ⟨F, hF, _⟩ | z
    · exact z
    · exact (nf F hF).elim
    · rw [no] at z; cases z
  refine ⟨by rw [tops_app]; exact List.nodup_append.mpr ⟨RA.nd, RB.nd, fun a ha b hb z => dj a ha (z ▸ .inl hb)⟩, fun F hF a ha => ?_, fun m hm => ?_, by rw [obs_app, no, List.nil_append]; exact RB.no⟩
  · rcases List.mem_append.mp hF with z | z
    · exact (nf F z).elim
    · rw [tops_app] at ha
      rcases List.mem_append.mp ha with ha | ha
      · cases q : F a with
        | none => rfl
        | some ys => exact (dj a ha (.inr (.inl ⟨F, z, ys, q⟩))).elim
      · exact RB.fd F z a ha
  · rcases List.mem_append.mp hm with hm | hm
    · have k := RA.all m hm
      cases m with
      | ps P =>
        refine ⟨k.1, k.1 _ _ (wo_less fun a ha => ?_) (hA P hm)⟩
        rcases ows_app.mp ha with z | z
        · exact .inl (oA a z)
        · exact .inr z
      | top a xs => exact k
      | fr F => exact (nf F hm).elim
      | ob a o => exact k
    · have k := RB.all m hm
      cases m with
      | ps P =>
        refine ⟨k.1, k.1 _ _ (fun b o e => ?_) k.2⟩
        obtain ⟨nb, e⟩ := wo_some e
        rw [wo_out ?_]; exact h b o nb e
        intro z
        rcases ows_app.mp z with z | z
        · rw [nw b (oA b z)] at e; cases e
        · exact nb z
      | top a xs => exact RB'.all _ hm
      | fr F => exact RB'.all _ hm
      | ob a o => exact RB'.all _ hm
theorem Rf.both {A B : List Im} (RA : Rf H' A) (RB' : Rf H' B) (nf : ∀ F, Im.fr F ∉ A) {P : Hp → Prop} (hP : Im.ps P ∈ A)
    (hA : ∀ H1 H2, (∀ a xs, SqT K H1 a xs → SqT K H2 a xs) → P H1 → P H2) : P (wo H' fun a => a ∈ tops A ∨ ows B a) := by
  refine hA _ _ (fun a xs h => wo_sqt0 (fun b z => ?_) (sqT_same wo_same h)) (RA.all _ hP).2
  rcases z with z | z
  · exact RA.lists (.inl z)
  · exact RB'.lists z
theorem Rp.inn (R : Rp K H L) (sm : Same H H') (N : Nw K H H' s v d) (l : lfree s d) : Rp K H' (.ow s v d :: L) := by
  obtain ⟨ps, u, r⟩ := R
  obtain ⟨qs, hu, rq, nw⟩ := N
  exact ⟨_, .cons hu u, Rf.join rq r (r.same sm) (fun b o _ e => sm b o e) nw (unf_nofr s hu) (unf_obs hu) fun P hP => Rf.both (K := K) rq (r.same sm) (unf_nofr s hu) hP fun H1 H2 t => unf_flat t s hu l P hP⟩
theorem innP0 {P P' : List V → Prop} (R : Rp K H (.pr P p :: L)) (sm : But p H H') (e : H' p = some (.lst ys)) (h : P' ys) {qs : List Im} (hu : Unf K s v d qs) (rq : Rf H' qs) (nw : ∀ a ∈ tops qs, H a = none)
    (hA : ∀ ps xs, Rf H (.top p xs :: ps) → Rf H' (.top p ys :: ps) → ∀ P, Im.ps P ∈ qs → P (wo H' fun a => a ∈ tops qs ∨ ows (.top p ys :: ps) a)) : Rp K H' (.ow s v d :: .pr P' p :: L) := by
  obtain ⟨_, ps, ⟨xs, hP, h1⟩, u, r⟩ := R.inv
  cases h1
  have r' : Rf H' (.top p ys :: ps) := Rf.mut sm e r
  refine ⟨_, .cons hu (.cons (p := [.top p ys]) ⟨ys, h, rfl⟩ u), ?_⟩
  have nf := unf_nofr s hu
  have no := unf_obs hu
  have eqo : ∀ a, ows (.top p ys :: ps) a → ows (.top p xs :: ps) a := fun a ha => by
    rcases ows_top ha with z | z
    · rw [z]; exact .inl (by rw [tops_top]; exact List.mem_cons_self)
    · exact ows_sub (fun m hm => List.mem_cons_of_mem _ hm) z
  have r2 : Rf H (.top p xs :: ps) := r
  -- the join, the list at p changed
  have dj : ∀ a ∈ tops qs, ¬ ows (.top p ys :: ps) a := fun a ha z => by
    obtain ⟨zs, e2⟩ := r2.lists (eqo a z)
    rw [nw a ha] at e2; cases e2
  have oA : ∀ a, ows qs a → a ∈ tops qs := fun a ha => by
    rcases ha with z | ⟨F, hF, _⟩ | z
    · exact z
    · exact (nf F hF).elim
    · rw [no] at z; cases z
  show Rf H' (qs ++ (.top p ys :: ps))
  refine ⟨by rw [tops_app]; exact List.nodup_append.mpr ⟨rq.nd, r'.nd, fun a ha b hb z => dj a ha (z ▸ .inl hb)⟩, fun F hF a ha => ?_, fun m hm => ?_, by rw [obs_app, no, List.nil_append]; exact r'.no⟩
  · rcases List.mem_append.mp hF with z | z
    · exact (nf F z).elim
    · rw [tops_app] at ha
      rcases List.mem_append.mp ha with ha | ha
      · cases q : F a with
        | none => rfl
        | some zs => exact (dj a ha (.inr (.inl ⟨F, z, zs, q⟩))).elim
      · exact r'.fd F z a ha
  · rcases List.mem_append.mp hm with hm | hm
    · have k := rq.all m hm
      cases m with
      | ps P =>
        refine ⟨k.1, k.1 _ _ (wo_less fun a ha => ?_) (hA ps xs r2 r' P hm)⟩
        rcases ows_app.mp ha with z | z
        · exact .inl (oA a z)
        · exact .inr z
      | top a xs => exact k
      | fr F => exact (nf F hm).elim
      | ob a o => exact k
    · have k := r'.all m hm
      cases m with
      | ps P =>
        have k0 := r2.all (.ps P) (by rcases List.mem_cons.mp hm with z | z; cases z; exact List.mem_cons_of_mem _ z)
        refine ⟨k0.1, k0.1 _ _ (fun b o q => ?_) k0.2⟩
        obtain ⟨nb, q⟩ := wo_some q
        have nb2 : b ≠ p := fun z => nb (by rw [z]; exact .inl (by rw [tops_top]; exact List.mem_cons_self))
        rw [wo_out ?_]; exact sm b o nb2 q
        intro z
        rcases ows_app.mp z with z | z
        · rw [nw b (oA b z)] at q; cases q
        · exact nb (eqo b z)
      | top a zs => exact k
      | fr F => exact k
      | ob a o => exact k
theorem Rp.innP {P P' : List V → Prop} (R : Rp K H (.pr P p :: L)) (sm : But p H H') (e : H' p = some (.lst ys)) (h : P' ys) (N : Nw K H H' s v d) (l : lfree s d) : Rp K H' (.ow s v d :: .pr P' p :: L) := by
  obtain ⟨qs, hu, rq, nw⟩ := N
  exact innP0 R sm e h hu rq nw fun ps xs _ r' P hP => Rf.both (K := K) rq r' (unf_nofr s hu) hP fun H1 H2 t => unf_flat t s hu l P hP
theorem lfree_il {ns : List Int} : lfree (.li .lf) (IL ns) := fun d hd => by
  obtain ⟨n, _, rfl⟩ := List.mem_map.mp hd
  rfl
theorem lfree_fl {qs : List Rat} : lfree (.li .lf) (FL qs) := fun d hd => by
  obtain ⟨n, _, rfl⟩ := List.mem_map.mp hd
  rfl
theorem lfree_td {t : List (List Rat)} : lfree (.li (.li .lf)) (TD t) := fun d hd => by
  obtain ⟨n, _, rfl⟩ := List.mem_map.mp hd
  exact lfree_fl
end
/-! ### the way from one list of items to another, by a search for instances -/
class SelC (m : It) (L : List It) (L1 : outParam (List It)) : Prop where
  pf : Sel m L L1
class SufC (L L' : List It) : Prop where
  pf : Wk L L'
class WkC (L L' : List It) : Prop where
  pf : Wk L L'
section
variable {m x : It} {A L L1 L' : List It} {v : V} {d : PyData} {P : Hp → Prop}
instance (priority := 900) : SelC m (m :: L) L := ⟨.here⟩
instance (priority := 800) [h : SelC m L L1] : SelC m (x :: L) (x :: L1) := ⟨.there h.pf⟩
instance (priority := 800) [h : SelC m L L1] : SelC m (A ++ L) (A ++ L1) := ⟨Sel.app h.pf⟩
instance (priority := 900) : SufC L L := ⟨.refl⟩
instance (priority := 800) [h : SufC L L'] : SufC (x :: L) L' := ⟨.drop h.pf⟩
instance (priority := 800) [h : SufC L L'] : SufC (A ++ L) L' := ⟨.dropA h.pf⟩
instance (priority := 500) [h : SufC L L'] : WkC L L' := ⟨h.pf⟩
instance (priority := 900) [h : SelC (.ow .lf v d) L L1] [k : WkC L L'] : WkC L (.ow .lf v d :: L') := ⟨.dup h.pf k.pf⟩
instance (priority := 900) [h : SelC (.ps P) L L1] [k : WkC L L'] : WkC L (.ps P :: L') := ⟨.dupP h.pf k.pf⟩
instance (priority := 800) [h : SelC m L L1] [k : WkC L1 L'] : WkC L (m :: L') := ⟨.take h.pf k.pf⟩
end
/-! ### steps with what stands side by side -/
theorem mem_here {α : Type} {m : α} {L : List α} : m ∈ m :: L := List.mem_cons_self
section
variable {K : PySem.W.Frag} {H H' : Hp} {Q : VK} {L L' L1 L2 A B : List It} {a b p : Addr} {xs ys : List V} {o : HO} {v x y z : V} {d e f : PyData} {ds es : List PyData} {s s1 s2 s3 : Own} {i j : Int} {k n : Nat}
theorem Wk.nil : Wk L [] := by
  induction L with
  | nil => exact .refl
  | cons m L ih => exact .drop ih
theorem Rp.raw (R : Rp K H L) (h : It.ow s (.ref a) (.list ds) ∈ L) : ∃ xs, H a = some (.lst xs) ∧ DqAll K H xs ds := by
  obtain ⟨b, xs, e, h1, h2⟩ := Dq.lstI (R.dpOf h)
  cases e
  exact ⟨xs, h1, h2⟩
theorem Rp.rawT (R : Rp K H L) (h : It.ow s (.ref a) (.tuple ds) ∈ L) : ∃ xs, SqT K H a xs ∧ DqAll K H xs ds := by
  obtain ⟨b, xs, e, h1, h2⟩ := Dq.tupI (R.dpOf h)
  cases e
  exact ⟨xs, h1, h2⟩
theorem Rp.fr {x : Rat} (R : Rp K H L) (h : It.ow s (.ref a) (FD x) ∈ L) : Fr K H a x := dq_fr (R.dpOf h)
theorem Rp.ilS {ns : List Int} (R : Rp K H L) (h : It.ow s (.ref a) (IL ns) ∈ L) : SqL K H a (ns.map V.int) := by
  obtain ⟨xs, h1, h2⟩ := R.raw h
  rw [int_dp (dqAll_dp _ _ h2)] at h1
  exact SqL.of h1
/-- a value's datum known: what the value is -/
theorem sh_int (R : Rp K H (.ow s v (.int i) :: L)) : v = .int i := by have := R.dp; cases this; rfl
theorem sh_bl {b : Bool} (R : Rp K H (.ow s v (.bool b) :: L)) : v = .bl b := by have := R.dp; cases this; rfl
theorem sh_str {b : Str} (R : Rp K H (.ow s v (.str b) :: L)) : v = .str b := by have := R.dp; cases this; rfl
theorem sh_non (R : Rp K H (.ow s v .none :: L)) : v = .non := by have := R.dp; cases this; rfl
theorem sh_lst (R : Rp K H (.ow s v (.list ds) :: L)) : ∃ a, v = .ref a := by have := R.dp; cases this; exact ⟨_, rfl⟩
theorem sh_tup (R : Rp K H (.ow s v (.tuple ds) :: L)) : ∃ a, v = .ref a := by have := R.dp; cases this; exact ⟨_, rfl⟩
theorem g_lenS (R : Rp K H L) (h : It.ow s (.ref a) (.list ds) ∈ L) (q : Q (.int ds.length) H) : rLenSeq K [.ref a] H Q := by
  obtain ⟨xs, h1, h2⟩ := R.raw h
  exact g_lenL (SqL.of h1) (by rw [DqAll.len h2]; exact q)
theorem g_lenTS (R : Rp K H L) (h : It.ow s (.ref a) (.tuple ds) ∈ L) (q : Q (.int ds.length) H) : rLenSeq K [.ref a] H Q := by
  obtain ⟨xs, h1, h2⟩ := R.rawT h
  exact g_lenT h1 (by rw [DqAll.len h2]; exact q)
theorem g_ixS (R : Rp K H L) (h : It.sh (.ref a) (.list ds) ∈ L) (hi : i = (k : Nat)) (hd : ds[k]? = some d) (q : ∀ w, Rp K H (.sh w d :: L) → Q w H) : rIxL K (.ref a) (.int i) H Q := by
  obtain ⟨b, xs, w, e, h1, h2, R'⟩ := R.shL h hd
  cases e
  exact g_ixL (SqL.of h1) (by rw [hi]; exact atI_nat h2) (q w R')
theorem g_ixTS (R : Rp K H L) (h : It.sh (.ref a) (.tuple ds) ∈ L) (hi : i = (k : Nat)) (hd : ds[k]? = some d) (q : ∀ w, Rp K H (.sh w d :: L) → Q w H) : rIxT K (.ref a) (.int i) H Q := by
  obtain ⟨b, xs, w, e, h1, h2, R'⟩ := R.shT h hd
  cases e
  exact g_ixT h1 (by rw [hi]; exact atI_nat h2) (q w R')
/-- a flat item -/
theorem g_ixF (R : Rp K H L) (h : It.ow s (.ref a) (.list ds) ∈ L) (hi : i = (k : Nat)) (hd : ds[k]? = some d) (n : noL d = true) (q : ∀ w, Rp K H (.sh w d :: L) → Q w H) : rIxL K (.ref a) (.int i) H Q := by
  obtain ⟨xs, h1, h2⟩ := R.raw h
  obtain ⟨w, hw, hd⟩ := DqAll.get h2 hd
  exact g_ixL (SqL.of h1) (by rw [hi]; exact atI_nat hw) (q w (R.flat hd n))
theorem g_ixTF (R : Rp K H L) (h : It.ow s (.ref a) (.tuple ds) ∈ L) (hi : i = (k : Nat)) (hd : ds[k]? = some d) (n : noL d = true) (q : ∀ w, Rp K H (.sh w d :: L) → Q w H) : rIxT K (.ref a) (.int i) H Q := by
  obtain ⟨xs, h1, h2⟩ := R.rawT h
  obtain ⟨w, hw, hd⟩ := DqAll.get h2 hd
  exact g_ixT h1 (by rw [hi]; exact atI_nat hw) (q w (R.flat hd n))
theorem g_ixI (R : Rp K H L) (h : It.ow s (.ref a) (.list ds) ∈ L) (hi : i = (k : Nat)) (hd : ds[k]? = some (.int j)) (q : Q (.int j) H) : rIxL K (.ref a) (.int i) H Q :=
  g_ixF R h hi hd rfl fun w R' => by rw [sh_int R']; exact q
theorem g_ixTI (R : Rp K H L) (h : It.ow s (.ref a) (.tuple ds) ∈ L) (hi : i = (k : Nat)) (hd : ds[k]? = some (.int j)) (q : Q (.int j) H) : rIxT K (.ref a) (.int i) H Q :=
  g_ixTF R h hi hd rfl fun w R' => by rw [sh_int R']; exact q
/-- == -/
theorem g_eqR (R : Rp K H L) (h1 : It.ow s x d ∈ L) (h2 : It.ow s1 y e ∈ L) (c1 : SeqAt.shaped d = true) (c2 : SeqAt.shaped e = true) (q : Q (.bl (PyData.eqv d e)) H) : rEqD K x y H Q := ⟨d, e, dq_dp _ _ (R.dpOf h1), dq_dp _ _ (R.dpOf h2), c1, c2, q⟩
theorem g_neR (R : Rp K H L) (h1 : It.ow s x d ∈ L) (h2 : It.ow s1 y e ∈ L) (c1 : SeqAt.shaped d = true) (c2 : SeqAt.shaped e = true) (q : Q (.bl (!PyData.eqv d e)) H) : rNeD K x y H Q := ⟨d, e, dq_dp _ _ (R.dpOf h1), dq_dp _ _ (R.dpOf h2), c1, c2, q⟩
/-- an item put behind a list of one's own -/
theorem each_snoc (h : xs.length = ds.length) : each s (xs ++ [x]) (ds ++ [d]) = each s xs ds ++ [.ow s x d] := by
  unfold each
  rw [List.zipWith_append h]; rfl
theorem Rp.app (R : Rp K H (.ow s y d :: .ow (.li s) (.ref p) (.list ds) :: L)) : ∃ acc, H p = some (.lst acc) ∧ acc.length = ds.length ∧ Rp K (upd H p (.lst (acc ++ [y]))) (.ow (.li s) (.ref p) (.list (ds ++ [d])) :: L) := by
  have R1 : Rp K H (.ow (.li s) (.ref p) (.list ds) :: .ow s y d :: L) := R.perm (.swap _ _ _)
  obtain ⟨a, acc, e, l, R2⟩ := R1.take
  cases e
  refine ⟨acc, R2.topAt, l, Rp.put (xs := acc ++ [y]) ?_ (by rw [List.length_append, List.length_append, l]; rfl)⟩
  rw [each_snoc l, List.append_assoc]
  exact R2.mut
/-- an owned list in a call of append -/
theorem g_appR (R : Rp K H L) (h1 : Sel (.ow s y d) L L1) (h2 : Sel (.ow (.li s) (.ref p) (.list ds)) L1 L2) (sz : ds.length < 100000) (q : ∀ H', Rp K H' (.ow (.li s) (.ref p) (.list (ds ++ [d])) :: L2) → Q .non H') : rAppend (.ref p) [y] H Q := by
  have R1 : Rp K H (.ow s y d :: .ow (.li s) (.ref p) (.list ds) :: L2) := (R.sel h1).perm (h2.perm.cons _)
  obtain ⟨acc, e, l, R2⟩ := R1.app
  exact ⟨p, acc, y, rfl, rfl, e, sz_lt (by omega), q _ R2⟩
theorem tyR {T : TE} (R : Rp K H L) (h : It.ow s (.ref p) (.list ds) ∈ L) : tyV K "list" (.ref p) H := by
  obtain ⟨xs, h1, _⟩ := R.raw h
  exact ty_l h1
/-- a call of fractions' deeds -/
theorem Rp.frN {x : Rat} (R : Rp K H L) (n : H p = none) : Rp K (upd H p (.tup (FV x))) (.sh (.ref p) (FD x) :: L) :=
  (R.same (same_new n)).flat (fr_dq sqT_at) rfl
variable {E : XK} {q r : Rat}
theorem g_plusR (R : Rp K H L) (hx : It.ow s (.ref a) (FD q) ∈ L) (hy : It.ow s1 (.ref b) (FD r) ∈ L) (bx : Bd 4000 q) (bu : Bd 4000 r) (k : ∀ c H', Rp K H' (.sh (.ref c) (FD (q + r)) :: L) → Q (.ref c) H') : sp2F K (fun x y => x + y) (fun _ _ => True) ([.ref a, .ref b] ++ []) H Q E :=
  g_plus (R.fr hx) (R.fr hy) bx bu fun p np => k p _ (R.frN np)
theorem g_minusR (R : Rp K H L) (hx : It.ow s (.ref a) (FD q) ∈ L) (hy : It.ow s1 (.ref b) (FD r) ∈ L) (bx : Bd 4000 q) (bu : Bd 4000 r) (k : ∀ c H', Rp K H' (.sh (.ref c) (FD (q - r)) :: L) → Q (.ref c) H') : sp2F K (fun x y => x - y) (fun _ _ => True) ([.ref a, .ref b] ++ []) H Q E :=
  g_minus (R.fr hx) (R.fr hy) bx bu fun p np => k p _ (R.frN np)
theorem g_timesR (R : Rp K H L) (hx : It.ow s (.ref a) (FD q) ∈ L) (hy : It.ow s1 (.ref b) (FD r) ∈ L) (bx : Bd 4000 q) (bu : Bd 4000 r) (k : ∀ c H', Rp K H' (.sh (.ref c) (FD (q * r)) :: L) → Q (.ref c) H') : sp2F K (fun x y => x * y) (fun _ _ => True) ([.ref a, .ref b] ++ []) H Q E :=
  g_times (R.fr hx) (R.fr hy) bx bu fun p np => k p _ (R.frN np)
theorem g_dividedR (R : Rp K H L) (hx : It.ow s (.ref a) (FD q) ∈ L) (hy : It.ow s1 (.ref b) (FD r) ∈ L) (bx : Bd 4000 q) (bu : Bd 4000 r) (h0 : r ≠ 0) (k : ∀ c H', Rp K H' (.sh (.ref c) (FD (q / r)) :: L) → Q (.ref c) H') : sp2F K (fun x y => x / y) (fun _ y => y ≠ 0) ([.ref a, .ref b] ++ []) H Q E :=
  g_divided (R.fr hx) (R.fr hy) bx bu h0 fun p np => k p _ (R.frN np)
theorem g_belowR (R : Rp K H L) (hx : It.ow s (.ref a) (FD q) ∈ L) (hy : It.ow s1 (.ref b) (FD r) ∈ L) (bx : Bd 4000 q) (bu : Bd 4000 r) (k : Q (.bl (decide (q < r))) H) : sp_below K ([.ref a, .ref b] ++ []) H Q E :=
  g_below (R.fr hx) (R.fr hy) bx bu k
theorem g_fracR {t u : Int} (R : Rp K H L) (h0 : u ≠ 0) (h : IB 8500 u) (k : ∀ c H', Rp K H' (.sh (.ref c) (FD (Rat.divInt t u)) :: L) → Q (.ref c) H') : sp_fraction ([.int t, .int u] ++ []) H Q E :=
  g_frac h0 h fun p np => k p _ (R.frN np)
theorem g_eqFR (R : Rp K H L) (hx : It.ow s (.ref a) (FD q) ∈ L) (hy : It.ow s1 (.ref b) (FD r) ∈ L) (k : Q (.bl (decide (q = r))) H) : rEqD K (.ref a) (.ref b) H Q := g_eqF (R.fr hx) (R.fr hy) k
theorem g_neFR (R : Rp K H L) (hx : It.ow s (.ref a) (FD q) ∈ L) (hy : It.ow s1 (.ref b) (FD r) ∈ L) (k : Q (.bl (!decide (q = r))) H) : rNeD K (.ref a) (.ref b) H Q := g_neF (R.fr hx) (R.fr hy) k
/-- displays -/
theorem g_t2R {G : Addr → Prop} (R : Rp K H L) (h1 : Sel (.ow s1 x d) L L1) (h2 : Sel (.ow s2 y e) L1 L2) (k : ∀ c, H c = none → Rp K (upd H c (.tup [x, y])) (.ow (.t2 s1 s2) (.ref c) (.tuple [d, e]) :: L2) → G c) : [x, y].length ≤ sizeLine ∧ ∀ p, H p = none → G p :=
  ⟨two_le, fun p np => k p np (Rp.mk2 ((R.sel h1).perm (h2.perm.cons _)) np)⟩
theorem g_t3R {G : Addr → Prop} (R : Rp K H L) (h1 : Sel (.ow s1 x d) L L1) (h2 : Sel (.ow s2 y e) L1 L2) (h3 : Sel (.ow s3 z f) L2 L') (k : ∀ c, H c = none → Rp K (upd H c (.tup [x, y, z])) (.ow (.t3 s1 s2 s3) (.ref c) (.tuple [d, e, f]) :: L') → G c) : [x, y, z].length ≤ sizeLine ∧ ∀ p, H p = none → G p :=
  ⟨by show 3 ≤ sizeLine; decide, fun p np => k p np (Rp.mk3 ((R.sel h1).perm ((h2.perm.trans (h3.perm.cons _)).cons _)) np)⟩
theorem g_l0R {G : Addr → Prop} (s : Own) (R : Rp K H L) (k : ∀ c, H c = none → Rp K (upd H c (.lst [])) (.ow (.li s) (.ref c) (.list []) :: L) → G c) : ([] : List V).length ≤ sizeLine ∧ ∀ p, H p = none → G p :=
  ⟨Nat.zero_le _, fun p np => k p np (R.mkL0 s np)⟩
theorem g_l1R {G : Addr → Prop} (R : Rp K H L) (h1 : Sel (.ow s x d) L L1) (k : ∀ c, H c = none → Rp K (upd H c (.lst [x])) (.ow (.li s) (.ref c) (.list [d]) :: L1) → G c) : [x].length ≤ sizeLine ∧ ∀ p, H p = none → G p :=
  ⟨by show 1 ≤ sizeLine; decide, fun p np => k p np (Rp.mkL1 (R.sel h1) np)⟩
theorem g_l2R {G : Addr → Prop} (R : Rp K H L) (h1 : Sel (.ow s x d) L L1) (h2 : Sel (.ow s y e) L1 L2) (k : ∀ c, H c = none → Rp K (upd H c (.lst [x, y])) (.ow (.li s) (.ref c) (.list [d, e]) :: L2) → G c) : [x, y].length ≤ sizeLine ∧ ∀ p, H p = none → G p :=
  ⟨two_le, fun p np => k p np (Rp.mkL2 ((R.sel h1).perm (h2.perm.cons _)) np)⟩
theorem int_dq : ∀ {ns : List Int}, DqAll K H (ns.map V.int) (ns.map PyData.int)
  | [] => .nil
  | n :: ns => .cons (.int n) int_dq
/-- written ints -/
theorem g_intsR {G : Addr → Prop} {ns : List Int} (R : Rp K H L) (e : xs = ns.map V.int) (z : ns.length ≤ 100000) (k : ∀ c, H c = none → Rp K (upd H c (.lst xs)) (.ow (.li .lf) (.ref c) (IL ns) :: L) → G c) : xs.length ≤ sizeLine ∧ ∀ p, H p = none → G p := by
  subst e
  exact ⟨sz_le (by rw [List.length_map]; exact z), fun p np => k p np (R.mkI np)⟩
theorem g_tupIR {G : Addr → Prop} {ns : List Int} (R : Rp K H L) (e : xs = ns.map V.int) (z : ns.length ≤ 100000) (k : ∀ c, H c = none → Rp K (upd H c (.tup xs)) (.sh (.ref c) (.tuple (ns.map PyData.int)) :: L) → G c) : xs.length ≤ sizeLine ∧ ∀ p, H p = none → G p := by
  subst e
  refine ⟨sz_le (by rw [List.length_map]; exact z), fun p np => k p np ((R.same (same_new np)).flat (.tup sqT_at ?_) ?_)⟩
  · exact int_dq
  · clear z R k; show noLs _ = true; induction ns with
    | nil => rfl
    | cons n ns ih => exact ih
/-- two own lists, or shared ones, put together -/
theorem each_app (h : xs.length = ds.length) : each s (xs ++ ys) (ds ++ es) = each s xs ds ++ each s ys es := by
  unfold each
  rw [List.zipWith_append h]
theorem g_catR (R : Rp K H L) (h1 : Sel (.ow (.li s) (.ref a) (.list ds)) L L1) (h2 : Sel (.ow (.li s) (.ref b) (.list es)) L1 L2) (z : ds.length + es.length ≤ 100000) (k : ∀ c H', Rp K H' (.ow (.li s) (.ref c) (.list (ds ++ es)) :: L2) → Q (.ref c) H') : rCat (.ref a) (.ref b) H Q := by
  have R1 : Rp K H (.ow (.li s) (.ref a) (.list ds) :: .ow (.li s) (.ref b) (.list es) :: L2) := (R.sel h1).perm (h2.perm.cons _)
  obtain ⟨a', xs, e1, l1, R2⟩ := R1.take
  cases e1
  have ea := R2.topAt
  have R3 : Rp K H (.ow (.li s) (.ref b) (.list es) :: (each s xs ds ++ L2)) := R2.tail.perm List.perm_middle
  obtain ⟨b', ys, e2, l2, R4⟩ := R3.take
  cases e2
  refine ⟨a, b, xs, ys, rfl, rfl, ea, R4.topAt, sz_le (by omega), fun p np => k p _ (Rp.mkL (xs := xs ++ ys) (ds := ds ++ es) ?_ (by rw [List.length_append, List.length_append, l1, l2]) np)⟩
  rw [each_app l1]
  refine R4.tail.perm ?_
  rw [← List.append_assoc]
  exact List.perm_append_comm.append_right _
/-- a shared list of flat things, or any list one only reads, to a new list of the same: [e] + xs, xs + [e] -/
theorem g_catI {ns ms : List Int} (R : Rp K H L) (h1 : It.ow s (.ref a) (IL ns) ∈ L) (h2 : It.ow s1 (.ref b) (IL ms) ∈ L) (z : ns.length + ms.length ≤ 100000) (k : ∀ c H', Rp K H' (.ow (.li .lf) (.ref c) (IL (ns ++ ms)) :: L) → Q (.ref c) H') : rCat (.ref a) (.ref b) H Q := by
  obtain ⟨xs, e1, d1⟩ := R.raw h1
  obtain ⟨ys, e2, d2⟩ := R.raw h2
  rw [int_dp (dqAll_dp _ _ d1)] at e1
  rw [int_dp (dqAll_dp _ _ d2)] at e2
  refine ⟨a, b, _, _, rfl, rfl, e1, e2, sz_le (by rw [List.length_map, List.length_map]; exact z), fun p np => k p _ ?_⟩
  rw [← List.map_append]
  exact R.mkI np
/-- an item of a list whose items are exploded -/
theorem Rp.focus {k : Nat} (R : Rp K H (.top a xs :: (each s xs ds ++ L))) (hx : xs[k]? = some x) (hd : ds[k]? = some d) : ∃ C, Rp K H (.ow s x d :: .top a xs :: (C ++ L)) ∧ ∀ H' e, Rp K H' (.ow s x e :: .top a xs :: (C ++ L)) → Rp K H' (.top a xs :: (each s xs (ds.set k e) ++ L)) := by
  have h1 := List.getElem?_eq_some_iff.mp hx
  have h2 := List.getElem?_eq_some_iff.mp hd
  obtain ⟨l1, e1⟩ := h1
  obtain ⟨l2, e2⟩ := h2
  have ex : xs = xs.take k ++ x :: xs.drop (k + 1) := by rw [← e1, ← List.drop_eq_getElem_cons l1, List.take_append_drop]
  have ed : ∀ e, ds.set k e = ds.take k ++ e :: ds.drop (k + 1) := fun e => List.set_eq_take_append_cons_drop.trans (by rw [if_pos l2])
  have ed0 : ds = ds.take k ++ d :: ds.drop (k + 1) := by rw [← e2, ← List.drop_eq_getElem_cons l2, List.take_append_drop]
  have lt : (xs.take k).length = (ds.take k).length := by rw [List.length_take, List.length_take]; omega
  have key : ∀ e, each s xs (ds.set k e) = each s (xs.take k) (ds.take k) ++ .ow s x e :: each s (xs.drop (k + 1)) (ds.drop (k + 1)) := fun e => by
    rw [ed e]
    conv => lhs; rw [ex]
    rw [each_app lt]; rfl
  have key0 : each s xs ds = each s (xs.take k) (ds.take k) ++ .ow s x d :: each s (xs.drop (k + 1)) (ds.drop (k + 1)) := by
    conv => lhs; rw [ex, ed0]
    rw [each_app lt]; rfl
  have pm : ∀ e, List.Perm (.top a xs :: (each s (xs.take k) (ds.take k) ++ .ow s x e :: each s (xs.drop (k + 1)) (ds.drop (k + 1)) ++ L)) (.ow s x e :: .top a xs :: ((each s (xs.take k) (ds.take k) ++ each s (xs.drop (k + 1)) (ds.drop (k + 1))) ++ L)) := fun e => by
    refine List.Perm.trans (.cons _ ?_) (.swap _ _ _)
    rw [List.append_assoc, List.append_assoc]
    exact List.perm_middle
  refine ⟨each s (xs.take k) (ds.take k) ++ each s (xs.drop (k + 1)) (ds.drop (k + 1)), ?_, fun H' e R' => ?_⟩
  · rw [key0] at R
    exact R.perm (pm d)
  · rw [key e]
    exact R'.perm (pm e).symm
end
/-! ### comprehensions -/
section
variable {K : PySem.W.Frag} {H : Hp} {L : List It} {a p : Addr} {xs : List V} {σ : L2.St} {g : TG} {tt : TT} {te : TE} {vs : List Nat} {Qd : Hp → Prop} {lo : Int} {n : Nat}
theorem lco_fin {s : Own} {ds : List PyData} {d : PyData} {L' : List It} {y : V} {H4 : Hp} {W : Hp → Prop} (R : Rp K H4 (.ow s y d :: .ow (.li s) (.ref p) (.list ds) :: L')) (z : ds.length < 100000) (k : ∀ H', Rp K H' (.ow (.li s) (.ref p) (.list (ds ++ [d])) :: L') → W H') : ∃ acc, H4 p = some (.lst acc) ∧ acc.length < sizeLine ∧ W (upd H4 p (.lst (acc ++ [y]))) := by
  obtain ⟨acc, e, l, R2⟩ := R.app
  exact ⟨acc, e, sz_lt (by omega), k _ R2⟩
theorem lco_list (s : Own) (Pv : Nat → List PyData → List It → Prop) (R : Rp K H L) (nL : H p = none) (h0 : Pv 0 [] L) (sz : xs.length < 100000)
    (hl : ∀ i ds L X H', Pv i ds L → Rp K H' (X :: L) → SqL K H' a xs)
    (turn : ∀ i x ds L X H', xs[i]? = some x → Pv i ds L → Rp K H' (X :: L) → ∀ (Qy : VK) (Qn : Hp → Prop), (∀ y d L' H4, Pv (i + 1) (ds ++ [d]) L' → Rp K H4 (.ow s y d :: X :: L') → Qy y H4) → (∀ L' H4, Pv (i + 1) ds L' → Rp K H4 (X :: L') → Qn H4) →
      g x (wipe σ vs) H' fun σ2 H2 => wipe σ2 vs = wipe σ vs ∧ tt σ2 H2 fun b H3 => if b = true then te σ2 H3 Qy else Qn H3)
    (done : ∀ ds L H', Pv xs.length ds L → Rp K H' (.ow (.li s) (.ref p) (.list ds) :: L) → Qd H') : LoopC (Itl K a) g tt te vs p σ Qd H := by
  refine lcl_list (K := K) (a := a) (xs := xs) (fun i H' => ∃ ds L, Pv i ds L ∧ ds.length ≤ i ∧ Rp K H' (.ow (.li s) (.ref p) (.list ds) :: L)) ⟨[], L, h0, Nat.zero_le _, R.mkL0 s nL⟩ (fun i H' _ ⟨ds, L, h, _, R⟩ => hl i ds L _ H' h R) ?_ (fun H' ⟨ds, L, h, _, R⟩ => done ds L H' h R)
  rintro i x H' hx ⟨ds, L, h, z, R⟩
  have hi : i < xs.length := (List.getElem?_eq_some_iff.mp hx).1
  exact turn i x ds L _ H' hx h R (fun y H4 => ∃ acc, H4 p = some (.lst acc) ∧ acc.length < sizeLine ∧ ∃ ds L, Pv (i + 1) ds L ∧ ds.length ≤ i + 1 ∧ Rp K (upd H4 p (.lst (acc ++ [y]))) (.ow (.li s) (.ref p) (.list ds) :: L)) _
    (fun y d L' H4 h' R' => lco_fin (W := fun H' => ∃ ds L, Pv (i + 1) ds L ∧ ds.length ≤ i + 1 ∧ Rp K H' (.ow (.li s) (.ref p) (.list ds) :: L)) R' (by omega) fun H' R'' => ⟨_, _, h', by rw [List.length_append]; exact Nat.add_le_add_right z 1, R''⟩) (fun L' H4 h' R' => ⟨ds, L', h', by omega, R'⟩)
theorem lco_tup (s : Own) (Pv : Nat → List PyData → List It → Prop) (R : Rp K H L) (nL : H p = none) (h0 : Pv 0 [] L) (sz : xs.length < 100000)
    (hl : ∀ i ds L X H', Pv i ds L → Rp K H' (X :: L) → SqT K H' a xs)
    (turn : ∀ i x ds L X H', xs[i]? = some x → Pv i ds L → Rp K H' (X :: L) → ∀ (Qy : VK) (Qn : Hp → Prop), (∀ y d L' H4, Pv (i + 1) (ds ++ [d]) L' → Rp K H4 (.ow s y d :: X :: L') → Qy y H4) → (∀ L' H4, Pv (i + 1) ds L' → Rp K H4 (X :: L') → Qn H4) →
      g x (wipe σ vs) H' fun σ2 H2 => wipe σ2 vs = wipe σ vs ∧ tt σ2 H2 fun b H3 => if b = true then te σ2 H3 Qy else Qn H3)
    (done : ∀ ds L H', Pv xs.length ds L → Rp K H' (.ow (.li s) (.ref p) (.list ds) :: L) → Qd H') : LoopC (Itt K a) g tt te vs p σ Qd H := by
  refine lcl_tup (K := K) (a := a) (xs := xs) (fun i H' => ∃ ds L, Pv i ds L ∧ ds.length ≤ i ∧ Rp K H' (.ow (.li s) (.ref p) (.list ds) :: L)) ⟨[], L, h0, Nat.zero_le _, R.mkL0 s nL⟩ (fun i H' _ ⟨ds, L, h, _, R⟩ => hl i ds L _ H' h R) ?_ (fun H' ⟨ds, L, h, _, R⟩ => done ds L H' h R)
  rintro i x H' hx ⟨ds, L, h, z, R⟩
  have hi : i < xs.length := (List.getElem?_eq_some_iff.mp hx).1
  exact turn i x ds L _ H' hx h R (fun y H4 => ∃ acc, H4 p = some (.lst acc) ∧ acc.length < sizeLine ∧ ∃ ds L, Pv (i + 1) ds L ∧ ds.length ≤ i + 1 ∧ Rp K (upd H4 p (.lst (acc ++ [y]))) (.ow (.li s) (.ref p) (.list ds) :: L)) _
    (fun y d L' H4 h' R' => lco_fin (W := fun H' => ∃ ds L, Pv (i + 1) ds L ∧ ds.length ≤ i + 1 ∧ Rp K H' (.ow (.li s) (.ref p) (.list ds) :: L)) R' (by omega) fun H' R'' => ⟨_, _, h', by rw [List.length_append]; exact Nat.add_le_add_right z 1, R''⟩) (fun L' H4 h' R' => ⟨ds, L', h', by omega, R'⟩)
theorem lco_rangeC {st : Int} (s : Own) (Pv : Nat → List PyData → List It → Prop) (R : Rp K H L) (nL : H p = none) (h0 : Pv 0 [] L) (sz : n < 100000)
    (turn : ∀ (i : Nat) ds L X H', i < n → Pv i ds L → Rp K H' (X :: L) → ∀ (Qy : VK) (Qn : Hp → Prop), (∀ y d L' H4, Pv (i + 1) (ds ++ [d]) L' → Rp K H4 (.ow s y d :: X :: L') → Qy y H4) → (∀ L' H4, Pv (i + 1) ds L' → Rp K H4 (X :: L') → Qn H4) →
      g (.int (lo + (i : Nat) * st)) (wipe σ vs) H' fun σ2 H2 => wipe σ2 vs = wipe σ vs ∧ tt σ2 H2 fun b H3 => if b = true then te σ2 H3 Qy else Qn H3)
    (done : ∀ ds L H', Pv n ds L → Rp K H' (.ow (.li s) (.ref p) (.list ds) :: L) → Qd H') : LoopC (Itc lo st n) g tt te vs p σ Qd H := by
  refine lcl_rangeC (fun i H' => ∃ ds L, Pv i ds L ∧ ds.length ≤ i ∧ Rp K H' (.ow (.li s) (.ref p) (.list ds) :: L)) ⟨[], L, h0, Nat.zero_le _, R.mkL0 s nL⟩ ?_ (fun H' ⟨ds, L, h, _, R⟩ => done ds L H' h R)
  rintro i H' hi ⟨ds, L, h, z, R⟩
  exact turn i ds L _ H' hi h R (fun y H4 => ∃ acc, H4 p = some (.lst acc) ∧ acc.length < sizeLine ∧ ∃ ds L, Pv (i + 1) ds L ∧ ds.length ≤ i + 1 ∧ Rp K (upd H4 p (.lst (acc ++ [y]))) (.ow (.li s) (.ref p) (.list ds) :: L)) _
    (fun y d L' H4 h' R' => lco_fin (W := fun H' => ∃ ds L, Pv (i + 1) ds L ∧ ds.length ≤ i + 1 ∧ Rp K H' (.ow (.li s) (.ref p) (.list ds) :: L)) R' (by omega) fun H' R'' => ⟨_, _, h', by rw [List.length_append]; exact Nat.add_le_add_right z 1, R''⟩) (fun L' H4 h' R' => ⟨ds, L', h', by omega, R'⟩)
theorem lco_range (s : Own) (Pv : Nat → List PyData → List It → Prop) (R : Rp K H L) (nL : H p = none) (h0 : Pv 0 [] L) (sz : n < 100000)
    (turn : ∀ (i : Nat) ds L X H', i < n → Pv i ds L → Rp K H' (X :: L) → ∀ (Qy : VK) (Qn : Hp → Prop), (∀ y d L' H4, Pv (i + 1) (ds ++ [d]) L' → Rp K H4 (.ow s y d :: X :: L') → Qy y H4) → (∀ L' H4, Pv (i + 1) ds L' → Rp K H4 (X :: L') → Qn H4) →
      g (.int (lo + i)) (wipe σ vs) H' fun σ2 H2 => wipe σ2 vs = wipe σ vs ∧ tt σ2 H2 fun b H3 => if b = true then te σ2 H3 Qy else Qn H3)
    (done : ∀ ds L H', Pv n ds L → Rp K H' (.ow (.li s) (.ref p) (.list ds) :: L) → Qd H') : LoopC (Itr lo n) g tt te vs p σ Qd H := by
  refine lcl_range (fun i H' => ∃ ds L, Pv i ds L ∧ ds.length ≤ i ∧ Rp K H' (.ow (.li s) (.ref p) (.list ds) :: L)) ⟨[], L, h0, Nat.zero_le _, R.mkL0 s nL⟩ ?_ (fun H' ⟨ds, L, h, _, R⟩ => done ds L H' h R)
  rintro i H' hi ⟨ds, L, h, z, R⟩
  exact turn i ds L _ H' hi h R (fun y H4 => ∃ acc, H4 p = some (.lst acc) ∧ acc.length < sizeLine ∧ ∃ ds L, Pv (i + 1) ds L ∧ ds.length ≤ i + 1 ∧ Rp K (upd H4 p (.lst (acc ++ [y]))) (.ow (.li s) (.ref p) (.list ds) :: L)) _
    (fun y d L' H4 h' R' => lco_fin (W := fun H' => ∃ ds L, Pv (i + 1) ds L ∧ ds.length ≤ i + 1 ∧ Rp K H' (.ow (.li s) (.ref p) (.list ds) :: L)) R' (by omega) fun H' R'' => ⟨_, _, h', by rw [List.length_append]; exact Nat.add_le_add_right z 1, R''⟩) (fun L' H4 h' R' => ⟨ds, L', h', by omega, R'⟩)
/-- one that is a map, over a range -/
theorem lcm_range (s : Own) (e : Nat → PyData) (R : Rp K H L) (nL : H p = none) (sz : n < 100000)
    (turn : ∀ (i : Nat) X H', i < n → Rp K H' (X :: L) → ∀ Qy : VK, (∀ y H4, Rp K H4 (.ow s y (e i) :: X :: L) → Qy y H4) → g (.int (lo + i)) (wipe σ vs) H' fun σ2 H2 => wipe σ2 vs = wipe σ vs ∧ te σ2 H2 Qy)
    (done : ∀ H', Rp K H' (.ow (.li s) (.ref p) (.list ((List.range n).map e)) :: L) → Qd H') : LoopC (Itr lo n) g tYes te vs p σ Qd H := by
  refine lco_range s (fun i ds L' => ds = (List.range i).map e ∧ L' = L) R nL ⟨rfl, rfl⟩ sz ?_ (fun ds L' H' ⟨e1, e2⟩ R' => by subst e1 e2; exact done H' R')
  rintro i ds L' X H' hi ⟨rfl, rfl⟩ R Qy Qn q1 _
  exact turn i X H' hi R Qy fun y H4 R4 => q1 y _ _ H4 ⟨(range_snoc e i).symm, rfl⟩ R4
theorem range_filter_snoc (f : Nat → Bool) (e : Nat → PyData) (i : Nat) : ((List.range (i + 1)).filter f).map e = if f i then ((List.range i).filter f).map e ++ [e i] else ((List.range i).filter f).map e := by
  rw [List.range_succ, List.filter_append, List.map_append]
  by_cases h : f i
  · simp [h]
  · simp [h]
/-- one that chooses and maps, over a range -/
theorem lcf_range (s : Own) (f : Nat → Bool) (e : Nat → PyData) (R : Rp K H L) (nL : H p = none) (sz : n < 100000)
    (turn : ∀ (i : Nat) X H', i < n → Rp K H' (X :: L) → ∀ (Qy : VK) (Qn : Hp → Prop), (f i = true → ∀ y H4, Rp K H4 (.ow s y (e i) :: X :: L) → Qy y H4) → (f i = false → ∀ H4, Rp K H4 (X :: L) → Qn H4) → g (.int (lo + i)) (wipe σ vs) H' fun σ2 H2 => wipe σ2 vs = wipe σ vs ∧ tt σ2 H2 fun b H3 => if b = true then te σ2 H3 Qy else Qn H3)
    (done : ∀ H', Rp K H' (.ow (.li s) (.ref p) (.list (((List.range n).filter f).map e)) :: L) → Qd H') : LoopC (Itr lo n) g tt te vs p σ Qd H := by
  refine lco_range s (fun i ds L' => ds = ((List.range i).filter f).map e ∧ L' = L) R nL ⟨rfl, rfl⟩ sz ?_ (fun ds L' H' ⟨e1, e2⟩ R' => by subst e1 e2; exact done H' R')
  rintro i ds L' X H' hi ⟨rfl, rfl⟩ R Qy Qn q1 q2
  exact turn i X H' hi R Qy Qn (fun hf y H4 R4 => q1 y _ _ H4 ⟨by rw [range_filter_snoc, if_pos hf], rfl⟩ R4) (fun hf H4 R4 => q2 _ H4 ⟨by rw [range_filter_snoc, if_neg (by rw [hf]; decide)], rfl⟩ R4)
theorem take_map_snoc {α β : Type} {l : List α} {i : Nat} {x : α} (e : α → β) (h : l[i]? = some x) : (l.take (i + 1)).map e = (l.take i).map e ++ [e x] := by
  rw [take_snoc h, List.map_append]; rfl
/-- one that is a map, over a shared list -/
theorem lcm_sh {ds0 : List PyData} (s : Own) (e : PyData → PyData) (R : Rp K H L) (m : It.ps (Sv K a xs ds0) ∈ L) (nL : H p = none) (sz : ds0.length < 100000)
    (turn : ∀ (i : Nat) x d X H', ds0[i]? = some d → Rp K H' (.sh x d :: X :: L) → ∀ Qy : VK, (∀ y H4, Rp K H4 (.ow s y (e d) :: X :: L) → Qy y H4) → g x (wipe σ vs) H' fun σ2 H2 => wipe σ2 vs = wipe σ vs ∧ te σ2 H2 Qy)
    (done : ∀ H', Rp K H' (.ow (.li s) (.ref p) (.list (ds0.map e)) :: L) → Qd H') : LoopC (Itl K a) g tYes te vs p σ Qd H := by
  have l : xs.length = ds0.length := DqAll.len (R.psOf m).2
  refine lco_list (xs := xs) s (fun i ds L' => ds = (ds0.take i).map e ∧ L' = L) R nL ⟨rfl, rfl⟩ (by omega) (fun i ds L' X H' ⟨_, z⟩ R' => by subst z; exact SqL.of (R'.psOf (List.mem_cons_of_mem _ m)).1) ?_ (fun ds L' H' ⟨e1, e2⟩ R' => by
    subst e1 e2; rw [l, List.take_length] at R'; exact done H' R')
  rintro i x ds L' X H' hx ⟨rfl, rfl⟩ R Qy Qn q1 _
  have hi : i < ds0.length := by rw [← l]; exact (List.getElem?_eq_some_iff.mp hx).1
  have hd : ds0[i]? = some ds0[i] := List.getElem?_eq_getElem hi
  exact turn i x _ X H' hd (R.svAt (List.mem_cons_of_mem _ m) hx hd) Qy fun y H4 R4 => q1 y _ _ H4 ⟨(take_map_snoc e hd).symm, rfl⟩ R4
/-- one that chooses and maps, over a shared list -/
theorem lcf_sh {ds0 : List PyData} (s : Own) (f : PyData → Bool) (e : PyData → PyData) (R : Rp K H L) (m : It.ps (Sv K a xs ds0) ∈ L) (nL : H p = none) (sz : ds0.length < 100000)
    (turn : ∀ (i : Nat) x d X H', ds0[i]? = some d → Rp K H' (.sh x d :: X :: L) → ∀ (Qy : VK) (Qn : Hp → Prop), (f d = true → ∀ y H4, Rp K H4 (.ow s y (e d) :: X :: L) → Qy y H4) → (f d = false → ∀ H4, Rp K H4 (X :: L) → Qn H4) → g x (wipe σ vs) H' fun σ2 H2 => wipe σ2 vs = wipe σ vs ∧ tt σ2 H2 fun b H3 => if b = true then te σ2 H3 Qy else Qn H3)
    (done : ∀ H', Rp K H' (.ow (.li s) (.ref p) (.list ((ds0.filter f).map e)) :: L) → Qd H') : LoopC (Itl K a) g tt te vs p σ Qd H := by
  have l : xs.length = ds0.length := DqAll.len (R.psOf m).2
  refine lco_list (xs := xs) s (fun i ds L' => ds = ((ds0.take i).filter f).map e ∧ L' = L) R nL ⟨rfl, rfl⟩ (by omega) (fun i ds L' X H' ⟨_, z⟩ R' => by subst z; exact SqL.of (R'.psOf (List.mem_cons_of_mem _ m)).1) ?_ (fun ds L' H' ⟨e1, e2⟩ R' => by
    subst e1 e2; rw [l, List.take_length] at R'; exact done H' R')
  rintro i x ds L' X H' hx ⟨rfl, rfl⟩ R Qy Qn q1 q2
  have hi : i < ds0.length := by rw [← l]; exact (List.getElem?_eq_some_iff.mp hx).1
  have hd : ds0[i]? = some ds0[i] := List.getElem?_eq_getElem hi
  refine turn i x _ X H' hd (R.svAt (List.mem_cons_of_mem _ m) hx hd) Qy Qn (fun hf y H4 R4 => q1 y _ _ H4 ⟨?_, rfl⟩ R4) (fun hf H4 R4 => q2 _ H4 ⟨?_, rfl⟩ R4)
  · rw [take_snoc hd, List.filter_append, List.map_append, List.filter_cons_of_pos hf]; rfl
  · rw [take_snoc hd, List.filter_append, List.map_append, List.filter_cons_of_neg (by rw [hf]; decide), List.filter_nil, List.map_nil, List.append_nil]
end
/-! ### lists of ints, each its own, as data -/
abbrev LD (cs : List (List Int)) : PyData := .list (cs.map IL)
theorem Sh.ld {cs : List (List Int)} : Sh 2 (LD cs) := Sh.lst fun d h => by
  obtain ⟨x, _, rfl⟩ := List.mem_map.mp h
  exact Sh.il
theorem lfree_ld {cs : List (List Int)} : lfree (.li (.li .lf)) (LD cs) := fun d hd => by
  obtain ⟨n, _, rfl⟩ := List.mem_map.mp hd
  exact lfree_il
section
variable {K : PySem.W.Frag} {H H' : Hp}
def intPs (K : PySem.W.Frag) (ns : List Int) : List Im := ns.map fun i => .ps fun H => Dq K H (.int i) (.int i)
theorem ints3 : ∀ ns : List Int, All3 (Unf K .lf) (ns.map V.int) (ns.map PyData.int) (intPs K ns)
  | [] => .nil
  | n :: ns => .cons (p := [_]) rfl (ints3 ns)
theorem tops_ints : ∀ ns : List Int, tops (intPs K ns) = []
  | [] => rfl
  | n :: ns => tops_ints ns
theorem lls_un {O : Addr → Prop} : ∀ {rs : List Addr} {cs : List (List Int)}, LLs H' rs cs → ∃ qs, All3 (Unf K (.li .lf)) (rs.map V.ref) (cs.map IL) qs ∧ tops qs = rs ∧ ∀ m ∈ qs, m.ok H' O
  | [], [], _ => ⟨[], .nil, rfl, fun _ h => by cases h⟩
  | r :: rs, c :: cs, ⟨h, t⟩ => by
    obtain ⟨qs, h1, h2, h3⟩ := lls_un (O := O) t
    refine ⟨(.top r (c.map V.int) :: intPs K c) ++ qs, .cons ⟨r, _, _, _, rfl, rfl, rfl, ints3 c⟩ h1, ?_, fun m hm => ?_⟩
    · rw [tops_app, tops_top, tops_ints, h2]; rfl
    · rcases List.mem_append.mp hm with hm | hm
      · rcases List.mem_cons.mp hm with rfl | hm
        · exact h
        · obtain ⟨i, _, rfl⟩ := List.mem_map.mp hm
          exact ⟨fun _ _ _ _ => .int i, .int i⟩
      · exact h3 m hm
  | [], _ :: _, h => h.elim
  | _ :: _, [], h => h.elim
theorem nw_lls {p : Addr} {rs : List Addr} {cs : List (List Int)} (np : H p = none) (npr : p ∉ rs) (nd : rs.Nodup) (fr : ∀ r ∈ rs, H r = none) (e : H' p = some (.lst (rs.map V.ref))) (ll : LLs H' rs cs) : Nw K H H' (.li (.li .lf)) (.ref p) (LD cs) := by
  obtain ⟨qs, h1, h2, h3⟩ := lls_un (K := K) (O := fun _ => True) ll
  have t : tops (.top p (rs.map V.ref) :: qs) = p :: rs := by rw [tops_top, h2]
  have u : Unf K (.li (.li .lf)) (.ref p) (LD cs) (.top p (rs.map V.ref) :: qs) := ⟨p, _, _, qs, rfl, rfl, rfl, h1⟩
  refine ⟨.top p (rs.map V.ref) :: qs, u, ⟨by rw [t]; exact List.nodup_cons.mpr ⟨npr, nd⟩, fun F hF => (unf_nofr _ u F hF).elim, fun m hm => ?_, by rw [unf_obs u]; exact List.nodup_nil⟩, fun a ha => ?_⟩
  · refine Im.ok_less (O := fun _ => True) (fun _ _ => trivial) ?_
    rcases List.mem_cons.mp hm with rfl | hm
    · exact e
    · exact h3 m hm
  · rw [t] at ha
    rcases List.mem_cons.mp ha with rfl | ha
    · exact np
    · exact fr a ha
end
/-! ### a list whose first ones are changed -/
def mixM {α : Type} (f : α → α) (i : Nat) (C : List α) : List α := (C.take i).map f ++ C.drop i
section
variable {α : Type} {f : α → α} {C : List α} {i : Nat} {c : α}
theorem mixM_zero : mixM f 0 C = C := by unfold mixM; simp
theorem mixM_all : mixM f C.length C = C.map f := by unfold mixM; simp
theorem mixM_len : (mixM f i C).length = C.length := by unfold mixM; simp; omega
theorem mixM_at (h : C[i]? = some c) : (mixM f i C)[i]? = some c := by
  have hi := (List.getElem?_eq_some_iff.mp h).1
  unfold mixM
  rw [List.getElem?_append_right (by simp; omega)]
  simp only [List.length_map, List.length_take, List.getElem?_drop]
  rw [Nat.min_eq_left (by omega), Nat.sub_self, Nat.add_zero]; exact h
theorem mixM_set (h : C[i]? = some c) : (mixM f i C).set i (f c) = mixM f (i + 1) C := by
  have hi := (List.getElem?_eq_some_iff.mp h).1
  have e := (List.getElem?_eq_some_iff.mp h).2
  unfold mixM
  rw [List.set_append_right _ _ (by simp; omega), take_snoc h, List.map_append, List.append_assoc]
  congr 1
  simp only [List.length_map, List.length_take]
  rw [Nat.min_eq_left (by omega), Nat.sub_self, List.drop_eq_getElem_cons hi, List.set_cons_zero]; rfl
end
section
variable {K : PySem.W.Frag} {H H' : Hp} {L : List It} {a : Addr} {xs : List V} {ds : List PyData} {s : Own} {x : V} {d : PyData} {i : Nat}
theorem each_mem : ∀ {xs : List V} {ds : List PyData} {i : Nat}, xs[i]? = some x → ds[i]? = some d → It.ow s x d ∈ each s xs ds
  | _ :: _, _ :: _, 0, h, g => by cases h; cases g; exact .head _
  | _ :: _, _ :: _, i + 1, h, g => .tail _ (each_mem (i := i) h g)
  | [], _, _, h, _ => by simp at h
  | _ :: _, [], _, _, g => by simp at g
theorem Rp.own1 (e : H a = some (.lst xs)) : Rp K H [.top a xs] := ⟨_, .cons (p := [_]) rfl .nil, ⟨by show [a].Nodup; simp, fun F hF => (by cases List.mem_singleton.mp hF), fun m hm => by cases List.mem_singleton.mp hm; exact e, List.nodup_nil⟩⟩
end
/-! ### in, sorted, slices, decks and pools, side by side -/
section
variable {K : PySem.W.Frag} {H H' : Hp} {Q : VK} {L L' L1 L2 A B : List It} {a b p : Addr} {xs ys : List V} {o : HO} {v x y z : V} {d e f : PyData} {ds es : List PyData} {s s1 s2 s3 : Own} {i j : Int} {k n : Nat} {ns ms : List Int}
theorem inV_int : inV (.int i) (ns.map V.int) = decide (i ∈ ns) := by
  unfold inV
  induction ns with
  | nil => rfl
  | cons n ns ih =>
    rw [List.map_cons, List.any_cons, ih, Bool.eq_iff_iff]
    simp only [eqV, Bool.or_eq_true, beq_iff_eq, decide_eq_true_eq, List.mem_cons]
    constructor <;> rintro (h | h) <;> first | exact .inl h.symm | exact .inr h
theorem flat_ints : (ns.map V.int).all flatV = true := by
  rw [List.all_map]; exact List.all_eq_true.mpr fun _ _ => rfl
theorem g_inI (h : SqL K H a (ns.map V.int)) (q : Q (.bl (decide (i ∈ ns))) H) : rIn K false (.int i) (.ref a) H Q := ⟨a, _, rfl, .inl h, rfl, flat_ints, by rw [inV_int]; exact q⟩
theorem g_niI (h : SqL K H a (ns.map V.int)) (q : Q (.bl (!decide (i ∈ ns))) H) : rIn K true (.int i) (.ref a) H Q := ⟨a, _, rfl, .inl h, rfl, flat_ints, by rw [inV_int]; exact q⟩
theorem g_inR (R : Rp K H L) (h : It.ow s (.ref a) (IL ns) ∈ L) (q : Q (.bl (decide (i ∈ ns))) H) : rIn K false (.int i) (.ref a) H Q := g_inI (R.ilS h) q
theorem g_niR (R : Rp K H L) (h : It.ow s (.ref a) (IL ns) ∈ L) (q : Q (.bl (!decide (i ∈ ns))) H) : rIn K true (.int i) (.ref a) H Q := g_niI (R.ilS h) q
theorem g_inDR (R : Rp K H L) (h : It.ow s x d ∈ L) (h2 : It.ow s1 y (.list ds) ∈ L) (c1 : SeqAt.shaped d = true) (c2 : SeqAt.shaped (.list ds) = true) (q : Q (.bl (ds.any fun z => PyData.eqv z d)) H) : rInD K x y H Q := ⟨d, ds, dq_dp _ _ (R.dpOf h), dq_dp _ _ (R.dpOf h2), c1, c2, q⟩
theorem g_niDR (R : Rp K H L) (h : It.ow s x d ∈ L) (h2 : It.ow s1 y (.list ds) ∈ L) (c1 : SeqAt.shaped d = true) (c2 : SeqAt.shaped (.list ds) = true) (q : Q (.bl (!ds.any fun z => PyData.eqv z d)) H) : rNotInD K x y H Q := ⟨d, ds, dq_dp _ _ (R.dpOf h), dq_dp _ _ (R.dpOf h2), c1, c2, q⟩
theorem eqvAll_ints : ∀ xs ys : List Int, PyData.eqvAll (xs.map PyData.int) (ys.map PyData.int) = decide (xs = ys)
  | [], [] => rfl
  | [], _ :: _ => rfl
  | _ :: _, [] => rfl
  | x :: xs, y :: ys => by
    rw [List.map_cons, List.map_cons, PyData.eqvAll, eqvAll_ints xs ys, Bool.eq_iff_iff]
    simp [PyData.eqv]
theorem IL_eqv (xs ys : List Int) : PyData.eqv (IL xs) (IL ys) = decide (xs = ys) := by
  unfold IL; rw [PyData.eqv]; exact eqvAll_ints xs ys
theorem IT_eqv (xs ys : List Int) : PyData.eqv (.tuple (xs.map PyData.int)) (.tuple (ys.map PyData.int)) = decide (xs = ys) := by
  rw [PyData.eqv]; exact eqvAll_ints xs ys
theorem any_IL (cs : List (List Int)) (c : List Int) : ((cs.map IL).any fun z => PyData.eqv z (IL c)) = decide (c ∈ cs) := by
  rw [List.any_map, Bool.eq_iff_iff, List.any_eq_true, decide_eq_true_eq]
  constructor
  · rintro ⟨x, hx, e⟩
    rw [Function.comp_apply, IL_eqv, decide_eq_true_eq] at e
    exact e ▸ hx
  · intro h
    exact ⟨c, h, by rw [Function.comp_apply, IL_eqv]; exact decide_eq_true rfl⟩
/-- weighted cuts as data -/
abbrev CD (w : List Int × Rat) : PyData := .tuple [IL w.1, FD w.2]
abbrev c0 : List Int × Rat := ([], 0)
abbrev WD (ws : List (List Int × Rat)) : PyData := .list (ws.map CD)
/-- its ownership: each cut a list of one's own -/
abbrev oW : Own := .li (.t2 (.li .lf) .lf)
abbrev oT : Own := .li (.li .lf)
abbrev oI : Own := .li .lf
theorem Sh.cd {w : List Int × Rat} : Sh 2 (CD w) := Sh.tup fun d h => by
  simp only [List.mem_cons, List.not_mem_nil, or_false] at h
  rcases h with rfl | rfl
  · exact Sh.il
  · exact Sh.fd
theorem Sh.wd {ws : List (List Int × Rat)} : Sh 3 (WD ws) := Sh.lst fun d h => by
  obtain ⟨x, _, rfl⟩ := List.mem_map.mp h
  exact Sh.cd
theorem lfree_cd {w : List Int × Rat} : lfree (.t2 (.li .lf) .lf) (CD w) := ⟨lfree_il, rfl⟩
theorem lfree_wd {ws : List (List Int × Rat)} : lfree oW (WD ws) := fun d hd => by
  obtain ⟨n, _, rfl⟩ := List.mem_map.mp hd
  exact lfree_cd
theorem CD_eqv (w u : List Int × Rat) : PyData.eqv (CD w) (CD u) = decide (w = u) := by
  rw [PyData.eqv, PyData.eqvAll, PyData.eqvAll, PyData.eqvAll, IL_eqv, FD_eqv, Bool.and_true, Bool.eq_iff_iff]
  simp only [Bool.and_eq_true, decide_eq_true_eq]
  exact ⟨fun ⟨a, b⟩ => Prod.ext a b, fun e => by subst e; exact ⟨rfl, rfl⟩⟩
theorem eqvAll_map {α : Type} [DecidableEq α] (f : α → PyData) (h : ∀ x y, PyData.eqv (f x) (f y) = decide (x = y)) : ∀ xs ys : List α, PyData.eqvAll (xs.map f) (ys.map f) = decide (xs = ys)
  | [], [] => rfl
  | [], _ :: _ => rfl
  | _ :: _, [] => rfl
  | x :: xs, y :: ys => by
    rw [List.map_cons, List.map_cons, PyData.eqvAll, eqvAll_map f h xs ys, h, Bool.eq_iff_iff]
    simp
theorem LM_eqv {α : Type} [DecidableEq α] (f : α → PyData) (h : ∀ x y, PyData.eqv (f x) (f y) = decide (x = y)) (xs ys : List α) : PyData.eqv (.list (xs.map f)) (.list (ys.map f)) = decide (xs = ys) := by
  rw [PyData.eqv]; exact eqvAll_map f h xs ys
theorem any_map_eqv {α : Type} [DecidableEq α] (f : α → PyData) (h : ∀ x y, PyData.eqv (f x) (f y) = decide (x = y)) (cs : List α) (c : α) : ((cs.map f).any fun z => PyData.eqv z (f c)) = decide (c ∈ cs) := by
  rw [List.any_map, Bool.eq_iff_iff, List.any_eq_true, decide_eq_true_eq]
  constructor
  · rintro ⟨x, hx, e⟩
    rw [Function.comp_apply, h, decide_eq_true_eq] at e
    exact e ▸ hx
  · intro hc
    exact ⟨c, hc, by rw [Function.comp_apply, h]; exact decide_eq_true rfl⟩
/-! sorted -/
theorem each_zip (zs : List (V × PyData)) : each s (zs.map Prod.fst) (zs.map Prod.snd) = zs.map fun z => It.ow s z.1 z.2 := by
  unfold each
  induction zs with
  | nil => rfl
  | cons z zs ih => rw [List.map_cons, List.map_cons, List.zipWith_cons_cons, ih]; rfl
theorem dl_pair (zs : List (V × PyData)) : (zs.mergeSort (PySem.W.dataLe false Prod.snd)).Pairwise (fun a b => PySem.W.dataLe false Prod.snd a b = true) := PySem.W.sort_pairwise (PySem.W.sortLe_total _ _ _) zs
theorem sortD_pair (xs : List V) (ds : List PyData) : ((sortD xs ds).map Prod.snd).Pairwise fun a b => PySem.W.dataLe false id a b = true := List.pairwise_map.mpr (dl_pair (xs.zip ds))
theorem sortD_dperm {xs : List V} {ds : List PyData} (l : xs.length = ds.length) : ((sortD xs ds).map Prod.snd).Perm ds := by
  have := (sortD_perm xs ds).map Prod.snd
  rwa [zip_snd l] at this
theorem each_sort {xs : List V} {ds : List PyData} (l : xs.length = ds.length) : (each s xs ds).Perm (each s ((sortD xs ds).map Prod.fst) ((sortD xs ds).map Prod.snd)) := by
  rw [each_zip]
  have e : each s xs ds = (xs.zip ds).map fun z => It.ow s z.1 z.2 := by
    have := each_zip (s := s) (xs.zip ds)
    rwa [zip_fst l, zip_snd l] at this
  rw [e]
  exact ((sortD_perm xs ds).map _).symm
/-- sorted of an own list: its items go over into the new one -/
theorem g_sortR (R : Rp K H L) (h : Sel (.ow (.li s) (.ref a) (.list ds)) L L1) (hal : PySem.W.AllAlike ds) (hs : PySem.W.Sortable ds) (hd : ∀ d ∈ ds, d.depth ≤ 50)
    (q : ∀ c H' ds', ds'.Perm ds → ds'.Pairwise (fun a b => PySem.W.dataLe false id a b = true) → Rp K H' (.ow (.li s) (.ref c) (.list ds') :: L1) → Q (.ref c) H') : rSortedD K [.ref a] H Q := by
  have R1 := R.sel h
  obtain ⟨xs0, e0, d0⟩ := R1.raw mem_here
  obtain ⟨a', xs, e, l, R2⟩ := R1.take
  cases e
  have e1 := R2.topAt
  obtain rfl : xs0 = xs := by rw [e0] at e1; cases e1; rfl
  refine ⟨a, xs0, ds, rfl, SqL.of e0, dqAll_dp _ _ d0, hal, hs, hd, fun p np => q p _ _ (sortD_dperm l) (sortD_pair xs0 ds) (Rp.mkL (R2.tail.perm ((each_sort l).append_right _)) (by rw [List.length_map, List.length_map]) np)⟩
theorem un_sh {ps : List Im} : ∀ {xs : List V} {ds : List PyData}, Rf H ps → DqAll K (wo H (ows ps)) xs ds → ∃ qs, UnIs K (each .lf xs ds) qs ∧ Rf H (qs ++ ps) ∧ ∀ a, ows (qs ++ ps) a → ows ps a
  | _, _, r, .nil => ⟨[], .nil, r, fun _ h => h⟩
  | _, _, r, .cons h1 h2 => by
    obtain ⟨qs, u, r', t⟩ := un_sh r h2
    exact ⟨_, .cons (p := [_]) rfl u, r'.addps mono_dp (mono_dp _ _ (wo_less t) h1), fun a ha => t a (ows_ps ha)⟩
/-- a shared list's items, shared -/
theorem Rp.shAll (R : Rp K H L) (h : It.sh v (.list ds) ∈ L) : ∃ a xs, v = .ref a ∧ xs.length = ds.length ∧ H a = some (.lst xs) ∧ Rp K H (each .lf xs ds ++ L) := by
  obtain ⟨L', h'⟩ := sel_of_mem h
  obtain ⟨_, _, h1, t, r⟩ := (R.shM h).inv
  cases h1
  have k := Rf.psK r
  obtain ⟨a, xs, rfl, h3, h4⟩ := Dq.lstI k.2
  obtain ⟨qs, u, r', _⟩ := un_sh (K := K) r.tail h4
  exact ⟨a, xs, rfl, DqAll.len h4, wo_same _ _ h3, _, u.app t, r'⟩
/-- sorted of a shared list -/
theorem g_sortS (R : Rp K H L) (h : It.sh (.ref a) (.list ds) ∈ L) (hal : PySem.W.AllAlike ds) (hs : PySem.W.Sortable ds) (hd : ∀ d ∈ ds, d.depth ≤ 50)
    (q : ∀ c H' ds', ds'.Perm ds → ds'.Pairwise (fun a b => PySem.W.dataLe false id a b = true) → Rp K H' (.ow (.li .lf) (.ref c) (.list ds') :: L) → Q (.ref c) H') : rSortedD K [.ref a] H Q := by
  obtain ⟨xs0, e0, d0⟩ := R.raw h
  obtain ⟨a', xs, e, l, e1, R2⟩ := R.shAll h
  cases e
  obtain rfl : xs0 = xs := by rw [e0] at e1; cases e1; rfl
  refine ⟨a, xs0, ds, rfl, SqL.of e0, dqAll_dp _ _ d0, hal, hs, hd, fun p np => q p _ _ (sortD_dperm l) (sortD_pair xs0 ds) (Rp.mkL (R2.perm ((each_sort l).append_right _)) (by rw [List.length_map, List.length_map]) np)⟩
/-- order of weighted cuts -/
theorem dl_cd {w u : List Int × Rat} (h : PySem.W.dataLe false id (CD w) (CD u) = true) : w.1 ≤ u.1 := by
  have h : (!PySem.W.rowLt [IL u.1, FD u.2] [IL w.1, FD w.2]) = true := h
  by_cases e : u.1 = w.1
  · rw [e]; exact List.le_refl _
  · unfold PySem.W.rowLt at h
    rw [PySem.W.dataLt_all_no (by exact PySem.W.alike_ints u.1 w.1) (by rw [IL_eqv, decide_eq_false e])] at h
    have h2 : PySem.W.dataLe false id (IL w.1) (IL u.1) = true := h
    have := congrFun (congrFun (PySem.W.dataLe_rows (fun x : List Int => x)) w.1) u.1
    have h3 : decide (w.1 ≤ u.1) = true := this.symm.trans h2
    exact of_decide_eq_true h3
theorem dl_cd_lt {w u : List Int × Rat} (h : w.1 < u.1) : PySem.W.dataLe false id (CD w) (CD u) = true := by
  show (!PySem.W.rowLt [IL u.1, FD u.2] [IL w.1, FD w.2]) = true
  unfold PySem.W.rowLt
  rw [PySem.W.dataLt_all_no (by exact PySem.W.alike_ints u.1 w.1) (by rw [IL_eqv, decide_eq_false (fun e => by rw [e] at h; exact List.lt_irrefl _ h)])]
  exact dataLe_il h
theorem il_alike (cs : List (List Int)) : PySem.W.AllAlike (cs.map IL) := cuts_alike
theorem il_sortable (cs : List (List Int)) : PySem.W.Sortable (cs.map IL) := cuts_sortable
theorem wd_alike (ws : List (List Int × Rat)) : PySem.W.AllAlike (ws.map CD) := PySem.W.AllAlike.of fun b b' => by
  show PySem.W.alikeAll [IL b.1, FD b.2] [IL b'.1, FD b'.2] = true
  rw [PySem.W.alikeAll, PySem.W.alikeAll, PySem.W.alikeAll, Bool.and_true]
  rw [show PySem.W.alike (IL b.1) (IL b'.1) = true from PySem.W.alike_ints b.1 b'.1]
  rfl
theorem wd_sortable (ws : List (List Int × Rat)) : PySem.W.Sortable (ws.map CD) := PySem.W.Sortable.tuples fun b => ⟨_, _, rfl⟩
theorem map_perm_inv0 {α : Type} (f : α → PyData) {l1 l2 : List PyData} (h : l1.Perm l2) : ∀ ws : List α, l2 = ws.map f → ∃ us : List α, l1 = us.map f ∧ us.Perm ws := by
  induction h with
  | nil => intro ws e; exact ⟨[], rfl, by rw [List.map_eq_nil_iff.mp e.symm]⟩
  | cons x _ ih =>
    intro ws e
    cases ws with
    | nil => cases e
    | cons w ws =>
      rw [List.map_cons] at e
      cases e
      obtain ⟨us, e, p⟩ := ih ws rfl
      exact ⟨w :: us, by rw [e, List.map_cons], p.cons w⟩
  | swap x y l =>
    intro ws e
    match ws, e with
    | w1 :: w2 :: ws, e =>
      rw [List.map_cons, List.map_cons] at e
      cases e
      exact ⟨w2 :: w1 :: ws, rfl, .swap _ _ _⟩
  | trans _ _ ih1 ih2 =>
    intro ws e
    obtain ⟨us, e1, p1⟩ := ih2 ws e
    obtain ⟨vs, e2, p2⟩ := ih1 us e1
    exact ⟨vs, e2, p2.trans p1⟩
theorem map_perm_inv {α : Type} (f : α → PyData) {ds' : List PyData} {ws : List α} (h : ds'.Perm (ws.map f)) : ∃ us : List α, ds' = us.map f ∧ us.Perm ws := map_perm_inv0 f h ws rfl
theorem le_of_il {a b : List Int} (h : PySem.W.dataLe false id (IL a) (IL b) = true) : a ≤ b := by
  have := congrFun (congrFun (PySem.W.dataLe_rows (fun x : List Int => x)) a) b
  exact of_decide_eq_true (this.symm.trans h)
end
/-! decks, pools -/
def DeckP (xs : List V) : Prop := ∃ a : Int, xs = [.int a]
def PoolP (n : Nat) (xs : List V) : Prop := ∃ a b c : Int, xs = [.int a, .int b, .int c] ∧ 0 ≤ c ∧ c ≤ n
section
variable {K : PySem.W.Frag} {H H' : Hp} {Q : VK} {L L1 : List It} {p : Addr} {E : XK} {m : Int} {n : Nat}
theorem deck_of {xs : List V} (e : H p = some (.lst xs)) (h : DeckP xs) : Deck H p := by
  obtain ⟨a, rfl⟩ := h
  exact ⟨a, e⟩
theorem pool_of {xs : List V} (e : H p = some (.lst xs)) (h : PoolP n xs) : Pool n H p := by
  obtain ⟨a, b, c, rfl, h0, h1⟩ := h
  exact ⟨a, b, c, e, h0, h1⟩
theorem Rp.deck (R : Rp K H (.pr DeckP p :: L)) : Deck H p := by
  obtain ⟨xs, e, h⟩ := R.prAt
  exact deck_of e h
theorem Rp.pool (R : Rp K H (.pr (PoolP n) p :: L)) : Pool n H p := by
  obtain ⟨xs, e, h⟩ := R.prAt
  exact pool_of e h
theorem Rp.deckTo (R : Rp K H (.pr DeckP p :: L)) (b : But p H H') (h : Deck H' p) : Rp K H' (.pr DeckP p :: L) := by
  obtain ⟨a, e⟩ := h
  exact R.chgP b e ⟨a, rfl⟩
theorem Rp.poolTo {n' : Nat} (R : Rp K H (.pr (PoolP n) p :: L)) (b : But p H H') (h : Pool n' H' p) : Rp K H' (.pr (PoolP n') p :: L) := by
  obtain ⟨x, y, c, e, h0, h1⟩ := h
  exact R.chgP b e ⟨x, y, c, rfl, h0, h1⟩
/-- a draw -/
theorem g_dtakeR (R : Rp K H L) (h : Sel (.pr DeckP p) L L1) (h0 : 0 < m) (hm : m.natAbs < 2 ^ 8500) (q : ∀ r H', 0 ≤ r → r < m → Rp K H' (.pr DeckP p :: L1) → Q (.int r) H') : sp_dtake K ([.ref p, .int m] ++ []) H Q E :=
  ⟨p, m, rfl, (R.sel h).deck, h0, hm, fun r H' r0 r1 b d => q r H' r0 r1 ((R.sel h).deckTo b d)⟩
theorem g_takeR (R : Rp K H L) (h : Sel (.pr (PoolP n) p) L L1) (hn : n ≤ 2 ^ 60) (h0 : 0 < m) (hm : m.natAbs < 2 ^ 8500) (q : ∀ r H', 0 ≤ r → r < m → Rp K H' (.pr (PoolP (n + 1)) p :: L1) → Q (.int r) H') : sp_take K ([.ref p, .int m] ++ []) H Q E :=
  ⟨p, n, m, rfl, (R.sel h).pool, hn, h0, hm, fun r H' r0 r1 b d => q r H' r0 r1 ((R.sel h).poolTo b d)⟩
/-- a new one taken in -/
theorem Rp.prNew {P : List V → Prop} {xs : List V} (R : Rp K H L) (n : H p = none) (s : Same H H') (e : H' p = some (.lst xs)) (h : P xs) : Rp K H' (.pr P p :: L) := by
  obtain ⟨ps, u, r⟩ := R
  exact ⟨_, .cons (p := [.top p xs]) ⟨_, h, rfl⟩ u, Rf.join (A := [.top p xs]) ⟨by show [p].Nodup; simp, fun F hF => (by cases List.mem_singleton.mp hF), fun m hm => by cases List.mem_singleton.mp hm; exact e, List.nodup_nil⟩ r (r.same s) (fun b o _ e => s b o e) (fun a ha => by cases List.mem_singleton.mp ha; exact n) (fun F hF => by cases List.mem_singleton.mp hF) rfl fun P hP => by cases List.mem_singleton.mp hP⟩
theorem Rp.deckNew (R : Rp K H L) (n : H p = none) (s : Same H H') (h : Deck H' p) : Rp K H' (.pr DeckP p :: L) := by
  obtain ⟨a, e⟩ := h
  exact R.prNew n s e ⟨a, rfl⟩
theorem Rp.poolNew (R : Rp K H L) (np : H p = none) (s : Same H H') (h : Pool n H' p) : Rp K H' (.pr (PoolP n) p :: L) := by
  obtain ⟨a, b, c, e, h0, h1⟩ := h
  exact R.prNew np s e ⟨a, b, c, rfl, h0, h1⟩
end
/-! comprehensions of ints -/
def rg (lo : Int) (n : Nat) : List Int := (List.range n).map fun i : Nat => lo + (i : Int)
theorem rg_snoc (lo : Int) (n : Nat) : rg lo (n + 1) = rg lo n ++ [lo + n] := by
  unfold rg; rw [List.range_succ, List.map_append]; rfl
theorem mem_rg {lo : Int} {n : Nat} {z : Int} : z ∈ rg lo n ↔ lo ≤ z ∧ z < lo + n := by
  unfold rg
  rw [List.mem_map]
  constructor
  · rintro ⟨i, hi, rfl⟩
    have := List.mem_range.mp hi
    omega
  · intro h
    exact ⟨(z - lo).toNat, List.mem_range.mpr (by omega), by omega⟩
theorem rg_len {lo : Int} {n : Nat} : (rg lo n).length = n := by unfold rg; rw [List.length_map, List.length_range]
section
variable {K : PySem.W.Frag} {H : Hp} {L : List It} {a p : Addr} {σ : L2.St} {g : TG} {tt : TT} {te : TE} {vs : List Nat} {Qd : Hp → Prop} {lo : Int} {n : Nat} {ns : List Int}
theorem filter_take_snoc {f : Int → Bool} {i : Nat} {x : Int} (h : ns[i]? = some x) : (ns.take (i + 1)).filter f = if f x then (ns.take i).filter f ++ [x] else (ns.take i).filter f := by
  rw [take_snoc h, List.filter_append]
  by_cases z : f x
  · simp [z]
  · simp [z]
theorem lcfI_list (f : Int → Bool) (R : Rp K H L) (nL : H p = none) (sz : ns.length < 100000) (hl : ∀ X H', Rp K H' (X :: L) → SqL K H' a (ns.map V.int))
    (turn : ∀ (i : Nat) x X H', ns[i]? = some x → Rp K H' (X :: L) → ∀ (Qy : VK) (Qn : Hp → Prop), (f x = true → ∀ H4, Rp K H4 (X :: L) → Qy (.int x) H4) → (f x = false → ∀ H4, Rp K H4 (X :: L) → Qn H4) → g (.int x) (wipe σ vs) H' fun σ2 H2 => wipe σ2 vs = wipe σ vs ∧ tt σ2 H2 fun b H3 => if b = true then te σ2 H3 Qy else Qn H3)
    (done : ∀ H', Rp K H' (.ow (.li .lf) (.ref p) (IL (ns.filter f)) :: L) → Qd H') : LoopC (Itl K a) g tt te vs p σ Qd H := by
  refine lco_list (xs := ns.map V.int) .lf (fun i ds L' => ds = ((ns.take i).filter f).map PyData.int ∧ L' = L) R nL ⟨rfl, rfl⟩ (by rw [List.length_map]; exact sz) (fun i ds L' X H' ⟨_, z⟩ R' => by subst z; exact hl X H' R') ?_ (fun ds L' H' ⟨e1, e2⟩ R' => by
    subst e1 e2; rw [List.length_map, List.take_length] at R'; exact done H' R')
  rintro i x ds L' X H' hx ⟨rfl, rfl⟩ R Qy Qn q1 q2
  rw [List.getElem?_map] at hx
  obtain ⟨z, hz, rfl⟩ := Option.map_eq_some_iff.mp hx
  exact turn i z X H' hz R Qy Qn (fun hf H4 R4 => q1 _ (.int z) _ H4 ⟨by rw [filter_take_snoc hz, if_pos hf, List.map_append]; rfl, rfl⟩ (R4.int z)) (fun hf H4 R4 => q2 _ H4 ⟨by rw [filter_take_snoc hz, if_neg (by rw [hf]; decide)], rfl⟩ R4)
theorem lcfI_tup (f : Int → Bool) (R : Rp K H L) (nL : H p = none) (sz : ns.length < 100000) (hl : ∀ H', SqT K H' a (ns.map V.int))
    (turn : ∀ (i : Nat) x X H', ns[i]? = some x → Rp K H' (X :: L) → ∀ (Qy : VK) (Qn : Hp → Prop), (f x = true → ∀ H4, Rp K H4 (X :: L) → Qy (.int x) H4) → (f x = false → ∀ H4, Rp K H4 (X :: L) → Qn H4) → g (.int x) (wipe σ vs) H' fun σ2 H2 => wipe σ2 vs = wipe σ vs ∧ tt σ2 H2 fun b H3 => if b = true then te σ2 H3 Qy else Qn H3)
    (done : ∀ H', Rp K H' (.ow (.li .lf) (.ref p) (IL (ns.filter f)) :: L) → Qd H') : LoopC (Itt K a) g tt te vs p σ Qd H := by
  refine lco_tup (xs := ns.map V.int) .lf (fun i ds L' => ds = ((ns.take i).filter f).map PyData.int ∧ L' = L) R nL ⟨rfl, rfl⟩ (by rw [List.length_map]; exact sz) (fun i ds L' X H' _ R' => hl H') ?_ (fun ds L' H' ⟨e1, e2⟩ R' => by
    subst e1 e2; rw [List.length_map, List.take_length] at R'; exact done H' R')
  rintro i x ds L' X H' hx ⟨rfl, rfl⟩ R Qy Qn q1 q2
  rw [List.getElem?_map] at hx
  obtain ⟨z, hz, rfl⟩ := Option.map_eq_some_iff.mp hx
  exact turn i z X H' hz R Qy Qn (fun hf H4 R4 => q1 _ (.int z) _ H4 ⟨by rw [filter_take_snoc hz, if_pos hf, List.map_append]; rfl, rfl⟩ (R4.int z)) (fun hf H4 R4 => q2 _ H4 ⟨by rw [filter_take_snoc hz, if_neg (by rw [hf]; decide)], rfl⟩ R4)
theorem lcfI_range (f : Int → Bool) (R : Rp K H L) (nL : H p = none) (sz : n < 100000)
    (turn : ∀ (i : Nat) X H', i < n → Rp K H' (X :: L) → ∀ (Qy : VK) (Qn : Hp → Prop), (f (lo + i) = true → ∀ H4, Rp K H4 (X :: L) → Qy (.int (lo + i)) H4) → (f (lo + i) = false → ∀ H4, Rp K H4 (X :: L) → Qn H4) → g (.int (lo + i)) (wipe σ vs) H' fun σ2 H2 => wipe σ2 vs = wipe σ vs ∧ tt σ2 H2 fun b H3 => if b = true then te σ2 H3 Qy else Qn H3)
    (done : ∀ H', Rp K H' (.ow (.li .lf) (.ref p) (IL ((rg lo n).filter f)) :: L) → Qd H') : LoopC (Itr lo n) g tt te vs p σ Qd H := by
  refine lco_range .lf (fun i ds L' => ds = ((rg lo i).filter f).map PyData.int ∧ L' = L) R nL ⟨rfl, rfl⟩ sz ?_ (fun ds L' H' ⟨e1, e2⟩ R' => by subst e1 e2; exact done H' R')
  rintro i ds L' X H' hi ⟨rfl, rfl⟩ R Qy Qn q1 q2
  refine turn i X H' hi R Qy Qn (fun hf H4 R4 => q1 _ (.int (lo + i)) _ H4 ⟨?_, rfl⟩ (R4.int _)) (fun hf H4 R4 => q2 _ H4 ⟨?_, rfl⟩ R4)
  · rw [rg_snoc, List.filter_append, List.filter_cons_of_pos hf, List.map_append]; rfl
  · rw [rg_snoc, List.filter_append, List.filter_cons_of_neg (by rw [hf]; decide), List.filter_nil, List.append_nil]
/-- a map of a range to ints -/
theorem lcmI_range (e : Nat → Int) (R : Rp K H L) (nL : H p = none) (sz : n < 100000)
    (turn : ∀ (i : Nat) X H', i < n → Rp K H' (X :: L) → ∀ Qy : VK, (∀ H4, Rp K H4 (X :: L) → Qy (.int (e i)) H4) → g (.int (lo + i)) (wipe σ vs) H' fun σ2 H2 => wipe σ2 vs = wipe σ vs ∧ te σ2 H2 Qy)
    (done : ∀ H', Rp K H' (.ow (.li .lf) (.ref p) (IL ((List.range n).map e)) :: L) → Qd H') : LoopC (Itr lo n) g tYes te vs p σ Qd H := by
  refine lcm_range .lf (fun i => .int (e i)) R nL sz (fun i X H' hi R Qy q => turn i X H' hi R Qy fun H4 R4 => q _ H4 (R4.int _)) fun H' R => done H' ?_
  unfold IL; rw [List.map_map]; exact R
end
section
variable {K : PySem.W.Frag} {H : Hp} {Q : VK} {L : List It} {a b : Addr} {s s1 : Own} {ds : List PyData} {ns : List Int} {x : V}
/-- against a new empty list -/
theorem g_eqNR {y : V} (R : Rp K H L) (h1 : It.ow s x (.list ds) ∈ L) (h2 : It.ow s1 y (.list []) ∈ L) (c1 : SeqAt.shaped (.list ds) = true) (q : Q (.bl (decide (ds = []))) H) : rEqD K x y H Q := g_eqR R h1 h2 c1 rfl (by rw [eqv_nil]; exact q)
theorem g_neNR {y : V} (R : Rp K H L) (h1 : It.ow s x (.list ds) ∈ L) (h2 : It.ow s1 y (.list []) ∈ L) (c1 : SeqAt.shaped (.list ds) = true) (q : Q (.bl (!decide (ds = []))) H) : rNeD K x y H Q := g_neR R h1 h2 c1 rfl (by rw [eqv_nil]; exact q)
theorem g_eqNI {y : V} (R : Rp K H L) (h1 : It.ow s x (IL ns) ∈ L) (h2 : It.ow s1 y (.list []) ∈ L) (q : Q (.bl (decide (ns = []))) H) : rEqD K x y H Q := g_eqNR R h1 h2 (Sh.il.ok (by decide)) (by
  rw [show decide (ns.map PyData.int = []) = decide (ns = []) by simp]; exact q)
theorem g_neNI {y : V} (R : Rp K H L) (h1 : It.ow s x (IL ns) ∈ L) (h2 : It.ow s1 y (.list []) ∈ L) (q : Q (.bl (!decide (ns = []))) H) : rNeD K x y H Q := g_neNR R h1 h2 (Sh.il.ok (by decide)) (by
  rw [show decide (ns.map PyData.int = []) = decide (ns = []) by simp]; exact q)
end
section
variable {K : PySem.W.Frag} {H : Hp} {Q : VK} {L : List It} {a b : Addr} {s s1 : Own} {ds : List PyData} {ns : List Int} {x : V} {i : Int} {α : Type} {f : α → PyData} {ws : List α}
/-- an item of a list of things of one kind -/
theorem g_ixM (k : Nat) (d0 : α) (R : Rp K H L) (m : It.sh (.ref a) (.list (ws.map f)) ∈ L) (hi : i = (k : Nat)) (hk : k < ws.length) (q : ∀ w, Rp K H (.sh w (f (ws.getD k d0)) :: L) → Q w H) : rIxL K (.ref a) (.int i) H Q :=
  g_ixS R m hi (by rw [List.getElem?_map, List.getD_eq_getElem?_getD, List.getElem?_eq_getElem hk]; rfl) q
theorem g_ixMF (k : Nat) (d0 : α) (R : Rp K H L) (m : It.ow s (.ref a) (.list (ws.map f)) ∈ L) (hi : i = (k : Nat)) (hk : k < ws.length) (n : noL (f (ws.getD k d0)) = true) (q : ∀ w, Rp K H (.sh w (f (ws.getD k d0)) :: L) → Q w H) : rIxL K (.ref a) (.int i) H Q :=
  g_ixF R m hi (by rw [List.getElem?_map, List.getD_eq_getElem?_getD, List.getElem?_eq_getElem hk]; rfl) n q
theorem g_ixIL (k : Nat) (R : Rp K H L) (m : It.ow s (.ref a) (IL ns) ∈ L) (hi : i = (k : Nat)) (hk : k < ns.length) (q : Q (.int (ns.getD k 0)) H) : rIxL K (.ref a) (.int i) H Q :=
  g_ixI R m hi (by rw [List.getElem?_map, List.getD_eq_getElem?_getD, List.getElem?_eq_getElem hk]; rfl) q
theorem g_isiLR (R : Rp K H L) (m : It.ow s (.ref a) (.list ds) ∈ L) (q : Q (.bl true) H) : rIsi K [.ref a, .ty "list"] H Q := by
  obtain ⟨xs, h, _⟩ := R.raw m
  exact g_isiL (SqL.of h) q
theorem g_isiTR (R : Rp K H L) (m : It.ow s (.ref a) (.tuple ds) ∈ L) (q : Q (.bl true) H) : rIsi K [.ref a, .ty "tuple"] H Q := by
  obtain ⟨xs, h, _⟩ := R.rawT m
  exact g_isiT h q
theorem g_isiLTR (R : Rp K H L) (m : It.ow s (.ref a) (.list ds) ∈ L) (q : Q (.bl false) H) : rIsi K [.ref a, .ty "tuple"] H Q := by
  obtain ⟨xs, h, _⟩ := R.raw m
  exact g_isiLT (SqL.of h) q
theorem g_isiTLR (R : Rp K H L) (m : It.ow s (.ref a) (.tuple ds) ∈ L) (q : Q (.bl false) H) : rIsi K [.ref a, .ty "list"] H Q := by
  obtain ⟨xs, h, _⟩ := R.rawT m
  exact g_isiTL h q
theorem tyLR (R : Rp K H L) (m : It.ow s (.ref a) (.list ds) ∈ L) : tyV K "list" (.ref a) H := by
  obtain ⟨xs, h1, _⟩ := R.raw m
  exact ty_l h1
end
/-- a list's method: its list stands -/
theorem tBMq {K : PySem.W.Frag} {a : Addr} {H : Hp} {T : String} {B : Prop} (h : tyV K T (.ref a) H) (q : B) : tyV K T (.ref a) H ∧ B := ⟨h, q⟩
section
variable {K : PySem.W.Frag} {H H' : Hp} {Q : VK} {L L1 L2 L3 : List It} {a b p : Addr} {s s1 : Own} {d e f : PyData} {ds : List PyData} {v x y z : V} {xs : List V}
/-- a tuple of flat things -/
theorem g_tupF {G : Addr → Prop} (ds : List PyData) (R : Rp K H L) (l : xs.length ≤ 100000) (h : ∀ H' : Hp, Same H H' → DqAll K H' xs ds) (n : noLs ds = true) (k : ∀ p, H p = none → Rp K (upd H p (.tup xs)) (.sh (.ref p) (.tuple ds) :: L) → G p) : xs.length ≤ sizeLine ∧ ∀ p, H p = none → G p :=
  ⟨sz_le l, fun p np => k p np ((R.same (same_new np)).flat (.tup sqT_at (h _ (same_new np))) (by show noLs ds = true; exact n))⟩
theorem Dq.t2I (h : Dq K H v (.tuple [d, e])) : ∃ a x y, v = .ref a ∧ SqT K H a [x, y] ∧ Dq K H x d ∧ Dq K H y e := by
  cases h with
  | tup h1 h2 =>
    cases h2 with
    | cons h3 h4 =>
      cases h4 with
      | cons h5 h6 =>
        cases h6
        exact ⟨_, _, _, rfl, h1, h3, h5⟩
theorem Dq.t3I (h : Dq K H v (.tuple [d, e, f])) : ∃ a x y z, v = .ref a ∧ SqT K H a [x, y, z] ∧ Dq K H x d ∧ Dq K H y e ∧ Dq K H z f := by
  cases h with
  | tup h1 h2 =>
    cases h2 with
    | cons h3 h4 =>
      cases h4 with
      | cons h5 h6 =>
        cases h6 with
        | cons h7 h8 =>
          cases h8
          exact ⟨_, _, _, _, rfl, h1, h3, h5, h7⟩
/-- a shared pair taken apart -/
theorem Rp.sh2 (R : Rp K H L) (h : It.sh v (.tuple [d, e]) ∈ L) : ∃ a x y, v = .ref a ∧ SqT K H a [x, y] ∧ Rp K H (.sh x d :: .sh y e :: L) := by
  obtain ⟨a, xs, rfl, l, hs, R'⟩ := R.tv h
  match xs, l with
  | [x, y], _ =>
    refine ⟨a, x, y, rfl, hs, ?_⟩
    have R1 := R'.tvAt (i := 1) (x := y) (d := e) mem_here rfl rfl
    have R2 := R1.tvAt (i := 0) (x := x) (d := d) (.tail _ mem_here) rfl rfl
    exact R2.wk (.take .here (.take .here (.drop .refl)))
theorem Rp.sh3 (R : Rp K H L) (h : It.sh v (.tuple [d, e, f]) ∈ L) : ∃ a x y z, v = .ref a ∧ SqT K H a [x, y, z] ∧ Rp K H (.sh x d :: .sh y e :: .sh z f :: L) := by
  obtain ⟨a, xs, rfl, l, hs, R'⟩ := R.tv h
  match xs, l with
  | [x, y, z], _ =>
    refine ⟨a, x, y, z, rfl, hs, ?_⟩
    have R1 := R'.tvAt (i := 2) (x := z) (d := f) mem_here rfl rfl
    have R2 := R1.tvAt (i := 1) (x := y) (d := e) (.tail _ mem_here) rfl rfl
    have R3 := R2.tvAt (i := 0) (x := x) (d := d) (.tail _ (.tail _ mem_here)) rfl rfl
    exact R3.wk (.take .here (.take .here (.take .here (.drop .refl))))
theorem g_l3R {G : Addr → Prop} (R : Rp K H L) (h1 : Sel (.ow s x d) L L1) (h2 : Sel (.ow s y e) L1 L2) (h3 : Sel (.ow s z f) L2 L3) (k : ∀ c, H c = none → Rp K (upd H c (.lst [x, y, z])) (.ow (.li s) (.ref c) (.list [d, e, f]) :: L3) → G c) : [x, y, z].length ≤ sizeLine ∧ ∀ p, H p = none → G p :=
  ⟨by show 3 ≤ sizeLine; decide, fun p np => k p np (Rp.mkL (xs := [x, y, z]) (ds := [d, e, f]) ((R.sel h1).perm ((h2.perm.trans (h3.perm.cons _)).cons _)) rfl np)⟩
/-- a shared list's loop: where it stands -/
theorem Rp.svL (R : Rp K H L) (h : It.ps (Sv K a xs ds) ∈ L) : SqL K H a xs := SqL.of (R.psOf h).1
end
section
variable {K : PySem.W.Frag} {σ : L2.St} {H : Hp} {a : Addr} {g : TG} {t : TGs} {v : V} {vs : List V} {n : Nat} {Q : L2.St → Hp → Prop}
instance : St1 (gCons g t (v :: vs) σ H Q) (g v σ H fun σ1 H1 => t vs σ1 H1 Q) := ⟨fun h => ⟨v, vs, rfl, h⟩⟩
instance : St1 (gNil [] σ H Q) (Q σ H) := ⟨fun h => ⟨rfl, h⟩⟩
theorem g_gTup (h : SqT K H a vs) (l : vs.length = n) (q : t vs σ H Q) : gTup K n t (.ref a) σ H Q := ⟨a, vs, rfl, h, l, q⟩
end
section
variable {K : PySem.W.Frag} {H : Hp} {L L1 : List It} {a p : Addr} {σ : L2.St} {g : TG} {tt : TT} {te : TE} {vs : List Nat} {Qd : Hp → Prop} {ds0 : List PyData}
/-- a map over a list of one's own, which stays -/
theorem lcf_ow (s : Own) (f : PyData → Bool) (e : PyData → PyData) (R : Rp K H L) (h : Sel (.ow (.li .lf) (.ref a) (.list ds0)) L L1) (nL : H p = none) (sz : ds0.length < 100000)
    (turn : ∀ (i : Nat) x d X M H', ds0[i]? = some d → Rp K H' (.sh x d :: X :: (M ++ L1)) → ∀ (Qy : VK) (Qn : Hp → Prop), (f d = true → ∀ y H4, Rp K H4 (.ow s y (e d) :: X :: (M ++ L1)) → Qy y H4) → (f d = false → ∀ H4, Rp K H4 (X :: (M ++ L1)) → Qn H4) → g x (wipe σ vs) H' fun σ2 H2 => wipe σ2 vs = wipe σ vs ∧ tt σ2 H2 fun b H3 => if b = true then te σ2 H3 Qy else Qn H3)
    (done : ∀ H', Rp K H' (.ow (.li s) (.ref p) (.list ((ds0.filter f).map e)) :: .ow (.li .lf) (.ref a) (.list ds0) :: L1) → Qd H') : LoopC (Itl K a) g tt te vs p σ Qd H := by
  obtain ⟨a', xs, e', l, R⟩ := (R.sel h).take
  cases e'
  refine lco_list (xs := xs) s (fun i ds L' => ds = ((ds0.take i).filter f).map e ∧ L' = .top a xs :: (each .lf xs ds0 ++ L1)) R nL ⟨rfl, rfl⟩ (by omega) (fun i ds L' X H' ⟨_, z⟩ R' => by subst z; exact SqL.of (R'.topOf (.tail _ mem_here))) ?_ (fun ds L' H' ⟨e1, e2⟩ R' => by
    subst e1 e2; rw [l, List.take_length] at R'
    refine done H' ((Rp.put (R'.perm ?_) l).perm (.swap _ _ _))
    refine List.Perm.trans (.swap _ _ _) (.cons _ ?_)
    exact List.perm_middle.symm)
  rintro i x ds L' X H' hx ⟨rfl, rfl⟩ R Qy Qn q1 q2
  have hi : i < ds0.length := by rw [← l]; exact (List.getElem?_eq_some_iff.mp hx).1
  have hd : ds0[i]? = some ds0[i] := List.getElem?_eq_getElem hi
  refine turn i x _ X (.top a xs :: each .lf xs ds0) H' hd (R.shM (.tail _ (.tail _ (List.mem_append_left _ (each_mem hx hd))))) Qy Qn (fun hf y H4 R4 => q1 y _ _ H4 ⟨?_, rfl⟩ R4) (fun hf H4 R4 => q2 _ H4 ⟨?_, rfl⟩ R4)
  · rw [take_snoc hd, List.filter_append, List.map_append, List.filter_cons_of_pos hf]; rfl
  · rw [take_snoc hd, List.filter_append, List.map_append, List.filter_cons_of_neg (by rw [hf]; decide), List.filter_nil, List.map_nil, List.append_nil]
theorem lcm_ow (s : Own) (e : PyData → PyData) (R : Rp K H L) (h : Sel (.ow (.li .lf) (.ref a) (.list ds0)) L L1) (nL : H p = none) (sz : ds0.length < 100000)
    (turn : ∀ (i : Nat) x d X M H', ds0[i]? = some d → Rp K H' (.sh x d :: X :: (M ++ L1)) → ∀ (Qy : VK), (∀ y H4, Rp K H4 (.ow s y (e d) :: X :: (M ++ L1)) → Qy y H4) → g x (wipe σ vs) H' fun σ2 H2 => wipe σ2 vs = wipe σ vs ∧ te σ2 H2 Qy)
    (done : ∀ H', Rp K H' (.ow (.li s) (.ref p) (.list (ds0.map e)) :: .ow (.li .lf) (.ref a) (.list ds0) :: L1) → Qd H') : LoopC (Itl K a) g tYes te vs p σ Qd H := by
  refine lcf_ow s (fun _ => true) e R h nL sz (fun i x d X M H' hd R Qy Qn q1 _ => turn i x d X M H' hd R Qy fun y H4 R4 => q1 rfl y H4 R4) fun H' R => done H' ?_
  rw [List.filter_eq_self.mpr fun _ _ => rfl] at R
  exact R
end
section
variable {K : PySem.W.Frag} {H : Hp} {Q : VK} {L L1 : List It} {i j : Int} {a b : Addr} {s : Own} {ns : List Int}
theorem g_shl (c : CPow i j) (q : Q (.int (i * 2 ^ j.toNat)) H) : rI CPow (fun i j => .int (i * 2 ^ j.toNat)) (.int i) (.int j) H Q := ⟨i, j, rfl, rfl, c, q⟩
theorem g_shr (c : 0 ≤ j) (q : Q (.int (i / 2 ^ j.toNat)) H) : rI (fun _ j => 0 ≤ j) (fun i j => .int (i / 2 ^ j.toNat)) (.int i) (.int j) H Q := ⟨i, j, rfl, rfl, c, q⟩
theorem g_sortI (R : Rp K H L) (h : It.ow s (.ref a) (IL ns) ∈ L) (q : ∀ c H' ns', ns'.Perm ns → ns'.Pairwise (· ≤ ·) → Rp K H' (.ow (.li .lf) (.ref c) (IL ns') :: L) → Q (.ref c) H') : rSortedI K [.ref a] H Q :=
  ⟨a, ns, rfl, R.ilS h, fun ns' p hp hs np => q p _ ns' hp hs (R.mkI np)⟩
theorem fd_int (i : Int) : FD ((i : Int) : Rat) = .tuple [.int i, .int 1] := rfl
end
theorem map_snoc {α β : Type} (f : α → β) (xs : List α) (x : α) : xs.map f ++ [f x] = (xs ++ [x]).map f := by rw [List.map_append]; rfl
section
variable {K : PySem.W.Frag} {H : Hp} {L : List Fc.It} {a : Addr} {s : Own} {ds : List PyData} {Rx : L2.It → Hp → Prop}
theorem g_ilM (R : Rp K H L) (m : Fc.It.ow s (.ref a) (.list ds) ∈ L) (q : Rx (Itl K a) H) : ilR K Rx (.ref a) H := by
  obtain ⟨xs, h, _⟩ := R.raw m
  exact g_ilR (SqL.of h) q
end
section
variable {K : PySem.W.Frag} {H : Hp} {Q : VK} {L : List Fc.It} {a : Addr} {s : Own} {ns : List Int} {xs : List V}
theorem mono_sql : ∀ H H' : Hp, Same H H' → SqL K H a xs → SqL K H' a xs := fun _ _ s h => sqL_same s h
/-- the script -/
theorem Rp.arg0 (h : SqL K H a xs) : Rp K H [.ps (fun H => SqL K H a xs)] := ⟨_, .cons (p := [_]) rfl .nil, Rf.addps (L := []) mono_sql (by rw [wo_no fun _ => ows_nil]; exact h) Rf.nil⟩
theorem g_listI (R : Rp K H L) (m : Fc.It.ow s (.ref a) (IL ns) ∈ L) (q : ∀ c H', Rp K H' (.ow (.li .lf) (.ref c) (IL ns) :: L) → Q (.ref c) H') : rListOf K [.ref a] H Q :=
  ⟨a, _, rfl, .inl (R.ilS m), fun l nl => q l _ (R.mkI nl)⟩
/-- a slice of a list of ints: some of them -/
theorem g_slI {lo hi : Option Int} (h : SqL K H a (ns.map V.int)) (R : Rp K H L) (q : ∀ c H' ms, ms.length ≤ ns.length → Rp K H' (.ow (.li .lf) (.ref c) (IL ms) :: L) → Q (.ref c) H') : rSlL K (.ref a) lo hi H Q := by
  obtain ⟨ms, e, l⟩ := cutV_int ns lo hi
  exact ⟨a, _, rfl, h, fun p np => q p _ ms l (by rw [e]; exact R.mkI np)⟩
/-- one of some ints -/
theorem g_ixAny {i : Int} (p : Int → Prop) (R : Rp K H L) (m : Fc.It.ow s (.ref a) (IL ns) ∈ L) (h0 : 0 ≤ i) (h1 : i < ns.length) (hp : ∀ z ∈ ns, p z) (q : ∀ z, p z → Q (.int z) H) : rIxL K (.ref a) (.int i) H Q := by
  obtain ⟨z, hz, pz⟩ := atI_of p h0 h1 hp
  exact g_ixL (R.ilS m) hz (q z pz)
end
section
variable {K : PySem.W.Frag} {σ : L2.St} {H : Hp} {Q : VK} {te t : TE} {tl th : TO} {r : V → Option Int → Option Int → Hp → VK → Prop} {G : Option Int → Hp → Prop} {i : Int} {B : Int → Prop}
instance : St1 (tSl r te tl th σ H Q) (te σ H fun x H1 => tl σ H1 fun l H2 => th σ H2 fun u H3 => r x l u H3 Q) := ⟨fun h => h⟩
instance : St1 (tNoPart σ H G) (G none H) := ⟨fun h => h⟩
instance : St1 (tPart t σ H G) (t σ H fun x H1 => ∃ i, x = .int i ∧ G (some i) H1) := ⟨fun h => h⟩
instance : St1 (∃ k, V.int i = .int k ∧ B k) (B i) := ⟨fun h => ⟨i, rfl, h⟩⟩
end
section
variable {K : PySem.W.Frag} {H H' : Hp} {Q : VK} {L L1 : List Fc.It} {a b p : Addr} {s s1 : Own} {ds es : List PyData} {n m : Nat} {E : XK}
theorem Rp.poolMono (R : Rp K H (.pr (PoolP n) p :: L)) (h : n ≤ m) : Rp K H (.pr (PoolP m) p :: L) := R.poolTo (But.refl _ _) (R.pool.mono h)
theorem g_figR (R : Rp K H L) (h : Sel (.pr (PoolP n) p) L L1) (hn : n ≤ 2 ^ 59) (q : ∀ r H', 0 ≤ r → r < 10 ^ 40 → Rp K H' (.pr (PoolP (n + 10)) p :: L1) → Q (.int r) H') : sp_figures K ([.ref p] ++ []) H Q E :=
  ⟨p, n, rfl, (R.sel h).pool, hn, fun r H' r0 r1 b d => q r H' r0 r1 ((R.sel h).poolTo b d)⟩
/-- two shared lists put together -/
theorem g_catS (R : Rp K H L) (h1 : Fc.It.sh (.ref a) (.list ds) ∈ L) (h2 : Fc.It.sh (.ref b) (.list es) ∈ L) (z : ds.length + es.length ≤ 100000) (k : ∀ c H', Rp K H' (.ow (.li .lf) (.ref c) (.list (ds ++ es)) :: L) → Q (.ref c) H') : rCat (.ref a) (.ref b) H Q := by
  obtain ⟨b', ys, e2, l2, eb, R2⟩ := R.shAll h2
  cases e2
  obtain ⟨a', xs, e1, l1, ea, R1⟩ := R2.shAll (List.mem_append_right _ h1)
  cases e1
  refine ⟨a, b, xs, ys, rfl, rfl, ea, eb, sz_le (by omega), fun p np => k p _ (Rp.mkL (xs := xs ++ ys) (ds := ds ++ es) ?_ (by rw [List.length_append, List.length_append, l1, l2]) np)⟩
  rw [each_app l1, List.append_assoc]
  exact R1
end
section
variable {K : PySem.W.Frag} {H H' : Hp} {Q : VK} {L L1 : List Fc.It} {a b p : Addr} {v : V} {d : PyData} {ds es : List PyData} {k : Nat}
/-- an item of a list of one's own with shared items -/
theorem Rp.owAt (R : Rp K H L) (h : Fc.It.ow (.li .lf) v (.list ds) ∈ L) (hd : ds[k]? = some d) : ∃ a xs x, v = .ref a ∧ H a = some (.lst xs) ∧ xs.length = ds.length ∧ xs[k]? = some x ∧ Rp K H (.sh x d :: L) := by
  obtain ⟨L', h'⟩ := sel_of_mem h
  obtain ⟨a, xs, rfl, l, R1⟩ := (R.sel h').take
  have hi : k < xs.length := by rw [l]; exact (List.getElem?_eq_some_iff.mp hd).1
  have hx : xs[k]? = some xs[k] := List.getElem?_eq_getElem hi
  have R2 := R1.shM (.tail _ (List.mem_append_left _ (each_mem hx hd)))
  refine ⟨a, xs, _, rfl, R1.topAt, l, hx, ?_⟩
  have R3 : Rp K H (.top a xs :: (each .lf xs ds ++ (.sh xs[k] d :: L'))) := R2.perm ((List.Perm.swap _ _ _).trans (.cons _ List.perm_middle.symm))
  exact (R3.put l).perm ((List.Perm.swap _ _ _).trans (.cons _ h'.perm.symm))
theorem g_ixOw (k : Nat) {i : Int} (R : Rp K H L) (h : Fc.It.ow (.li .lf) (.ref a) (.list ds) ∈ L) (hi : i = (k : Nat)) (hd : ds[k]? = some d) (q : ∀ w, Rp K H (.sh w d :: L) → Q w H) : rIxL K (.ref a) (.int i) H Q := by
  obtain ⟨b, xs, x, e, hb, _, hx, R'⟩ := R.owAt h hd
  cases e
  exact g_ixL (SqL.of hb) (by rw [hi]; exact atI_nat hx) (q x R')
/-- the last one -/
theorem g_ixOwL (R : Rp K H L) (h : Fc.It.ow (.li .lf) (.ref a) (.list (ds ++ [d])) ∈ L) (q : ∀ w, Rp K H (.sh w d :: L) → Q w H) : rIxL K (.ref a) (.int (-1)) H Q := by
  obtain ⟨b, xs, x, e, hb, l, hx, R'⟩ := R.owAt (k := ds.length) (d := d) h (by simp)
  cases e
  have e2 : xs = xs.take ds.length ++ [x] := by
    have : xs.length = ds.length + 1 := by rw [l]; simp
    rw [← take_snoc hx, List.take_of_length_le (by omega)]
  exact g_ixL (SqL.of hb) (by rw [e2]; exact atI_last _ _) (q x R')
end
theorem list_lt_of_le_ne {a b : List Int} (h : a ≤ b) (n : a ≠ b) : a < b := by
  apply Classical.byContradiction
  intro z
  exact n (List.le_antisymm h (List.not_lt.mp z))
section
variable {K : PySem.W.Frag} {σ : L2.St} {H : Hp} {Q : VK} {L : List Fc.It} {ta tb : TE} {te : L2.St → Hp → (Int → Int → Hp → Prop) → Prop} {G : Int → Int → Hp → Prop} {i j : Int}
instance : St1 (tLstRg te σ H Q) (te σ H fun a b H1 => RgOk a b ∧ ∀ q, H1 q = none → Q (.ref q) (upd H1 q (.lst (rgV a b)))) := ⟨fun h => h⟩
instance : St1 (tRg2 ta tb σ H G) (ta σ H fun x H1 => tb σ H1 fun y H2 => ∃ i j, x = .int i ∧ y = .int j ∧ G i j H2) := ⟨fun h => h⟩
instance : St1 (tRg1 ta σ H G) (ta σ H fun x H1 => ∃ n, x = .int n ∧ G 0 n H1) := ⟨fun h => h⟩
instance {G2 : Int → Int → Prop} : St1 (∃ a b, V.int i = .int a ∧ V.int j = .int b ∧ G2 a b) (G2 i j) := ⟨fun h => ⟨i, j, rfl, rfl, h⟩⟩
theorem rgV_rg (a b : Int) : rgV a b = (rg a (b - a).toNat).map V.int := by unfold rgV rg; rw [List.map_map]; rfl
/-- list(range(..)) -/
theorem g_lstRg {F : Addr → Prop} (R : Rp K H L) (h : 0 ≤ i ∧ i ≤ 16777216 ∧ 0 ≤ j ∧ j ≤ 16777216) (k : ∀ c, H c = none → Rp K (upd H c (.lst (rgV i j))) (.ow (.li .lf) (.ref c) (IL (rg i (j - i).toNat)) :: L) → F c) : RgOk i j ∧ ∀ q, H q = none → F q :=
  ⟨RgOk.of_le h.1 h.2.2.2 h.2.1 h.2.2.1, fun q nq => k q nq (by rw [rgV_rg]; exact R.mkI nq)⟩
end
/-! ### rows of one's own, changed in place -/
section
variable {K : PySem.W.Frag} {H H' : Hp} {Q : VK} {L L1 L2 : List Fc.It} {a b p : Addr} {xs ys : List V} {v x y z : V} {d e f : PyData} {ds es : List PyData} {s : Own} {i j : Int} {k n : Nat}
/-- an item exchanged for another one -/
theorem Rp.focus2 {k : Nat} (R : Rp K H (.top a xs :: (each s xs ds ++ L))) (hx : xs[k]? = some x) (hd : ds[k]? = some d) : ∃ C, Rp K H (.ow s x d :: .top a xs :: (C ++ L)) ∧ ∀ H' ys y e M, Rp K H' (.ow s y e :: .top a ys :: (C ++ M)) → Rp K H' (.top a ys :: (each s (xs.set k y) (ds.set k e) ++ M)) := by
  obtain ⟨l1, e1⟩ := List.getElem?_eq_some_iff.mp hx
  obtain ⟨l2, e2⟩ := List.getElem?_eq_some_iff.mp hd
  have ex : ∀ y, xs.set k y = xs.take k ++ y :: xs.drop (k + 1) := fun y => List.set_eq_take_append_cons_drop.trans (by rw [if_pos l1])
  have ed : ∀ e, ds.set k e = ds.take k ++ e :: ds.drop (k + 1) := fun e => List.set_eq_take_append_cons_drop.trans (by rw [if_pos l2])
  have ex0 : xs = xs.take k ++ x :: xs.drop (k + 1) := by rw [← e1, ← List.drop_eq_getElem_cons l1, List.take_append_drop]
  have ed0 : ds = ds.take k ++ d :: ds.drop (k + 1) := by rw [← e2, ← List.drop_eq_getElem_cons l2, List.take_append_drop]
  have lt : (xs.take k).length = (ds.take k).length := by rw [List.length_take, List.length_take]; omega
  have key : ∀ y e, each s (xs.set k y) (ds.set k e) = each s (xs.take k) (ds.take k) ++ .ow s y e :: each s (xs.drop (k + 1)) (ds.drop (k + 1)) := fun y e => by
    rw [ed e, ex y, each_app lt]; rfl
  have key0 : each s xs ds = each s (xs.take k) (ds.take k) ++ .ow s x d :: each s (xs.drop (k + 1)) (ds.drop (k + 1)) := by
    conv => lhs; rw [ex0, ed0]
    rw [each_app lt]; rfl
  have pm : ∀ ys y e M, List.Perm (.top a ys :: (each s (xs.take k) (ds.take k) ++ .ow s y e :: each s (xs.drop (k + 1)) (ds.drop (k + 1)) ++ M)) (.ow s y e :: .top a ys :: ((each s (xs.take k) (ds.take k) ++ each s (xs.drop (k + 1)) (ds.drop (k + 1))) ++ M)) := fun ys y e M => by
    refine List.Perm.trans (.cons _ ?_) (.swap _ _ _)
    rw [List.append_assoc, List.append_assoc]
    exact List.perm_middle
  refine ⟨each s (xs.take k) (ds.take k) ++ each s (xs.drop (k + 1)) (ds.drop (k + 1)), ?_, fun H' ys y e M R' => ?_⟩
  · rw [key0] at R
    exact R.perm (pm xs x d L)
  · rw [key y e]
    exact R'.perm (pm ys y e M).symm
/-- an own list's item is exchanged -/
theorem Rp.setOw (R : Rp K H (.ow (.li s) (.ref a) (.list ds) :: .ow s y e :: L)) (hk : k < ds.length) : ∃ xs, H a = some (.lst xs) ∧ xs.length = ds.length ∧ Rp K (upd H a (.lst (xs.set k y))) (.ow (.li s) (.ref a) (.list (ds.set k e)) :: L) := by
  obtain ⟨a', xs, ea, l, R1⟩ := R.take
  cases ea
  have hx : xs[k]? = some xs[k] := List.getElem?_eq_getElem (by omega)
  have hd : ds[k]? = some ds[k] := List.getElem?_eq_getElem hk
  obtain ⟨C, R2, back⟩ := R1.focus2 hx hd
  refine ⟨xs, R1.topAt, l, ?_⟩
  have R3 : Rp K H (.top a xs :: .ow s y e :: (C ++ L)) := by
    refine R2.tail.perm (.cons _ ?_)
    exact List.perm_middle
  have R4 := (R3.mut (ys := xs.set k y)).perm (.swap _ _ _)
  exact (back _ _ _ _ _ R4).put (by rw [List.length_set, List.length_set, l])
theorem g_setR (R : Rp K H L) (h1 : Sel (.ow (.li s) (.ref a) (.list ds)) L L1) (h2 : Sel (.ow s y e) L1 L2) (hi : i = (k : Nat)) (hk : k < ds.length) {G : Hp → Prop} (q : ∀ H', Rp K H' (.ow (.li s) (.ref a) (.list (ds.set k e)) :: L2) → G H') : rSetL (.ref a) (.int i) y H G := by
  have R1 : Rp K H (.ow (.li s) (.ref a) (.list ds) :: .ow s y e :: L2) := (R.sel h1).perm (h2.perm.cons _)
  obtain ⟨xs, ea, l, R2⟩ := R1.setOw hk
  refine ⟨a, xs, i, k, rfl, rfl, ea, ?_, q _ R2⟩
  unfold ixN
  rw [hi, if_pos (by omega), if_pos (by omega)]
  rfl
/-- a row of an own list of own rows, looked at -/
theorem g_ixRow {rows : List (List Rat)} (k : Nat) (R : Rp K H L) (m : Fc.It.ow oT (.ref a) (TD rows) ∈ L) (hi : i = (k : Nat)) (hk : k < rows.length) (q : ∀ r vs, H r = some (.lst vs) → DqAll K H vs ((rows.getD k []).map FD) → (∃ xs, H a = some (.lst xs) ∧ xs[k]? = some (.ref r)) → Q (.ref r) H) : rIxL K (.ref a) (.int i) H Q := by
  obtain ⟨xs, h1, h2⟩ := R.raw m
  obtain ⟨w, hw, hd⟩ := DqAll.get h2 (i := k) (d := FL (rows.getD k [])) (by rw [List.getElem?_map, List.getD_eq_getElem?_getD, List.getElem?_eq_getElem hk]; rfl)
  obtain ⟨r, vs, rfl, h3, h4⟩ := Dq.lstI hd
  exact g_ixL (SqL.of h1) (by rw [hi]; exact atI_nat hw) (q r vs h3 h4 ⟨xs, h1, hw⟩)
theorem g_ixCell {row : List Rat} {vs : List V} (k : Nat) (R : Rp K H L) (e : H a = some (.lst vs)) (hd : DqAll K H vs (row.map FD)) (hi : i = (k : Nat)) (hk : k < row.length) (q : ∀ c, Rp K H (.sh (.ref c) (FD (row.getD k 0)) :: L) → Q (.ref c) H) : rIxL K (.ref a) (.int i) H Q := by
  obtain ⟨w, hw, h⟩ := DqAll.get hd (i := k) (d := FD (row.getD k 0)) (by rw [List.getElem?_map, List.getD_eq_getElem?_getD, List.getElem?_eq_getElem hk]; rfl)
  obtain ⟨c, rfl, fr⟩ := dq_frR h
  exact g_ixL (SqL.of e) (by rw [hi]; exact atI_nat hw) (q c (R.flat h rfl))
/-- found[i][j] = v -/
theorem g_set2 {rows : List (List Rat)} {r : Addr} {x : Rat} (k m : Nat) (R : Rp K H L) (h1 : Sel (.ow oT (.ref a) (TD rows)) L L1) (h2 : Sel (.sh y (FD x)) L1 L2) (hk : k < rows.length) (hr : ∃ xs, H a = some (.lst xs) ∧ xs[k]? = some (.ref r)) (hj : j = (m : Nat)) (hm : m < (rows.getD k []).length) {G : Hp → Prop}
    (q : ∀ H', Rp K H' (.ow oT (.ref a) (TD (rows.set k ((rows.getD k []).set m x))) :: L2) → G H') : rSetL (.ref r) (.int j) y H G := by
  have R1 : Rp K H (.ow oT (.ref a) (TD rows) :: .sh y (FD x) :: L2) := (R.sel h1).perm (h2.perm.cons _)
  obtain ⟨a', xs, ea, l, R2⟩ := R1.take
  cases ea
  obtain ⟨xs', e', hx⟩ := hr
  obtain rfl : xs' = xs := by have := R2.topAt; rw [e'] at this; cases this; rfl
  have hd : (rows.map FL)[k]? = some (FL (rows.getD k [])) := by rw [List.getElem?_map, List.getD_eq_getElem?_getD, List.getElem?_eq_getElem hk]; rfl
  obtain ⟨C, R3, back⟩ := R2.focus2 hx hd
  have R4 : Rp K H (.ow (.li .lf) (.ref r) (FL (rows.getD k [])) :: .sh y (FD x) :: .top a xs' :: (C ++ L2)) := R3.perm (.cons _ ((List.Perm.cons _ List.perm_middle).trans (.swap _ _ _)))
  obtain ⟨vs', ev, lv, R5⟩ := R4.setOw (k := m) (by rw [List.length_map]; exact hm)
  refine ⟨r, vs', j, m, rfl, rfl, ev, ?_, ?_⟩
  · unfold ixN
    rw [List.length_map] at lv
    rw [hj, if_pos (by omega), if_pos (by omega)]
    rfl
  · refine q _ ?_
    have R6 := back _ xs' (.ref r) (FL ((rows.getD k []).set m x)) L2 (by rw [show FL ((rows.getD k []).set m x) = .list (((rows.getD k []).map FD).set m (FD x)) by rw [← List.map_set]]; exact R5)
    have ex : xs'.set k (.ref r) = xs' := by
      obtain ⟨l1, e1⟩ := List.getElem?_eq_some_iff.mp hx
      rw [← e1, List.set_getElem_self]
    rw [ex, ← List.map_set] at R6
    exact R6.put (by rw [l, List.length_map, List.length_map, List.length_set])
end
/-! ### tables by a function -/
def tabG {α : Type} (n : Nat) (g : Nat → Nat → α) : List (List α) := (List.range n).map fun a => (List.range n).map fun b => g a b
section
variable {α : Type} {n i j : Nat} {g g' : Nat → Nat → α} {d : α}
theorem tabG_len : (tabG n g).length = n := by unfold tabG; rw [List.length_map, List.length_range]
theorem tabG_row (h : i < n) : (tabG n g).getD i [] = (List.range n).map (g i) := by
  unfold tabG
  rw [List.getD_eq_getElem?_getD, List.getElem?_map, List.getElem?_range h]; rfl
theorem rowF_at {f : Nat → α} (h : j < n) : ((List.range n).map f).getD j d = f j := by
  rw [List.getD_eq_getElem?_getD, List.getElem?_map, List.getElem?_range h]; rfl
theorem row_at (h : j < n) : ((List.range n).map (g i)).getD j d = g i j := by
  rw [List.getD_eq_getElem?_getD, List.getElem?_map, List.getElem?_range h]; rfl
theorem map_range_set {β : Type} (f : Nat → β) (h : i < n) (x : β) : ((List.range n).map f).set i x = (List.range n).map fun k => if k = i then x else f k := by
  apply List.ext_getElem
  · simp
  · intro k h1 h2
    simp only [List.getElem_set, List.getElem_map, List.getElem_range]
    by_cases e : i = k
    · rw [if_pos e, if_pos e.symm]
    · rw [if_neg e, if_neg (fun z => e z.symm)]
theorem tabG_set (hi : i < n) (hj : j < n) (x : α) : (tabG n g).set i (((tabG n g).getD i []).set j x) = tabG n fun a b => if a = i ∧ b = j then x else g a b := by
  rw [tabG_row hi, map_range_set _ hj, tabG, map_range_set _ hi]
  unfold tabG
  apply List.map_congr_left
  intro a _
  by_cases e : a = i
  · subst e
    simp
  · simp [e]
theorem tabG_congr (h : ∀ a b, a < n → b < n → g a b = g' a b) : tabG n g = tabG n g' := by
  unfold tabG
  apply List.map_congr_left
  intro a ha
  apply List.map_congr_left
  intro b hb
  exact h a b (List.mem_range.mp ha) (List.mem_range.mp hb)
end
/-- whether a cut parts two points -/
def parts (c : List Int) (i j : Nat) : Bool := !decide (decide ((i : Int) ∈ c) = decide ((j : Int) ∈ c))
/-- the weights of the cuts that part two points -/
def sumW (ws : List (List Int × Rat)) (i j : Nat) : Rat := ws.foldl (fun a w => if parts w.1 i j then a + w.2 else a) 0
theorem sumW_snoc (ws : List (List Int × Rat)) (w : List Int × Rat) (i j : Nat) : sumW (ws ++ [w]) i j = if parts w.1 i j then sumW ws i j + w.2 else sumW ws i j := by
  unfold sumW; rw [List.foldl_append]; rfl
theorem parts_symm (c : List Int) (i j : Nat) : parts c i j = parts c j i := by
  unfold parts
  rw [decide_eq_decide.mpr (eq_comm (a := decide ((i : Int) ∈ c)) (b := decide ((j : Int) ∈ c)))]
theorem sumW_symm (ws : List (List Int × Rat)) (i j : Nat) : sumW ws i j = sumW ws j i := by
  unfold sumW
  rw [show (fun (a : Rat) (w : List Int × Rat) => if parts w.1 i j then a + w.2 else a) = fun (a : Rat) (w : List Int × Rat) => if parts w.1 j i then a + w.2 else a from funext fun a => funext fun w => by rw [parts_symm]]
theorem sumW_bd {b : Nat} : ∀ {ws : List (List Int × Rat)}, (∀ w ∈ ws, Bd b w.2) → ∀ i j, Bd ((b + 1) * ws.length + 1) (sumW ws i j) := fun {ws} h i j => by
  suffices H : ∀ (us : List (List Int × Rat)) (a : Rat) (k : Nat), (∀ w ∈ us, Bd b w.2) → Bd ((b + 1) * k + 1) a → Bd ((b + 1) * (k + us.length) + 1) (us.foldl (fun a w => if parts w.1 i j then a + w.2 else a) a) by
    have := H ws 0 0 h (by show Bd 1 0; exact Bd_zero (by decide))
    rwa [Nat.zero_add] at this
  intro us
  induction us with
  | nil => intro a k _ ha; exact ha
  | cons w us ih =>
    intro a k hw ha
    rw [List.foldl_cons, List.length_cons, show k + (us.length + 1) = (k + 1) + us.length by omega]
    refine ih _ (k + 1) (fun u hu => hw u (List.mem_cons_of_mem _ hu)) ?_
    have e : (b + 1) * (k + 1) + 1 = ((b + 1) * k + 1) + b + 1 := by rw [Nat.mul_add]; omega
    rw [e]
    split
    · exact Bd_add ha (hw w List.mem_cons_self)
    · exact ha.mono (by omega)
/-! ### sets of ints -/
section
variable {P : Program} {w : World} {A : Around} {E : Value → Shared → Prop} {s : Shared}
/-- an empty set's object -/
abbrev setO0 (w : World) : Obj := { cls := .type "set", dict := none, data := .set #[] 0 (.fresh 0 0 (!w.params.followText "set-order")) }
theorem set_ofL {l : Addr} {its : Array Value} {ns : List Int} {Q : Value → Shared → Prop} (calm : A.handled = none) (hl : s.heap.IsList l its) (ht : IntsAre its.toList ns) (few : ns.length + 1 < scanBound)
    (q : ∀ (h' : Heap) (tk c : Nat), SetR w h' s.heap.objs.size (fun j => decide (j ∈ ns)) c → (∀ b o, s.heap.get? b = some o → h'.get? b = some o) → Q (.ref s.heap.objs.size) { s with heap := h', toks := tk }) :
    wpAny (model P w) A (call (.type "set") [.ref l]) Q E s := by
  have many : its.size = ns.length := by rw [← Array.length_toList]; exact IntsAre.length ht
  have ⟨c0, t0, m0⟩ := F.called_set.mro
  have i1 := F.called_set.made; have i2 := F.called_set.sub; have i3 := F.called_set.notType; have i4 := F.called_set.canCreate; have i5 := F.typeCall_set_1 (.ref l)
  refine wpAny_call (codeAny_of_tree ?_)
  show wpAny _ _ (callAny (.type "set") _) _ _ _
  refine wpAny_pure ⟨Code.quiet_builtin _ (by decide +kernel), codeAny_builtin F.entry_type_call ?_⟩
  rw [Around.under_plain (weight_type_call_type "set" [.ref l] []) rfl]
  repeat (any_goals (first | assumption | wp_step))
  refine codeAny_mono (code_set_led1 (.ref l) (E := E) (Q₁ := fun v u => v = .ref s.heap.objs.size ∧ u = { s with heap := s.heap.push (setO0 w) }) ⟨rfl, rfl⟩) fun r u hr => ?_
  match r, hr with
  | .error e, hr => exact hr
  | .ok (.ret v), hr =>
    obtain ⟨rfl, rfl⟩ := hr
    have n1 : (s.heap.push (setO0 w)).get? s.heap.objs.size = some (setO0 w) := Heap.get?_push_size _ rfl
    have n2 : Shared.TypeIs { s with heap := s.heap.push (setO0 w) } (.ref s.heap.objs.size) "set" := ⟨_, n1, rfl⟩
    have j1 := F.called_set.init.lookup; have j2 := F.called_set.init.bind (.ref s.heap.objs.size)
    repeat (any_goals (first | assumption | wp_step))
    refine codeAny_mono (codeAny_call_builtin (R := wants (fun v u => v = .none ∧ ∃ h' tk c, u = { s with heap := h', toks := tk } ∧ SetR w h' s.heap.objs.size (fun j => decide (j ∈ ns)) c ∧ (∀ b o, s.heap.get? b = some o → h'.get? b = some o)) E)
      F.called_set.init.plain F.entry_set_init (check_set_init_1 n2 ?_)) fun r2 u2 hr2 => ?_
    · have ⟨⟨oc, od, oo, os⟩, lo, lc, ln, ld⟩ := hl
      have ec : oc = .type "list" := lc
      have ed : oo = .seq its ln := ld
      subst ec ed
      have lo' : (s.heap.push (setO0 w)).get? l = some { cls := .type "list", dict := od, data := .seq its ln, slots := os } := Heap.get?_push_of_some _ lo
      have k1 := F.sub_list_set; have k2 := F.sub_list_frozenset
      have k3 : (Value.type "list" == Value.type "dict") = false := by decide
      have l1 : (s.heap.push (setO0 w)).IsList l its := ⟨_, lo', rfl, ln, rfl⟩
      unfold Builtin.«set.__init__» noKeywords Builtin.Frozenset.updateFrom
      generalize hI : pyIter = pI
      wp_walk
      subst hI
      refine wpAny_pyIter_list l1 (wpAny_bind (wpAny_runValue ?_))
      have below : l < s.heap.objs.size := Heap.lt_size lo
      have cm : A.in1.in1.in1.handled = none := by simp [calm]
      have ne1 : l ≠ (s.heap.push (setO0 w)).objs.size := by rw [Heap.size_push]; exact Nat.ne_of_lt (Nat.lt_succ_of_lt below)
      have ni : s.heap.objs.size ∉ [(s.heap.push (setO0 w)).objs.size, l] := by
        rw [Heap.size_push]
        simp only [List.mem_cons, List.not_mem_nil, or_false, not_or]
        exact ⟨Nat.ne_of_lt (Nat.lt_succ_self _), Nat.ne_of_gt below⟩
      refine set_update_ints ((Walks.list cm _ l ne1 its).toS) s.heap.objs.size ni ns many few (fun i v hv => ?_) (its.size - 0) 0 _ (by omega) (Nat.zero_le _) ⟨⟨_, Heap.get?_push_size _ rfl, rfl, rfl⟩, l1.push _⟩ ⟨0, Nat.le_refl 0, setR_new_at (Heap.get?_push_of_some _ n1)⟩ fun u3 c3 mv _ R3 => ?_
      · have hi : i < ns.length := by rw [← many]; exact (Array.getElem?_eq_some_iff.mp hv).1
        have ⟨t, e⟩ := IntsAre.int_at ht i v (by rw [Array.getElem?_toList]; exact hv)
        exact ⟨ns[i], t, List.getElem?_eq_getElem hi, by rw [e, List.getD_eq_getElem?_getD, List.getElem?_eq_getElem hi]; rfl⟩
      · obtain ⟨h3, g3, d3, t3, o3⟩ := u3
        have e1 : g3 = s.gens := mv.gens
        have e2 : d3 = s.drawn := mv.drawn
        have e3 : o3 = s.os := mv.os
        subst e1 e2 e3
        show wpAny _ _ _ _ _ _
        refine wpAny_pure ?_
        show wpAny _ _ (ret Value.none) _ _ _
        refine wpAny_pure ⟨rfl, h3, t3, c3, rfl, R3, fun b o e => ?_⟩
        have lt := Heap.lt_size e
        refine mv.heap b o ?_ (Heap.get?_push_of_some _ (Heap.get?_push_of_some _ e))
        rw [Heap.size_push]
        simp only [List.mem_cons, List.not_mem_nil, or_false, not_or]
        exact ⟨Nat.ne_of_lt lt, Nat.ne_of_lt (Nat.lt_succ_of_lt lt)⟩
    · match r2, hr2 with
      | .error e, hr2 => exact hr2
      | .ok (.ret v), hr2 =>
        obtain ⟨rfl, h', tk, c, rfl, R2, keep⟩ := hr2
        repeat (any_goals (first | assumption | wp_step))
        exact q _ _ _ R2 keep
      | .ok .next, hr2 => exact hr2.elim
  | .ok .next, hr => exact hr.elim
end
/-- the unlike ones -/
def nub : List Int → List Int
  | [] => []
  | n :: ns => if n ∈ ns then nub ns else n :: nub ns
theorem nub_mem {k : Int} : ∀ {ns : List Int}, k ∈ nub ns ↔ k ∈ ns
  | [] => Iff.rfl
  | n :: ns => by
    have ih := nub_mem (k := k) (ns := ns)
    by_cases h : n ∈ ns
    · rw [nub, if_pos h, ih, List.mem_cons]
      exact ⟨.inr, fun z => z.elim (fun e => e ▸ h) id⟩
    · rw [nub, if_neg h, List.mem_cons, List.mem_cons, ih]
theorem nub_nodup : ∀ (ns : List Int), (nub ns).Nodup
  | [] => .nil
  | n :: ns => by
    by_cases h : n ∈ ns
    · rw [nub, if_pos h]; exact nub_nodup ns
    · rw [nub, if_neg h]; exact List.nodup_cons.mpr ⟨fun z => h (nub_mem.mp z), nub_nodup ns⟩
theorem nub_le : ∀ (ns : List Int), (nub ns).length ≤ ns.length
  | [] => Nat.le_refl 0
  | n :: ns => by
    have ih := nub_le ns
    by_cases h : n ∈ ns
    · rw [nub, if_pos h, List.length_cons]; omega
    · rw [nub, if_neg h, List.length_cons, List.length_cons]; omega
theorem nub_id {ns : List Int} (h : ns.Nodup) : nub ns = ns := by
  induction ns with
  | nil => rfl
  | cons n ns ih =>
    obtain ⟨a, b⟩ := List.nodup_cons.mp h
    rw [nub, if_neg a, ih b]
theorem nub_full {ns : List Int} : (nub ns).length = ns.length ↔ ns.Nodup := by
  constructor
  · intro h
    induction ns with
    | nil => exact .nil
    | cons n ns ih =>
      have := nub_le ns
      by_cases q : n ∈ ns
      · rw [nub, if_pos q, List.length_cons] at h; omega
      · rw [nub, if_neg q, List.length_cons, List.length_cons] at h
        exact List.nodup_cons.mpr ⟨q, ih (by omega)⟩
  · intro h; rw [nub_id h]
/-- unlike ones of the same members are as many -/
theorem nd_len : ∀ {l m : List Int}, l.Nodup → m.Nodup → (∀ k, k ∈ l ↔ k ∈ m) → l.length = m.length := by
  intro l
  induction l with
  | nil =>
    intro m _ _ h
    cases m with
    | nil => rfl
    | cons a t => exact absurd ((h a).mpr List.mem_cons_self) (by simp)
  | cons a t ih =>
    intro m d1 d2 h
    obtain ⟨a1, a2⟩ := List.nodup_cons.mp d1
    have ha : a ∈ m := (h a).mp List.mem_cons_self
    have e := ih (m := m.erase a) a2 (d2.erase a) fun k => by
      rw [d2.mem_erase_iff, ← h k, List.mem_cons]
      exact ⟨fun z => ⟨fun q => a1 (q ▸ z), .inr z⟩, fun ⟨p, q⟩ => q.elim (fun q => absurd q p) id⟩
    have e2 := List.length_erase_of_mem ha
    have : 0 < m.length := List.length_pos_of_mem ha
    rw [List.length_cons, e]; omega
/-- rising ones of the same members are the same -/
theorem rise_eq : ∀ {l m : List Int}, l.Pairwise (· < ·) → m.Pairwise (· < ·) → (∀ k, k ∈ l ↔ k ∈ m) → l = m := by
  intro l
  induction l with
  | nil =>
    intro m _ _ h
    cases m with
    | nil => rfl
    | cons a t => exact absurd ((h a).mpr List.mem_cons_self) (by simp)
  | cons a t ih =>
    intro m d1 d2 h
    cases m with
    | nil => exact absurd ((h a).mp List.mem_cons_self) (by simp)
    | cons b u =>
      obtain ⟨a1, a2⟩ := List.pairwise_cons.mp d1
      obtain ⟨b1, b2⟩ := List.pairwise_cons.mp d2
      have e : a = b := by
        rcases List.mem_cons.mp ((h a).mp List.mem_cons_self) with z | z
        · exact z
        · rcases List.mem_cons.mp ((h b).mpr List.mem_cons_self) with y | y
          · exact y.symm
          · have := b1 a z; have := a1 b y; omega
      subst e
      rw [ih a2 b2 fun k => ⟨fun z => ?_, fun z => ?_⟩]
      · rcases List.mem_cons.mp ((h k).mp (List.mem_cons_of_mem _ z)) with y | y
        · have := a1 k z; omega
        · exact y
      · rcases List.mem_cons.mp ((h k).mpr (List.mem_cons_of_mem _ z)) with y | y
        · have := b1 k z; omega
        · exact y
/-- the unlike ones, rising -/
def sortN (ns : List Int) : List Int := (nub ns).mergeSort
theorem sortN_mem {k : Int} {ns : List Int} : k ∈ sortN ns ↔ k ∈ ns := by rw [sortN, List.mem_mergeSort, nub_mem]
theorem sortN_len (ns : List Int) : (sortN ns).length = (nub ns).length := List.length_mergeSort _
theorem sortN_rise (ns : List Int) : (sortN ns).Pairwise (· < ·) := by
  have p : (sortN ns).Perm (nub ns) := List.mergeSort_perm _ _
  have d : (sortN ns).Nodup := p.nodup_iff.mpr (nub_nodup ns)
  have s := List.pairwise_mergeSort (le := fun a b : Int => decide (a ≤ b)) (fun a b c => by simpa using fun h1 h2 => Int.le_trans h1 h2) (fun a b => by simpa using Int.le_total a b) (nub ns)
  have s' : (sortN ns).Pairwise fun a b => a ≤ b := s.imp fun h => by simpa using h
  refine (s'.and d).imp fun ⟨h1, h2⟩ => ?_
  omega
theorem sortN_id {ns : List Int} (h : ns.Pairwise (· < ·)) : sortN ns = ns := rise_eq (sortN_rise ns) h fun _ => sortN_mem
theorem sortN_eq {ns : List Int} : ns = sortN ns ↔ ns.Pairwise (· < ·) := ⟨fun h => by rw [h]; exact sortN_rise ns, fun h => (sortN_id h).symm⟩

theorem setR_card {w : World} {h : Heap} {a : Addr} {ns : List Int} {c : Nat} (R : SetR w h a (fun j => decide (j ∈ ns)) c) : c = (nub ns).length := by
  obtain ⟨o, es, ep, t, ho, hx, hd, g, nd, hm, hb, hf, hn, _⟩ := R
  rw [← hn, ← Array.length_toList, ← List.length_map (f := keyOf)]
  exact nd_len nd (nub_nodup ns) fun k => by rw [← hm k, nub_mem, decide_eq_true_eq]

section
variable {X : Cx}
/-- len(set(xs)) -/
def tLenSet (K : PySem.W.Frag) (ta : TE) : TE := fun σ H Q => ta σ H fun x H1 => ∃ (l : Addr) (ns : List Int), x = V.ref l ∧ SqL K H1 l (ns.map V.int) ∧ ns.length < 2000 ∧ Q (.int ((nub ns).length : Nat)) H1
theorem pe_lenSet {K : PySem.W.Frag} {a : Expr} {ta : TE} {p p2 q pos : Pos} (hg : Gl X "len") (hm : X.mg "len" = none) (hg2 : Gl X "set") (hm2 : X.mg "set" = none) (ha : PE X a ta) (hc : X.calm = true := by rfl) (eK : X.K = K := by rfl)
    (na : starEach [a] X.env = (false, eval a X.env) :: starEach [] X.env := by rfl) : PE X (.Call (.Name "len" p) [.Call (.Name "set" p2) [a] [] q] [] pos) (tLenSet K ta) := by
  subst eK
  refine ⟨fun pins s σ H Q I h => Call_ (ld_blt I hg hm PySem.boot_len (PyProof.Rows.callWith_builtin1 (PyProof.Rows.args_cons ?_ rfl) rfl rfl))⟩
  refine Call_ (ld_blt I hg2 hm2 PyProof.Rows.boot_set (PyProof.Rows.callWith_type1 (PyProof.Rows.args_cons (thn (ha.run pins s σ H _ I h) fun v s1 ⟨x, H1, I1, r1, l, ns, e, hq, few, q1⟩ => PyProof.Rows.args_nil ?_) na) na rfl))
  subst e; cases r1
  obtain ⟨its, r, pl, hz⟩ := I1.list hq
  refine set_ofL (I1.ok.hd hc) pl.isList (ns := ns) (by simpa using r.ints) (by unfold scanBound; omega) fun h' tk c R keep => PyProof.Rows.args_nil ?_
  have ec := setR_card R
  obtain ⟨o, es, ep, t, ho, hex, hd, _, _, _, hb, hf, hn, _⟩ := R
  have small := nub_le ns
  exact call_len_set ho hex hd hf (by rw [hn]; omega) ⟨.int ((nub ns).length : Nat), H1, (I1.kept keep).tok _, ⟨_, by rw [hn, ec]⟩, q1⟩
/-- sorted(set(xs)) -/
def tSortSet (K : PySem.W.Frag) (ta : TE) : TE := fun σ H Q => ta σ H fun x H1 => ∃ (l : Addr) (ns : List Int), x = V.ref l ∧ SqL K H1 l (ns.map V.int) ∧ ns.length < 64 ∧ ∀ p : Addr, H1 p = none → Q (.ref p) (upd H1 p (.lst ((sortN ns).map V.int)))
theorem pe_sortSet {K : PySem.W.Frag} {a : Expr} {ta : TE} {p p2 q pos : Pos} (hg : Gl X "sorted") (hm : X.mg "sorted" = none) (hg2 : Gl X "set") (hm2 : X.mg "set" = none) (ha : PE X a ta) (hc : X.calm = true := by rfl) (eK : X.K = K := by rfl)
    (na : starEach [a] X.env = (false, eval a X.env) :: starEach [] X.env := by rfl) : PE X (.Call (.Name "sorted" p) [.Call (.Name "set" p2) [a] [] q] [] pos) (tSortSet K ta) := by
  subst eK
  refine ⟨fun pins s σ H Q I h => Call_ (ld_blt I hg hm PyProof.Rows.boot_sorted (PyProof.Rows.callWith_builtin1 (PyProof.Rows.args_cons ?_ rfl) rfl rfl))⟩
  refine Call_ (ld_blt I hg2 hm2 PyProof.Rows.boot_set (PyProof.Rows.callWith_type1 (PyProof.Rows.args_cons (thn (ha.run pins s σ H _ I h) fun v s1 ⟨x, H1, I1, r1, l, ns, e, hq, few, q1⟩ => PyProof.Rows.args_nil ?_) na) na rfl))
  subst e; cases r1
  obtain ⟨its, r, pl, hz⟩ := I1.list hq
  refine set_ofL (I1.ok.hd hc) pl.isList (ns := ns) (by simpa using r.ints) (by unfold scanBound; omega) fun h' tk c R keep => PyProof.Rows.args_nil ?_
  have ec := setR_card R
  have small := nub_le ns
  have I2 : Inv X pins σ H1 { s1 with heap := h', toks := tk } := I1.kept keep
  refine sorted_set (s := { s1 with heap := h', toks := tk }) R (I2.ok.hd hc) (by omega) fun u p out c2 ks k g o hp hgt hi hs hm hl => ?_
  have hn : H1 p = none := I2.hok.fresh hp
  have e : ks = sortN ns := rise_eq hs (sortN_rise ns) fun j => by rw [hm j, decide_eq_true_eq, sortN_mem]
  subst e
  have hlen : ((sortN ns).map V.int).length ≤ sizeLine := by rw [List.length_map, hl, sizeLine_eq]; omega
  have J : Inv X pins σ (upd H1 p (.lst ((sortN ns).map V.int))) { ({ s1 with heap := h', toks := tk } : Shared) with heap := u.heap, gens := u.gens, drawn := u.drawn, toks := u.toks } :=
    I2.call (ch := []) (Un.laid k hp hn) (I2.hok.laid k hp ⟨hlen, out.toList, c2, vals_of_ints hi, hgt⟩) (by rw [g]; exact I2.bare) (fun _ z => nomatch z)
  have eu : u = { ({ s1 with heap := h', toks := tk } : Shared) with heap := u.heap, gens := u.gens, drawn := u.drawn, toks := u.toks } := by
    cases u; cases s1; cases o; rfl
  rw [eu]
  exact ⟨.ref p, _, J, rfl, q1 p hn⟩
/-- len({x, y, z}) of names -/
def tLen3 (i j k : Nat) : TE := fun σ H Q => ∃ x y z : Int, σ[i]? = some (some (.int x)) ∧ σ[j]? = some (some (.int y)) ∧ σ[k]? = some (some (.int z)) ∧ Q (.int ((nub [x, y, z]).length : Nat)) H
/-- a set under way -/
theorem fill_one {P : Program} {w : World} {A : Around} {E : Value → Shared → Prop} {u : Bool} {D : Addr} {s : Shared} {S : Int → Bool} {n : Nat} {x : Int} {t : Tok} {vs : List Value} {Q : Value → Shared → Prop} (R : s.heap.SetOf (intKind P w) D S n) (small : n < 2000)
    (q : ∀ h' n', h'.SetOf (intKind P w) D (fun j => S j || decide (j = x)) n' → n' = (if S x = true then n else n + 1) → (∀ b o, b ≠ D → s.heap.get? b = some o → h'.get? b = some o) → PySem.W.KdsFill (model P w) A E u D Q vs { s with heap := h', toks := s.toks + 1 }) :
    PySem.W.KdsFill (model P w) A E u D Q (.int x t :: vs) s := by
  refine PySem.W.kds_fill_cons ?_
  unfold setAdd
  refine wpAny_holding (wpAny_bind ((intKind P w).pyHash (k := x) (intKind_is _ _ _ _) ?_))
  exact wpAny_setAddHashed_of (knd := intKind P w) (s := { s with toks := s.toks + 1 }) (intKind_is _ _ _ _) rfl R (by unfold scanBound; omega) fun h' sb R' => q h' _ R' rfl fun b o hb e => (sb.2 b hb).trans e
/-- a name's value, where it stands -/
theorem ld_var {i : Nat} {x : Str} {pos : Pos} {v : V} {pins : List (Addr × Obj)} {σ : L2.St} {H : Hp} {s : Shared} {E : Value → Shared → Prop} (hN : X.N[i]? = some x) (hv : Vis X.env.scope x) (hd : (x == ("__debug__" : Str)) = false) (hcd : (x == ("__classdict__" : Str)) = false)
    (I : Inv X pins σ H s) (e : σ[i]? = some (some v)) : ∃ u, RelV v u ∧ ∀ Q : Value → Shared → Prop, Q u s → wpAny (model X.prog X.w) X.A (eval (.Name x pos) X.env) Q E s := by
  have ⟨m, hn, hl⟩ := I.loc
  have ⟨u, r, l⟩ := hl i x v hN e hv
  refine ⟨u, r, fun Q fin => ?_⟩
  rcases l with ⟨hk, hm⟩ | ⟨hk, c, hc, hcell⟩
  · exact wpAny_Name (wpAny_loadName_local I.ok.kind hk hn hm fin) hd
  · exact hk.elim (fun hk => wpAny_Name (wpAny_loadName_cell I.ok.kind hk hc hcell fin) hd) fun hk => wpAny_Name (wpAny_loadName_free I.ok.kind hk hc hcell fin hcd) hd
theorem pe_len3 {i j k : Nat} {a b c : Str} {p q pos p1 p2 p3 : Pos} (hg : Gl X "len") (hm : X.mg "len" = none) (hcd : PySem.W.kdsCode X.K X.env.code = true)
    (n1 : X.N[i]? = some a := by rfl) (n2 : X.N[j]? = some b := by rfl) (n3 : X.N[k]? = some c := by rfl)
    (v1 : Vis X.env.scope a := by first | exact Or.inl rfl | exact Or.inr (Or.inl rfl) | exact Or.inr (Or.inr rfl)) (v2 : Vis X.env.scope b := by first | exact Or.inl rfl | exact Or.inr (Or.inl rfl) | exact Or.inr (Or.inr rfl))
    (v3 : Vis X.env.scope c := by first | exact Or.inl rfl | exact Or.inr (Or.inl rfl) | exact Or.inr (Or.inr rfl))
    (d : ([a, b, c].all fun x => !(x == ("__debug__" : Str)) && !(x == ("__classdict__" : Str))) = true := by decide) :
    PE X (.Call (.Name "len" p) [.Set [.Name a p1, .Name b p2, .Name c p3] 0 q] [] pos) (tLen3 i j k) := by
  refine ⟨fun pins s σ H Q I h => Call_ (ld_blt I hg hm PySem.boot_len (PyProof.Rows.callWith_builtin1 (PyProof.Rows.args_cons ?_ rfl) rfl rfl))⟩
  obtain ⟨x, y, z, e1, e2, e3, h⟩ := h
  have d1 : ∀ x ∈ [a, b, c], (x == ("__debug__" : Str)) = false ∧ (x == ("__classdict__" : Str)) = false := fun x hx => by
    have := List.all_eq_true.mp d x hx
    simpa using this
  have ⟨da, da'⟩ := d1 a (by simp)
  have ⟨db, db'⟩ := d1 b (by simp)
  have ⟨dc, dc'⟩ := d1 c (by simp)
  rw [arm_eval_Set]
  refine wpAny_bind (wpAny_standAt (wpAny_bind (PySem.W.kds_main I.kIn hcd fun _ => ?_)))
  rw [PySem.W.kds_star _ (by rfl), List.map_map]
  have hx : displayRoad 0 [.Name a p1, .Name b p2, .Name c p3] = .oneByOne := by
    have hn : [Expr.Name a p1, .Name b p2, .Name c p3].all (constantsAlone 8) = false := by
      rw [List.all_cons, show constantsAlone 8 (.Name a p1) = (a == ("__debug__" : Str)) from rfl, da]; rfl
    unfold displayRoad
    rw [if_neg (Nat.lt_irrefl 0), if_neg (by simp), if_neg (by rw [hn]; decide)]
  have hr : (displayRoad 0 [.Name a p1, .Name b p2, .Name c p3] == DisplayRoad.unsure) = false := by rw [hx]; rfl
  refine PySem.W.kds_core (ts := (evalEach [.Name a p1, .Name b p2, .Name c p3] X.env).map fun t => do let v ← t; standAt q; pure v) (by rw [hx]; rfl) (List.findIdx?_eq_none_iff.mpr fun x hx => ?_) (by rw [List.length_map, PySem.W.kds_len]; exact Nat.le_of_ble_eq_true rfl) (by rw [List.map_map]; rfl) fun led => ?_
  · obtain ⟨t, _, rfl⟩ := List.mem_map.mp hx
    rfl
  rw [hr]
  refine PySem.W.kds_all q _ _ _ ?_
  have N0 := (setObjOf_fresh (knd := intKind X.prog X.w) led).setOf (Heap.get?_push_size s.heap rfl) (by decide)
  have I0 : Inv X pins σ H { s with heap := s.heap.push { cls := .type "set", dict := none, data := .set #[] 0 (.fresh 0 0 led) } } := I.kept (t' := s.toks) fun b o e => Heap.get?_push_of_some _ e
  have ⟨u1, ⟨t1, r1⟩, w1⟩ := ld_var (pos := p1) (E := X.xe) n1 v1 da da' I0 e1
  have ⟨u2, ⟨t2, r2⟩, w2⟩ := ld_var (pos := p2) (E := X.xe) n2 v2 db db' I0 e2
  have ⟨u3, ⟨t3, r3⟩, w3⟩ := ld_var (pos := p3) (E := X.xe) n3 v3 dc dc' I0 e3
  subst r1 r2 r3
  refine w1 _ (w2 _ (w3 _ ?_))
  refine fill_one N0 (by decide) fun h1 m1 R1 E1 K1 => ?_
  refine fill_one (s := { s with heap := h1, toks := s.toks + 1 }) R1 (by rw [E1]; decide) fun h2 m2 R2 E2 K2 => ?_
  refine fill_one (s := { s with heap := h2, toks := s.toks + 1 + 1 }) R2 (by rw [E2, E1]; split <;> decide) fun h3 m3 R3 E3 K3 => ?_
  refine PySem.W.kds_fill_nil rfl (PyProof.Rows.args_nil ?_)
  obtain ⟨o, es, ep, t, ho, hex, hd, _, _, _, hf, hn⟩ := R3
  have keep : ∀ b o, s.heap.get? b = some o → h3.get? b = some o := fun b o e => by
    have ne : b ≠ s.heap.objs.size := Nat.ne_of_lt (Heap.lt_size e)
    exact K3 b o ne (K2 b o ne (K1 b o ne (Heap.get?_push_of_some _ e)))
  have en : m3 = (nub [x, y, z]).length := by
    rw [E3, E2, E1]
    by_cases a1 : x = y <;> by_cases a2 : x = z <;> by_cases a3 : y = z <;> simp [nub, a1, a2, a3] <;> grind
  have small := nub_le [x, y, z]
  have : [x, y, z].length = 3 := rfl
  exact call_len_set ho hex hd hf (by rw [hn, en]; omega) ⟨.int ((nub [x, y, z]).length : Nat), H, (I.kept (t' := s.toks + 1 + 1 + 1) keep).tok _, ⟨_, by rw [hn, en]⟩, h⟩
end
/-! ### errors that are kept -/
/-- an error of the class D, caught, at a -/
def errO (D a : Addr) : HO := .ext fun h => ∃ (oe : Obj) (vs : Array Value), h.get? a = some oe ∧ Zc (.ref D) none oe ∧ oe.data = .fields vs
theorem errO_ok {P : Program} {w : World} {H : Hp} {h : Heap} {a D : Addr} {oe : Obj} {vs : Array Value} (e : h.get? a = some oe) (z : Zc (.ref D) none oe) (d : oe.data = .fields vs) : ObjOk P w H h a (errO D a) :=
  ⟨⟨oe, vs, e, z, d⟩, ⟨oe, e⟩, fun _ _ ⟨o, v, q, r⟩ k => ⟨o, v, k o q, r⟩⟩
/-- a caught error held by a pin is tracked from here on -/
theorem track {X : Cx} {pins : List (Addr × Obj)} {σ : L2.St} {H : Hp} {s : Shared} {a D : Addr} {oe : Obj} {vs : Array Value} (J : Inv X ((a, oe) :: pins) σ H s) (hz : Zc (.ref D) none oe) (hv : oe.data = .fields vs)
    (new : X.s_0.heap.get? a = none) (far : ∀ p ∈ X.pn ++ pins, p.1 ≠ a) : Inv X pins σ (upd H a (errO D a)) s := by
  have ⟨at_, free, nL, nF, nC⟩ := J.pin (a, oe) (List.mem_append_right _ List.mem_cons_self)
  have n0 : ∀ b o, X.s_0.heap.get? b = some o → b ≠ a := fun b o e z => by subst z; rw [new] at e; cases e
  have nT : ∀ {b o}, H b = some o → b ≠ a := fun {b o} e => ne_of_none e free
  have nX : ∀ x c, X.env.cells.lookup x = some c → c ≠ a := fun x c e z => by
    subst z
    obtain ⟨v, o, ho, hd⟩ := J.cell x _ e
    rw [at_] at ho
    cases ho
    exact nC _ hd
  refine ⟨J.ok, J.os, J.bare, ⟨J.base.keep, J.base.slot, fun b o e n hx => ?_, J.base.there, fun b xs e => ?_, fun b o u e => ?_, fun b ps e => ?_⟩, J.loc, J.cell, ?_, fun x c e => ?_, fun p hp => ?_, fun b u e => ?_, J.len⟩
  · rw [upd_ne (n0 b o e)]; exact J.base.free b o e n hx
  · have q := J.base.tups b xs e
    rw [upd_ne (nT q)]; exact q
  · have q := J.base.frzs b o u e
    rw [upd_ne (nT q)]; exact q
  · obtain ⟨m, q⟩ := J.base.tbls b ps e
    exact ⟨m, by rw [upd_ne (nT q)]; exact q⟩
  · rw [upd_ne (Ne.symm nL)]; exact J.free
  · rw [upd_ne (nX x c e)]; exact J.freeC x c e
  · have q := J.pin p ((List.mem_append.mp hp).elim (fun z => List.mem_append_left _ z) fun z => List.mem_append_right _ (List.mem_cons_of_mem _ z))
    exact ⟨q.1, by rw [upd_ne (far p hp)]; exact q.2.1, q.2.2⟩
  · by_cases hb : b = a
    · subst hb
      rw [upd_same] at e
      cases e
      exact errO_ok at_ hz hv
    · rw [upd_ne hb] at e
      exact (J.hok b u e).stay (fun _ _ _ q => q) (fun c q => by rw [upd_ne (nT q)]; exact q) fun c xs q => by rw [upd_ne (nT q)]; exact q

/-- what «except x as n», whose error is kept behind it, wishes of an error of the body -/
def wKeep (K : PySem.W.Frag) (c : Value) (i : Nat) (ts : Addr → L2.TS) (Wout : WX) (D : Ends) : WX := fun cls d σ H =>
  ∃ b, PySem.W.exmOne K cls c = some b ∧
    (b = true → ∃ C, cls = .ref C ∧ d = none ∧ ∀ a, H a = none → ts a { nx := fun σ' H' => D.nx (σ'.set i none) (upd H' a (errO C a)), rt := fun _ _ => False, bk := fun _ _ => False, ct := fun _ _ => False } (σ.set i (some (.ref a))) H) ∧
    (b = false → Wout cls d σ H)
section
variable {X : Cx} {x n : Str} {c : Value} {i : Nat} {body suite : List Stmt} {b₀ : Stmt} {np pos pos' : Pos} {tb : WX → L2.TS} {ts : Addr → L2.TS} {Wout : WX}
theorem ps_keep (hs : X.stack = X.env :: X.outer) (hf : X.env.frame = some X.env.locals) (hN : X.N.Nodup) (hi : X.N[i]? = some n) (hln : X.env.kindOf n = some .local) (hc : Names X x c) (tk : Takes X Wout) (hex : X.ex = [])
    (hb : ∀ (W : WX) (pn : List (Addr × Obj)) (xe : Value → Shared → Prop), Takes (X.tr pn xe) W → PassesOwn (model X.prog X.w) X.A X.env xe → PSs (X.tr pn xe) body (tb W))
    (hsu : ∀ (a : Addr) (oe : Obj) (pn : List (Addr × Obj)), PSs (X.suite a ((a, oe) :: pn)) (b₀ :: suite) (ts a)) :
    PS X (.Try body [.ExceptHandler (some (.Name x np)) (some n) (b₀ :: suite) pos'] [] [] pos) (fun D σ H => tb (wKeep X.K c i ts Wout D) D σ H) := by
  refine ⟨fun pins s σ H D I h => wpAny_Try_except (wpAny_mono ((hb (wKeep X.K c i ts Wout D) (X.pn ++ pins) (fun e u => wpAny (model X.prog X.w) X.A (noteFrame e X.env) (fun _ u2 => wpAny (model X.prog X.w) X.A (setFlight e none)
    (fun _ u3 => wpAny (model X.prog X.w) X.A (handleBy e X.env [.ExceptHandler (some (.Name x np)) (some n) (b₀ :: suite) pos']) (SP X pins D) X.xe u3) X.xe u2) X.xe u) (fun e u xx => ?_) PassesOwn.looking).run [] s σ H D (I.toTry _) h) (fun f u sp => ?_) (fun _ _ z => z))⟩
  · obtain ⟨a, B, sI, pins', σ1, H1, cls, d, rfl, J', nb, up, sky, na, os, ag, b, hb1, yes, no⟩ := xx
    have J : Inv X pins σ1 H1 sI := J'.ofTry I.ok
    have hfr : X.A.frames = some (X.env :: X.outer) := by rw [I.ok.frames, hs]
    rw [show (X.tr (X.pn ++ pins) _).stack = X.env :: X.outer from hs] at sky
    show wpAny (model X.prog X.w) X.A (noteFrame (.ref a) X.env) _ _ _
    refine Sky.land Zc.steady hfr hf sky fun h3 fl3 up3 => ?_
    have J3 : Inv X pins σ1 H1 { u with heap := h3 } := J.landed nb fl3.1 (up.trans up3) os ag
    have ⟨oe3, vs3, he3, hz3, hd3⟩ := fl3.there
    have nfr : a ∉ frs (X.env :: X.outer) := fun hm => by
      obtain ⟨_, o, e, hnf⟩ := fl3.2.2.1.mem hm
      rw [he3] at e
      cases e
      exact hnf _ hd3
    have nst : a ∉ frs X.stack := by rw [hs]; exact nfr
    have nL : a ≠ X.env.locals := fun z => nfr (List.mem_filterMap.mpr ⟨_, List.mem_cons_self, by rw [hf, z]⟩)
    have nF : a ∉ X.fs := fun hm => by
      obtain ⟨e, he, q⟩ := List.mem_filterMap.mp hm
      exact nfr (List.mem_filterMap.mpr ⟨e, List.mem_cons_of_mem _ he, q⟩)
    have nB : B.get? a = none := fl3.2.1
    have new : X.s_0.heap.get? a = none := by
      cases e : X.s_0.heap.get? a with
      | none => rfl
      | some o =>
        obtain ⟨o', e'⟩ := J.base.there a o e (by rw [hex]; exact fun z => nomatch z)
        rw [nb a o' e' nst] at nB
        cases nB
    have far : ∀ p ∈ X.pn ++ pins, p.1 ≠ a := fun p hp z => by
      obtain ⟨e, _, q, q', _⟩ := J.pin p hp
      have w := nb p.1 p.2 e (by
        rw [z]; exact nst)
      rw [z, nB] at w
      cases w
    have S3 := J3.suite he3 hd3 na nL nF
    refine wpAny_handleBy_cons (codeAny_handlers_test ?_) (by intro q; cases q)
    have LM := PySem.W.exm_one (M := model X.prog X.w) J3.kIn (fun A Q E s k q => wpAny_typeOf_ref (k _ _ he3) (by rw [hz3.1]; exact q)) hb1
    have test : ∀ {Q : Value → Shared → Prop} {E : Value → Shared → Prop}, Q c { u with heap := h3 } → wpAny (model X.prog X.w) (X.A.mark (some (.ref a))) (eval (.Name x np) X.env) Q E { u with heap := h3 } := fun q =>
      match hc with
      | ⟨hg, hdb, .inl hm⟩ => ld_glob (X := X.suite a ((a, oe3) :: (X.pn ++ pins))) S3 hg hm q hdb
      | ⟨hg, hdb, .inr ⟨hm, hv, hn⟩⟩ => ld_blt (X := X.suite a ((a, oe3) :: (X.pn ++ pins))) S3 hg hm hv q hn hdb
    refine test (LM.here ?_)
    match b, yes, no with
    | true, yes, _ =>
      obtain ⟨C, rfl, rfl, go⟩ := yes rfl
      refine codeAny_handlers_suite_as (HandSPX.lands_againZ fl3 fun h4 fl4 up4 => ?_)
      have J4 : Inv X pins σ1 H1 { u with heap := h4 } := J.landed nb fl4.1 ((up.trans up3).trans up4) os ag
      have ⟨oe4, vs4, he4, hz4, hd4⟩ := fl4.there
      refine store_ok (X := X.suite a ((a, oe4) :: (X.pn ++ pins))) (v := .ref a) (J4.suite he4 hd4 na nL nF) hN hi (.inl hln) rfl (fun s5 S5 => ?_) (.inr hln)
      refine wpAny_mono ((hsu a oe4 (X.pn ++ pins)).run [] s5 _ H1 _ S5 (go a na)) (fun f s6 sp => ?_) (fun _ _ z => z.elim)
      match f, sp with
      | .next, ⟨σ6, H6, S6, q6⟩ =>
        have J6 : Inv X ((a, oe4) :: pins) σ6 H6 s6 := ⟨I.ok, S6.os, S6.bare, S6.base, S6.loc, S6.cell, S6.free, S6.freeC, fun p hp => S6.pin p (by
          rw [List.append_nil]
          rcases List.mem_append.mp hp with z | z
          · exact List.mem_cons_of_mem _ (List.mem_append_left _ z)
          · rcases List.mem_cons.mp z with e | z
            · exact e ▸ List.mem_cons_self
            · exact List.mem_cons_of_mem _ (List.mem_append_right _ z)), S6.hok, S6.len⟩
        exact gone_ok J6 hN hi hln fun s7 J7 => ⟨_, _, track J7 hz4 hd4 new far, q6⟩
      | .brk, ⟨_, _, _, q6⟩ => exact q6.elim
      | .cont, ⟨_, _, _, q6⟩ => exact q6.elim
      | .ret _, ⟨_, _, _, _, _, q6⟩ => exact q6.elim
    | false, _, no =>
      show wpAny _ X.A (handleBy (.ref a) X.env []) _ _ _
      refine wpAny_handleBy_nil ?_
      have ⟨_, _, _, oe, vs, T, oT, _, he, hz, hd, h1, _⟩ := fl3
      unfold PySem.passOn
      refine wpAny_bind (wpAny_field he hd h1 ?_)
      rw [if_neg (by simp : ¬ ((Value.ref T == Value.none) = true))]
      have fin : wpAny (model X.prog X.w) X.A (setFlight (.ref a) X.env.frame) (fun _ s4 => wpAny (model X.prog X.w) X.A (throw (.ref a) : Sem Flow) (SP X pins D) X.xe s4) X.xe { u with heap := h3 } := by
        rw [hf]
        exact HandSPX.setFlight_upZ fl3 fun h4 hh4 up4 => wpAny_throw (tk _ _ ⟨a, B, sI, pins, σ1, H1, cls, d, rfl, J, nb, (up.trans up3).trans up4, .inr (.inr (by rw [hs]; exact hh4)), na, os, ag, no rfl⟩)
      first
        | exact wpAny_bind (wpAny_pure (wpAny_bind fin))
        | exact wpAny_bind fin
  · match f, sp with
    | .next, ⟨σ', H', J', q⟩ => exact wpAny_execs_nil ⟨σ', H', J'.ofTry I.ok, q⟩
    | .brk, ⟨σ', H', J', q⟩ => exact ⟨σ', H', J'.ofTry I.ok, q⟩
    | .cont, ⟨σ', H', J', q⟩ => exact ⟨σ', H', J'.ofTry I.ok, q⟩
    | .ret u, ⟨v, σ', H', J', r, q⟩ => exact ⟨v, σ', H', J'.ofTry I.ok, r, q⟩
end
/-- isinstance(e, c), e an error that is kept -/
def rIsX (K : PySem.W.Frag) : List V → Hp → VK → Prop := fun xs H Q => ∃ (a D : Addr) (c : V) (cv : Value) (b : Bool), xs = [.ref a, c] ∧ H a = some (errO D a) ∧ ExcC K D ∧ (∀ u, RelV c u → u = cv) ∧ PySem.W.kitOne K (.ref D) cv = some b ∧ Q (.bl b) H
theorem cr_isX {X : Cx} : CallR X (.builtin "isinstance") (rIsX X.K) := by
  intro pins s σ H xs us Q I r h
  obtain ⟨a, D, c, cv, b, rfl, ha, C, hcv, e, q⟩ := h
  match us, r with
  | [_, _], .cons rx (.cons rt .nil) =>
    cases rx
    have ec := hcv _ rt
    subst ec
    obtain ⟨⟨oe, vs, ho, hz, hd⟩, _, _⟩ := I.hok a _ ha
    have J : PySem.W.InstAt s.heap a oe D none := by
      obtain ⟨oc, od, oda, osl⟩ := oe
      obtain ⟨h1, h2⟩ := hz
      dsimp only at h1 h2 hd
      subst h1 h2 hd
      exact ⟨ho, rfl, rfl, trivial⟩
    exact PySem.W.kia_one (PySem.W.handS_kitx_exc C.hg C.hk C.hs C.hd C.ha C.hn C.ht C.hm) I.kIn J e (fun z => nomatch z) fun tk => ⟨.bl b, H, I.kept (t' := tk) fun _ _ z => z, rfl, q⟩
/-- isinstance(e, (c, ..)) -/
def rIsXT (K : PySem.W.Frag) : List V → Hp → VK → Prop := fun xs H Q => ∃ (a D t : Addr) (cs : List V) (cvs : List Value) (b : Bool), xs = [.ref a, .ref t] ∧ H a = some (errO D a) ∧ ExcC K D ∧ SqT K H t cs ∧ (∀ us, Vals cs us → us = cvs) ∧ PySem.W.kitAny K (.ref D) cvs = some b ∧ Q (.bl b) H
theorem cr_isXT {X : Cx} : CallR X (.builtin "isinstance") (rIsXT X.K) := by
  intro pins s σ H xs us Q I r h
  obtain ⟨a, D, t, cs, cvs, b, rfl, ha, C, ht, hcv, e, q⟩ := h
  match us, r with
  | [_, _], .cons rx (.cons rt .nil) =>
    cases rx; cases rt
    obtain ⟨⟨oe, vs, ho, hz, hd⟩, _, _⟩ := I.hok a _ ha
    have J : PySem.W.InstAt s.heap a oe D none := by
      obtain ⟨oc, od, oda, osl⟩ := oe
      obtain ⟨h1, h2⟩ := hz
      dsimp only at h1 h2 hd
      subst h1 h2 hd
      exact ⟨ho, rfl, rfl, trivial⟩
    obtain ⟨its, rv, ⟨⟨pc, pd, po, ps⟩, ho2, hc2, n2, hd2⟩, _⟩ := I.tuple ht
    dsimp only at hc2 hd2
    subst hc2 hd2
    have ec := hcv _ rv
    subst ec
    exact PySem.W.kia_tup (PySem.W.handS_kitx_exc C.hg C.hk C.hs C.hd C.ha C.hn C.ht C.hm) I.kIn J ho2 e (fun z => nomatch z) fun tk => ⟨.bl b, H, I.kept (t' := tk) fun _ _ z => z, rfl, q⟩
theorem k_isX {X : Cx} {K : PySem.W.Frag} (h : X.K = K := by rfl) : CallR X (.builtin "isinstance") (rIsX K) := by subst h; exact cr_isX
theorem k_isXT {X : Cx} {K : PySem.W.Frag} (h : X.K = K := by rfl) : CallR X (.builtin "isinstance") (rIsXT K) := by subst h; exact cr_isXT
/-- a class of errors of one's own -/
structure Err (K : PySem.W.Frag) (D : Addr) : Prop where
  q : PySem.W.excIn K D [.type "ValueError", .type "Exception", .type "BaseException", .type "object"] "ValueError.__new__" = true
  k : PySem.W.keepIn K (.ref D) = true
  t : PySem.W.typeIn K (.ref D) = some (.type "type")
  c : ExcC K D
/-- what isinstance says of D's errors: the own class y, the written class y -/
def IsK (K : PySem.W.Frag) (mg : Str → Option Value) (y : Str) (b : Bool) (D : Addr) : Prop := ∀ C, mg y = some (.ref C) → PySem.W.kitOne K (.ref D) (.ref C) = some b
def IsB (K : PySem.W.Frag) (y : String) (b : Bool) (D : Addr) : Prop := PySem.W.kitOne K (.ref D) (.type y) = some b
/-- what «except y» says of them -/
def HdK (K : PySem.W.Frag) (mg : Str → Option Value) (y : Str) (b : Bool) (D : Addr) : Prop := ∀ C, mg y = some (.ref C) → PySem.W.exmOne K (.ref D) (.ref C) = some b

/-- a def that may raise, by its name -/
structure CalX (P : Program) (w : World) (K : PySem.W.Frag) (mg : Str → Option Value) (base : Heap) (k : Nat) (x : Str) (sp : Sp) : Prop where
  ex : ∃ (f : Addr) (fd : FuncData) (ps : List Str), FnOk P w K mg base (L2.CX P w) k f fd ps sp ∧ mg x = some (.ref f) ∧ PySem.W.keepIn K (.ref f) = true ∧ Binds K fd ps []
section
variable {P : Program} {w : World} {K : PySem.W.Frag} {mg : Str → Option Value} {base : Heap}
theorem FnOk_lift {k : Nat} {f : Addr} {fd : FuncData} {ps : List Str} {sp : Sp} (F : FnOk P w K mg base CX0 k f fd ps sp) : FnOk P w K mg base (L2.CX P w) k f fd ps sp :=
  ⟨F.len, fun A outer s H args us vs Q E hr he hb hv hs => codeAny_mono (F.run A outer s H args us vs Q E hr he hb hv hs) fun r s' hq => match r, hq with
    | .ok (.ret _), hq => hq
    | .ok .next, hq => hq
    | .ok .brk, hq => hq
    | .ok .cont, hq => hq
    | .error _, hq => hq.elim⟩
/-- what a def keeps, or else raises -/
def spOr (sp spx : Sp) : Sp := fun vs H Q E => sp vs H Q E ∨ spx vs H Q E
theorem calX_of {x qual : Str} {st : Stmt} {f : Addr} {fd : FuncData} {ps : List Str} {k : Nat} {sp spx : Sp} (h : FnOk P w K mg base CX0 k f fd ps sp) (hx : FnOk P w K mg base (L2.CX P w) k f fd ps spx) (F : Fun K x qual st f fd) (b : Binds K fd ps []) (g : mg x = some (.ref f)) :
    CalX P w K mg base k x (spOr sp spx) :=
  ⟨⟨f, fd, ps, ⟨fun vs H Q E q => q.elim (h.len vs H Q E) (hx.len vs H Q E), fun A outer s H args us vs Q E hr he hb hv hs => hs.elim ((FnOk_lift h).run A outer s H args us vs Q E hr he hb hv) (hx.run A outer s H args us vs Q E hr he hb hv)⟩, g, F.kp, b⟩⟩
end
section
variable {X : Cx} {k j : Nat} {x : Str} {sp : Sp} {E : L2.St → XK} {p pos : Pos} {e : Expr} {es : List Expr} {t : TA}
theorem pe_cX (c : CalX X.prog X.w X.K X.mg X.base k x sp) (hr : Room j X.A) (hk : k ≤ j) (hg : Gl X x) (hx : ∀ σ, PassesAt (L2.CX X.prog X.w) X σ (E σ)) (ha : PA X (e :: es) t)
    (hdb : (x == ("__debug__" : Str)) = false := by decide) (he : starEach (e :: es) X.env = (false, eval e X.env) :: starEach es X.env := by rfl) (hpl : (backTo pos (starEach es X.env)).any (·.1) = false := by rfl) :
    PE X (.Call (.Name x p) (e :: es) [] pos) (tCallS sp E t) := by
  obtain ⟨f, fd, ps, F, hm, kp, b⟩ := c.ex
  exact pe_callS F (hr.mono hk) hg hm kp b hx ha hdb he hpl
end
/-! ### the laws' look at a caught error -/
section
variable {K : PySem.W.Frag} {mg : Str → Option Value} {H : Hp} {Q : VK} {a D C : Addr} {b : Bool} {y : Str}
theorem g_isX (h : H a = some (errO D a)) (c : ExcC K D) (k : PySem.W.kitOne K (.ref D) (.ref C) = some b) (q : Q (.bl b) H) : rIsX K [.ref a, .ref C] H Q := ⟨a, D, .ref C, .ref C, b, rfl, h, c, fun _ r => r, k, q⟩
theorem g_isXB {y : String} (h : H a = some (errO D a)) (c : ExcC K D) (k : IsB K y b D) (q : Q (.bl b) H) : rIsX K [.ref a, .ty y] H Q := ⟨a, D, .ty y, .type y, b, rfl, h, c, fun _ r => r, k, q⟩
theorem g_isXT {t : Addr} {cs : List V} {cvs : List Value} (h : H a = some (errO D a)) (c : ExcC K D) (ht : SqT K H t cs) (hc : ∀ us, Vals cs us → us = cvs) (k : PySem.W.kitAny K (.ref D) cvs = some b) (q : Q (.bl b) H) : rIsXT K [.ref a, .ref t] H Q := ⟨a, D, t, cs, cvs, b, rfl, h, c, ht, hc, k, q⟩
theorem valsR : ∀ {as : List Addr} {us : List Value}, Vals (as.map V.ref) us → us = as.map Value.ref
  | [], _, .nil => rfl
  | _ :: as, _, .cons r t => by
    cases r
    rw [valsR t]; rfl
/-- an error that the laws take for the one due: of the i-th of the four classes asked for, of no other -/
structure Due (K : PySem.W.Frag) (mg : Str → Option Value) (i : Int) (D : Addr) : Prop where
  c : ExcC K D
  v : IsB K "ValueError" true D
  n0 : IsK K mg "NoNumber" (decide (i = 0)) D
  n1 : IsK K mg "NoTable" (decide (i = 1)) D
  n2 : IsK K mg "NoPoint" (decide (i = 2)) D
  n3 : IsK K mg "NoCut" (decide (i = 3)) D
  m0 : IsK K mg "NoOrder" false D
  m1 : IsK K mg "TooMany" false D
  m2 : IsK K mg "NoWeb" false D
  m3 : IsK K mg "NoText" false D
  m4 : IsK K mg "NoName" false D
  m5 : IsK K mg "NoRow" false D
def isErr (a D : Addr) : It := .ps fun H => H a = some (errO D a)
theorem _root_.Fc.Rp.errM {L : List It} (R : Rp K H L) (m : isErr a D ∈ L) : H a = some (errO D a) := R.psOf m
def sp_lis (K : PySem.W.Frag) (mg : Str → Option Value) : Sp := fun vs H Q _ => ∃ (L : List It) (a : Addr) (i : Int) (D : Addr), vs = [.ref a, .int i] ∧ Rp K H L ∧ isErr a D ∈ L ∧ Due K mg i D ∧ ∀ H', Rp K H' L → Q (.bl true) H'
end
def sp_fraction_x (mg : Str → Option Value) : Sp := fun vs H _ E => ∃ t : Int, vs = [.int t, .int 0] ∧ ∀ D, mg "NoNumber" = some (.ref D) → E (.ref D) none H
section
variable {K : PySem.W.Frag} {mg : Str → Option Value} {H : Hp} {Q : VK} {a C : Addr} {L : List It} {σ : L2.St}
theorem _root_.Fc.Rp.err {D : Addr} (R : Rp K H L) (n : H a = none) : Rp K (upd H a (errO D a)) (isErr a D :: L) := by
  obtain ⟨ps, u, r⟩ := R
  have r' := r.same (same_new (o := errO D a) n)
  refine ⟨_, .cons (p := [_]) rfl u, r'.addps (fun _ _ s e => s _ _ e) ?_⟩
  show wo _ _ a = _
  rw [wo_out (fun z => ?_), upd_same]
  obtain ⟨xs, e⟩ := r'.lists z
  rw [upd_same] at e
  have q := xs.2
  rw [← Option.some.inj e] at q
  exact q
theorem g_keep {c : Value} {i : Nat} {ts : Addr → L2.TS} {W : WX} {D : Ends} (h : PySem.W.exmOne K (.ref C) c = some true)
    (q : ∀ a, H a = none → ts a { nx := fun σ' H' => D.nx (σ'.set i none) (upd H' a (errO C a)), rt := fun _ _ => False, bk := fun _ _ => False, ct := fun _ _ => False } (σ.set i (some (.ref a))) H) : wKeep K c i ts W D (.ref C) none σ H :=
  ⟨true, h, fun _ => ⟨C, rfl, rfl, q⟩, fun z => nomatch z⟩
instance {sp : Sp} {E : L2.St → XK} {t : TA} : St1 (tCallS sp E t σ H Q) (t σ H fun vs H1 => sp vs H1 Q (E σ)) := ⟨id⟩
end
section
variable {K : PySem.W.Frag} {H : Hp} {L M1 M2 M3 M4 : List It} {x y z u : V} {d e f g : PyData} {s : Own}
theorem g_l4R {G : Addr → Prop} (R : Rp K H L) (h1 : Sel (.ow s x d) L M1) (h2 : Sel (.ow s y e) M1 M2) (h3 : Sel (.ow s z f) M2 M3) (h4 : Sel (.ow s u g) M3 M4) (k : ∀ c, H c = none → Rp K (upd H c (.lst [x, y, z, u])) (.ow (.li s) (.ref c) (.list [d, e, f, g]) :: M4) → G c) : [x, y, z, u].length ≤ sizeLine ∧ ∀ p, H p = none → G p :=
  ⟨by show 4 ≤ sizeLine; decide, fun p np => k p np (Rp.mkL (xs := [x, y, z, u]) (ds := [d, e, f, g]) ((R.sel h1).perm ((h2.perm.trans ((h3.perm.trans (h4.perm.cons _)).cons _)).cons _)) rfl np)⟩
/-- a list of ints taken apart -/
theorem g_unl {n : Nat} {t : TGs} {σ : L2.St} {Q : L2.St → Hp → Prop} {ns : List Int} {a : Addr} (xs : List V) (R : Rp K H L) (h : It.ow s (.ref a) (IL ns) ∈ L) (e : ns.map V.int = xs) (l : xs.length = n) (q : t xs σ H Q) : gUnl K n t (.ref a) σ H Q := ⟨a, xs, rfl, e ▸ R.ilS h, l, q⟩
end
/-! ### lists of ints: turned about, sets of them, cuts -/
section
variable {X : Cx} {K : PySem.W.Frag} {H : Hp} {Q : VK} {L : List Fc.It} {σ : L2.St} {ta te : TE}
theorem k_revL {e : Expr} {k : Nat} {p1 p2 p3 pos : Pos} (he : PE X e te) (h : X.K = K := by rfl) : PE X (.Subscript e (.Slice none none (some (.UnaryOp .USub (.Constant (.int 1) k p1) p2)) p3) pos) (tRevL K te) := by subst h; exact pe_revL he
/-- what asks a list -/
def kRev (K : PySem.W.Frag) (Q : VK) : VK := fun x H1 => ∃ a xs, x = .ref a ∧ SqL K H1 a xs ∧ ∀ p, H1 p = none → Q (.ref p) (upd H1 p (.lst xs.reverse))
def kLenSet (K : PySem.W.Frag) (Q : VK) : VK := fun x H1 => ∃ (l : Addr) (ns : List Int), x = V.ref l ∧ SqL K H1 l (ns.map V.int) ∧ ns.length < 2000 ∧ Q (.int ((nub ns).length : Nat)) H1
def kSortSet (K : PySem.W.Frag) (Q : VK) : VK := fun x H1 => ∃ (l : Addr) (ns : List Int), x = V.ref l ∧ SqL K H1 l (ns.map V.int) ∧ ns.length < 64 ∧ ∀ p : Addr, H1 p = none → Q (.ref p) (upd H1 p (.lst ((sortN ns).map V.int)))
instance {r r' : R2} {tb tc : TE} : St1 (tChain r r' ta tb tc σ H Q) (ta σ H fun x H1 => tb σ H1 fun y H2 => r x y H2 fun z H3 => ∃ k, z = .bl k ∧ if k = true then tc σ H3 fun w H4 => r' y w H4 Q else Q (.bl false) H3) := ⟨id⟩
instance : St1 (tRevL K te σ H Q) (te σ H (kRev K Q)) := ⟨id⟩
instance : St1 (tLenSet K te σ H Q) (te σ H (kLenSet K Q)) := ⟨id⟩
instance : St1 (tSortSet K te σ H Q) (te σ H (kSortSet K Q)) := ⟨id⟩
theorem g_revI {s : Own} {a : Addr} {ns : List Int} (R : Rp K H L) (m : Fc.It.ow s (.ref a) (IL ns) ∈ L) (q : ∀ c H', Rp K H' (.ow (.li .lf) (.ref c) (IL ns.reverse) :: L) → Q (.ref c) H') : kRev K Q (.ref a) H :=
  ⟨a, _, rfl, R.ilS m, fun p np => q p _ (by rw [← List.map_reverse]; exact R.mkI np)⟩
theorem g_lenSet {s : Own} {a : Addr} {ns : List Int} (R : Rp K H L) (m : Fc.It.ow s (.ref a) (IL ns) ∈ L) (z : ns.length < 2000) (q : Q (.int ((nub ns).length : Nat)) H) : kLenSet K Q (.ref a) H := ⟨a, ns, rfl, R.ilS m, z, q⟩
theorem g_sortSet {s : Own} {a : Addr} {ns : List Int} (R : Rp K H L) (m : Fc.It.ow s (.ref a) (IL ns) ∈ L) (z : ns.length < 64) (q : ∀ c H', Rp K H' (.ow (.li .lf) (.ref c) (IL (sortN ns)) :: L) → Q (.ref c) H') : kSortSet K Q (.ref a) H :=
  ⟨a, ns, rfl, R.ilS m, z, fun p np => q p _ (R.mkI np)⟩
end
section
variable {K : PySem.W.Frag} {H : Hp} {Q : VK} {L : List Fc.It} {s s1 : Own} {x y : V} {a b : List Int}
theorem eqv_il : PyData.eqv (IL a) (IL b) = decide (a = b) := eqvAll_ints a b
theorem g_neII (R : Rp K H L) (h1 : Fc.It.ow s x (IL a) ∈ L) (h2 : Fc.It.ow s1 y (IL b) ∈ L) (q : Q (.bl (!decide (a = b))) H) : rNeD K x y H Q := g_neR R h1 h2 (Sh.il.ok (by decide)) (Sh.il.ok (by decide)) (by rw [eqv_il]; exact q)
theorem g_eqII (R : Rp K H L) (h1 : Fc.It.ow s x (IL a) ∈ L) (h2 : Fc.It.ow s1 y (IL b) ∈ L) (q : Q (.bl (decide (a = b))) H) : rEqD K x y H Q := g_eqR R h1 h2 (Sh.il.ok (by decide)) (Sh.il.ok (by decide)) (by rw [eqv_il]; exact q)
/-- the same -/
theorem g_neIs (R : Rp K H L) (h1 : Fc.It.ow s x (IL a) ∈ L) (h2 : Fc.It.ow s1 y (IL a) ∈ L) (q : Q (.bl false) H) : rNeD K x y H Q := g_neII R h1 h2 (by rw [decide_eq_true rfl]; exact q)
end
theorem Rp.ref {K : PySem.W.Frag} {H : Hp} {L : List Fc.It} {s : Own} {x : V} {ds : List PyData} (R : Rp K H L) (h : Fc.It.ow s x (.list ds) ∈ L) : ∃ a, x = .ref a := by
  have := R.dpOf h
  cases this
  exact ⟨_, rfl⟩
/-- a number is a point of n -/
def isPt (n x : Int) : Bool := decide (0 ≤ x) && decide (x < n)
/-- the points 0 .. n - 1 that (do not) stand in a list -/
def ptsIn (n : Nat) (ps : List Int) : List Int := (rg 0 n).filter fun x => decide (x ∈ ps)
def ptsOut (n : Nat) (ps : List Int) : List Int := (rg 0 n).filter fun x => !decide (x ∈ ps)
/-- the cut that some points make -/
def cutOf (n : Nat) (ps : List Int) : Option (List Int) :=
  if ps.filter (fun x => !isPt n x) = [] then
    (if (if 0 ∈ sortN ps then ptsOut n (sortN ps) else sortN ps) = [] ∨ (if 0 ∈ sortN ps then ptsOut n (sortN ps) else sortN ps).length = n then none else some (if 0 ∈ sortN ps then ptsOut n (sortN ps) else sortN ps))
  else none
def sp_cutof (K : PySem.W.Frag) : Sp := fun vs H Q _ => ∃ (L : List Fc.It) (s : Own) (x : V) (n : Nat) (ps c : List Int), vs = [.int n, x] ∧ Rp K H L ∧ Fc.It.ow s x (IL ps) ∈ L ∧ n ≤ 1000 ∧ ps.length < 64 ∧ cutOf n ps = some c ∧ ∀ r H', Rp K H' (.ow (.li .lf) (.ref r) (IL c) :: L) → Q (.ref r) H'
def sp_cutof_x (K : PySem.W.Frag) (mg : Str → Option Value) : Sp := fun vs H _ E => ∃ (L : List Fc.It) (s : Own) (x : V) (n : Nat) (ps : List Int), vs = [.int n, x] ∧ Rp K H L ∧ Fc.It.ow s x (IL ps) ∈ L ∧ n ≤ 1000 ∧ ps.length < 64 ∧ cutOf n ps = none ∧ ∀ D, mg "NoCut" = some (.ref D) → ∀ H', Rp K H' L → E (.ref D) none H'
theorem rg_mem {x : Int} {n : Nat} : x ∈ rg 0 n ↔ 0 ≤ x ∧ x < n := by
  unfold rg
  rw [List.mem_map]
  constructor
  · rintro ⟨i, hi, rfl⟩
    have := List.mem_range.mp hi
    omega
  · rintro ⟨h1, h2⟩
    exact ⟨x.toNat, List.mem_range.mpr (by omega), by omega⟩
theorem rg_rise (n : Nat) : (rg 0 n).Pairwise (· < ·) := by
  unfold rg
  rw [List.pairwise_map]
  exact List.pairwise_lt_range.imp fun h => by omega
theorem pts_len (n : Nat) (ps : List Int) : (ptsIn n ps).length + (ptsOut n ps).length = n := by
  unfold ptsIn ptsOut
  have h := List.length_eq_countP_add_countP (fun x : Int => decide (x ∈ ps)) (l := rg 0 n)
  rw [List.countP_eq_length_filter, List.countP_eq_length_filter] at h
  have l : (rg 0 n).length = n := by unfold rg; rw [List.length_map, List.length_range]
  rw [l] at h
  have e : (fun x : Int => !decide (x ∈ ps)) = fun a => decide ¬ (decide (a ∈ ps) = true) := by
    funext a; by_cases z : a ∈ ps <;> simp [z]
  rw [e]; omega
theorem cutOf_due (n : Nat) (ps : List Int) : cutOf n ps = if ptsIn n ps = [] ∨ ptsOut n ps = [] ∨ ¬ ps.filter (fun x : Int => decide (x < 0) || decide (x ≥ (n : Int))) = [] then none else some (if 0 ∈ ptsIn n ps then ptsOut n ps else ptsIn n ps) := by
  have ef : (fun x => !isPt n x) = fun x : Int => decide (x < 0) || decide (x ≥ (n : Int)) := by
    funext x
    unfold isPt
    by_cases h1 : 0 ≤ x <;> by_cases h2 : x < n <;> simp [h1, h2] <;> omega
  unfold cutOf
  rw [ef]
  by_cases hb : ps.filter (fun x : Int => decide (x < 0) || decide (x ≥ (n : Int))) = []
  · have all : ∀ x ∈ ps, 0 ≤ x ∧ x < n := fun x hx => by
      have := List.filter_eq_nil_iff.mp hb x hx
      simp at this; omega
    have e1 : sortN ps = ptsIn n ps := rise_eq (sortN_rise ps) ((rg_rise n).sublist List.filter_sublist) fun k => by
      unfold ptsIn
      rw [sortN_mem, List.mem_filter, rg_mem, decide_eq_true_eq]
      exact ⟨fun h => ⟨all k h, h⟩, fun h => h.2⟩
    have e2 : ptsOut n (sortN ps) = ptsOut n ps := by
      unfold ptsOut
      congr 1; funext x
      by_cases h : x ∈ ps
      · rw [decide_eq_true h, decide_eq_true (sortN_mem.mpr h)]
      · rw [decide_eq_false h, decide_eq_false (fun z => h (sortN_mem.mp z))]
    rw [if_pos hb, e2, e1]
    have hl := pts_len n ps
    by_cases h0 : (0 : Int) ∈ ptsIn n ps
    · simp only [if_pos h0]
      have hne : ptsIn n ps ≠ [] := fun z => by rw [z] at h0; cases h0
      have hpos := List.length_pos_iff.mpr hne
      by_cases ho : ptsOut n ps = []
      · rw [if_pos (.inl ho), if_pos (.inr (.inl ho))]
      · rw [if_neg (fun z => z.elim ho fun z => by omega), if_neg (fun z => z.elim hne fun z => z.elim ho fun z => z hb)]
    · simp only [if_neg h0]
      by_cases hi : ptsIn n ps = []
      · rw [if_pos (.inl hi), if_pos (.inl hi)]
      · by_cases ho : ptsOut n ps = []
        · rw [if_pos (.inr (by rw [ho, List.length_nil] at hl; omega)), if_pos (.inr (.inl ho))]
        · have hpos := List.length_pos_iff.mpr ho
          rw [if_neg (fun z => z.elim hi fun z => by omega), if_neg (fun z => z.elim hi fun z => z.elim ho fun z => z hb)]
  · rw [if_neg hb, if_pos (.inr (.inr hb))]
section
variable {K : PySem.W.Frag} {H : Hp} {Q : VK} {L L1 : List Fc.It} {a : Addr} {ns : List Int} {i : Int}
theorem seqIx {i : Int} {n k : Nat} (hi : i = (k : Nat)) (h : k < n) : seqIndex? i n = some k := by
  unfold seqIndex?
  subst hi
  have e : (if (k : Int) < 0 then (k : Int) + (n : Int) else (k : Int)) = (k : Int) := if_neg (by omega)
  simp only [e]
  rw [if_pos (by simp; omega), Int.toNat_natCast]
/-- an own list's int is taken out -/
theorem g_popI {k : Nat} (R : Rp K H L) (h : Sel (.ow (.li .lf) (.ref a) (IL ns)) L L1) (hi : i = (k : Nat)) (hk : k < ns.length) (b : i < 2 ^ 63) (q : ∀ H', Rp K H' (.ow (.li .lf) (.ref a) (IL (ns.eraseIdx k)) :: L1) → Q (.int ns[k]) H') : rPopAt (.ref a) [.int i] H Q := by
  obtain ⟨a', e, R1⟩ := (R.sel h).ilTop
  cases e
  refine ⟨a, _, i, k, _, rfl, rfl, R1.topAt, by omega, b, seqIx hi (by rw [List.length_map]; exact hk), by rw [List.getElem?_map, List.getElem?_eq_getElem hk]; rfl, q _ ?_⟩
  rw [L2.erase_mapI]
  exact R1.mut.il
theorem cutV_to {xs : List V} {k : Nat} (h : k ≤ xs.length) : cutV xs none (some (k : Int)) = xs.take k := by
  unfold cutV
  rw [HT.sIx_none, HT.sIx_nat, List.drop_zero, Nat.sub_zero, Nat.min_eq_left h]
theorem cutV_from {xs : List V} {k : Nat} (h : k ≤ xs.length) : cutV xs (some (k : Int)) none = xs.drop k := by
  unfold cutV
  rw [HT.sIx_none, HT.sIx_nat, Nat.min_eq_left h, List.take_of_length_le (by rw [List.length_drop]; omega)]
theorem g_slTo {k : Nat} {s : Own} (R : Rp K H L) (m : Fc.It.ow s (.ref a) (IL ns) ∈ L) (hi : i = (k : Nat)) (hk : k ≤ ns.length) (q : ∀ c H', Rp K H' (.ow (.li .lf) (.ref c) (IL (ns.take k)) :: L) → Q (.ref c) H') : rSlL K (.ref a) none (some i) H Q :=
  ⟨a, _, rfl, R.ilS m, fun p np => q p _ (by subst hi; rw [cutV_to (by rw [List.length_map]; exact hk), ← List.map_take]; exact R.mkI np)⟩
theorem g_slFrom {k : Nat} {s : Own} (R : Rp K H L) (m : Fc.It.ow s (.ref a) (IL ns) ∈ L) (hi : i = (k : Nat)) (hk : k ≤ ns.length) (q : ∀ c H', Rp K H' (.ow (.li .lf) (.ref c) (IL (ns.drop k)) :: L) → Q (.ref c) H') : rSlL K (.ref a) (some i) none H Q :=
  ⟨a, _, rfl, R.ilS m, fun p np => q p _ (by subst hi; rw [cutV_from (by rw [List.length_map]; exact hk), ← List.map_drop]; exact R.mkI np)⟩
end
/-! ### drawn tables -/
/-- distances: alike both ways, nought from a point to itself, none below nought, small enough -/
structure Tab (g : Nat → Nat → Rat) : Prop where
  sy : ∀ i j, g i j = g j i
  di : ∀ i, g i i = 0
  po : ∀ i j, 0 ≤ g i j
  bd : ∀ i j, Bd 134 (g i j)
section
variable {K : PySem.W.Frag} {H : Hp} {Q : VK} {L : List Fc.It}
/-- the display (i, 1) -/
theorem g_frI {G : Addr → Prop} {i : Int} (R : Rp K H L) (k : ∀ p, H p = none → Rp K (upd H p (.tup [.int i, .int 1])) (.sh (.ref p) (FD ((i : Int) : Rat)) :: L) → G p) : [V.int i, V.int 1].length ≤ sizeLine ∧ ∀ p, H p = none → G p :=
  ⟨two_le, fun p np => k p np (R.frN (x := ((i : Int) : Rat)) np)⟩
end
theorem g_listS {K : PySem.W.Frag} {H : Hp} {Q : VK} {L : List Fc.It} {a : Addr} {ds : List PyData} (R : Rp K H L) (m : Fc.It.sh (.ref a) (.list ds) ∈ L) (q : ∀ c H', Rp K H' (.ow (.li .lf) (.ref c) (.list ds) :: L) → Q (.ref c) H') : rListOf K [.ref a] H Q := by
  obtain ⟨b, ys, e, l, eb, R2⟩ := R.shAll m
  cases e
  exact ⟨a, ys, rfl, .inl (SqL.of eb), fun p np => q p _ (Rp.mkL R2 l np)⟩
theorem map_getD {α β : Type} (f : α → β) (d : α) (l : List α) : l.map f = (List.range l.length).map fun i => f (l.getD i d) := by
  apply List.ext_getElem
  · simp
  · intro i h1 h2
    rw [List.length_map] at h1
    simp [List.getD_eq_getElem?_getD, h1]
/-- a drawn distance -/
def sp_dist (K : PySem.W.Frag) (Pr : Rat → Prop) : Sp := fun vs H Q _ => ∃ (L L1 : List Fc.It) (p : Addr) (n : Nat), vs = [.ref p] ∧ Rp K H L ∧ Sel (.pr (PoolP n) p) L L1 ∧ n ≤ 2 ^ 50 ∧
  ∀ a x H', 0 ≤ x → Bd 134 x → Pr x → Rp K H' (.sh (.ref a) (FD x) :: .pr (PoolP (n + 30)) p :: L1) → Q (.ref a) H'
/-- a drawn table, its rows each its own -/
def sp_dtable (K : PySem.W.Frag) (Pr : Rat → Prop) (u : Nat) : Sp := fun vs H Q _ => ∃ (L L1 : List Fc.It) (p : Addr) (n m : Nat), vs = [.ref p, .int m] ∧ Rp K H L ∧ Sel (.pr (PoolP n) p) L L1 ∧ n + u ≤ 2 ^ 41 ∧ m ≤ 10 ∧
  ∀ a g H', Tab g → (∀ i j, Pr (g i j)) → Rp K H' (.ow oT (.ref a) (TD (tabG m g)) :: .pr (PoolP (n + u)) p :: L1) → Q (.ref a) H'
theorem divInt_nn {t b : Int} (ht : 0 ≤ t) (hb : 0 < b) : 0 ≤ Rat.divInt t b := by
  rcases Int.lt_or_eq_of_le ht with h | h
  · rw [Rat.divInt_eq_div, Rat.div_def]
    have h1 : (0 : Rat) < (t : Rat) := by exact_mod_cast h
    have h2 : (0 : Rat) < (b : Rat) := by exact_mod_cast hb
    exact Rat.le_of_lt (Rat.mul_pos h1 (Rat.inv_pos.mpr h2))
  · subst h
    rw [Rat.divInt_eq_div, Rat.div_def]
    simp
/-- the part for some points -/
def partT (g : Nat → Nat → Rat) (ps : List Int) : List (List Rat) := ps.map fun i => ps.map fun j => g i.toNat j.toNat
/-- points that make a part -/
def PtsOk (n : Nat) (ps : List Int) : Prop := ps ≠ [] ∧ ps.Nodup ∧ ∀ p ∈ ps, isPt n p = true
def sp_part (K : PySem.W.Frag) : Sp := fun vs H Q _ => ∃ (L : List Fc.It) (s : Own) (x y : V) (n : Nat) (g : Nat → Nat → Rat) (ps : List Int), vs = [x, y] ∧ Rp K H L ∧ Fc.It.sh x (TD (tabG n g)) ∈ L ∧ Fc.It.ow s y (IL ps) ∈ L ∧ n ≤ 1000 ∧ ps.length < 1000 ∧ PtsOk n ps ∧
  ∀ a H', Rp K H' (.ow oT (.ref a) (TD (partT g ps)) :: L) → Q (.ref a) H'
def sp_part_x (K : PySem.W.Frag) (mg : Str → Option Value) : Sp := fun vs H _ E => ∃ (L : List Fc.It) (s : Own) (x y : V) (n : Nat) (g : Nat → Nat → Rat) (ps : List Int), vs = [x, y] ∧ Rp K H L ∧ Fc.It.sh x (TD (tabG n g)) ∈ L ∧ Fc.It.ow s y (IL ps) ∈ L ∧ n ≤ 1000 ∧ ps.length < 1000 ∧ ¬ PtsOk n ps ∧
  ∀ D, mg "NoPoint" = some (.ref D) → ∀ H', Rp K H' L → E (.ref D) none H'
/-- a copy -/
def sp_copied (K : PySem.W.Frag) : Sp := fun vs H Q _ => ∃ (L : List Fc.It) (x : V) (t : List (List Rat)), vs = [x] ∧ Rp K H L ∧ Fc.It.sh x (TD t) ∈ L ∧ t.length ≤ 1000 ∧ (∀ r ∈ t, r.length ≤ 1000) ∧ ∀ a H', Rp K H' (.ow oT (.ref a) (TD t) :: L) → Q (.ref a) H'
/-- drawn points -/
def sp_points (K : PySem.W.Frag) : Sp := fun vs H Q _ => ∃ (L L1 : List Fc.It) (p : Addr) (n m : Nat), vs = [.ref p, .int m] ∧ Rp K H L ∧ Sel (.pr (PoolP n) p) L L1 ∧ n ≤ 2 ^ 50 ∧ 1 ≤ m ∧ m ≤ 1000 ∧
  ∀ a ps H', PtsOk m ps → ps.length ≤ m → Rp K H' (.ow (.li .lf) (.ref a) (IL ps) :: .pr (PoolP (n + 1100)) p :: L1) → Q (.ref a) H'
/-! ### str(X('m')) -/
open Builtin Builtin.Str in
section
variable {prog : Program} {w : World} {A : Around} {E : Value → Shared → Prop} {s : Shared} {K : PySem.W.Frag} {C e t0 : Addr}
theorem strOf_exc (hu : A.units < cLine) {m : Str} {tk : Tok} {Q : Value → Shared → Prop} (x : PySem.ExcC K C e t0 s.heap) (ht : s.heap.TupAt t0 [.str m tk]) (hs : PySem.W.findIn K (.ref C) "__str__" = some (some (.builtin "BaseException.__str__"))) (hB : PySem.W.subIn K (.ref C) (.type "BaseException") = some true)
    (hq : Q (.str m tk) s) : wpAny (model prog w) A (Builtin.Str.strOf (.ref e)) Q E s := by
  have hf : PySem.W.Looks (model prog w) s.heap (typeLookup (.ref C) "__str__") (some (.builtin "BaseException.__str__")) := PySem.W.looks_findIn x.1 hs
  unfold Builtin.Str.strOf
  repeat (first | with_reducible refine wpAny_cRoomFor hu ?_ | with_reducible refine callSpecial_C x.LT hf (PySem.F.excStr_Exception.str.bind _) (call_bexcStr_C x hB (bexcStr_C_one x ht ⟨_, rfl, ?_⟩)) | wp_step)
  exact hq
theorem str_of_exc {m : Str} {tk : Tok} {Q : Value → Shared → Prop} (hu : A.units + 64 < cLine) (x : PySem.ExcC K C e t0 s.heap) (ht : s.heap.TupAt t0 [.str m tk]) (hs : PySem.W.findIn K (.ref C) "__str__" = some (some (.builtin "BaseException.__str__"))) (hB : PySem.W.subIn K (.ref C) (.type "BaseException") = some true)
    (h : Q (.str m tk) s) : wpAny (model prog w) A (call (.type "str") [.ref e]) Q E s :=
  callType_new PySem.F.called_str (by decide) (PySem.F.typeCall_str_1 _) (PySem.F.newCall_str_1 _) (fun obj => PySem.F.args_object_init_2 obj _) PySem.F.entry_str_new
    (meets_str_new (S := fun A R s => A.in1.units < cLine ∧ PySem.ExcC K C e t0 s.heap ∧ s.heap.TupAt t0 [.str m tk] ∧ R (.ok (.ret (.str m tk))) s) fun _ _ _ _ _ ⟨hu, x, ht, hq⟩ => strOf_exc hu x ht hs hB hq) ⟨by show A.units + 1 + 1 < cLine; omega, x, ht, typeIs_str _ _ _, h⟩
end
/-- str(X('m')), X an error of one's own -/
theorem pe_strE {X : Cx} {C : Addr} {x m : Str} {j : Nat} {p p2 p3 pos pos2 : Pos} (hg : Gl X "str") (hm : X.mg "str" = none) (e : Err X.K C) (hs : PySem.W.findIn X.K (.ref C) "__str__" = some (some (.builtin "BaseException.__str__"))) (gC : X.mg x = some (.ref C)) (hgx : Gl X x) (hu : X.A.units + 64 < cLine)
    (hdb : (x == ("__debug__" : Str)) = false := by decide) : PE X (.Call (.Name "str" p) [.Call (.Name x p2) [.Constant (.str m) j p3] [] pos2] [] pos) (tC (.str m)) := by
  refine ⟨fun pins s σ H Q I h => Call_ (ld_blt I hg hm boot_str (PyProof.Rows.callWith_type1 (PyProof.Rows.args_cons ?_ (by rfl)) (by rfl) rfl))⟩
  refine wpAny_Call_Name_kw (ld_glob I hgx gC ?_ hdb)
  have he : PE X (.Constant (.str m) j p3) (tC (.str m)) := pe_str
  have st : starEach [Expr.Constant (.str m) j p3] X.env = (false, eval (.Constant (.str m) j p3) X.env) :: starEach [] X.env := rfl
  refine PySem.W.callWith_K (h₀ := X.base) I.ok.mod.kin e.k ?_ st (by rfl)
  rw [st]
  show wpAny _ _ (spliced ((false, eval (.Constant (.str m) j p3) X.env) :: backTo pos2 (starEach [] X.env))) _ _ s
  refine Calls.spliced_cons (thn (he.run pins s σ H (fun v H1 => v = .str m ∧ H = H1) I ⟨rfl, rfl⟩) fun u s1 ⟨v, H1, I1, r1, ev, eH⟩ => Calls.spliced_nil ⟨I1.kIn, ?_⟩)
  subst ev eH
  obtain ⟨tk, rfl⟩ := r1
  show wpAny _ _ (call (.ref C) [_]) _ _ _
  obtain ⟨bm, N, nm, qn, bs, hdct, sn, sub, ab, col, dd, k0, k1, k2, k3, k5, mN, hC, hN, hni, T⟩ := exc_obj I1.kIn e.q
  refine wpAny_call_exc_subT PySem.F.excBase_ValueError T hC hN hni (fun h' a hm2 => PyProof.Rows.args_nil ?_) (by show 1 ≤ sizeLine; rw [sizeLine_eq]; omega)
  have I2 := I1.kept (t' := s1.toks) hm2.keeps
  obtain ⟨t, ht, _, htt⟩ := hm2.there
  refine str_of_exc hu ⟨I2.kIn, _, _, ht, rfl, rfl, rfl⟩ ⟨_, _, htt, rfl, rfl⟩ hs e.c.hs ⟨.str m, H, I2, ⟨_, rfl⟩, h⟩
/-! ### whole tables, least ones, sides of cuts -/
def rMax3 : List V → Hp → VK → Prop := fun xs H Q => ∃ i j k, xs = [.int i, .int j, .int k] ∧ Q (.int (max (max i j) k)) H
theorem cr_max3 {X : Cx} (h : X.calm = true) : CallR X (.builtin "max") rMax3 := by
  intro pins s σ H xs us Q I r hq
  obtain ⟨i, j, k, rfl, q⟩ := hq
  refine call_max3Nu h pins s σ H _ us Q I r ⟨.int i, .int j, .int k, .int (max (max i j) k), rfl, ?_, q⟩
  show ((nuLt (.int i) (.int j)).map fun c => if c = true then V.int j else .int i).bind (fun m => (nuLt m (.int k)).map fun c => if c = true then V.int k else m) = _
  show (((some (decide (i < j))).map fun c => if c = true then V.int j else .int i).bind (fun m => (nuLt m (.int k)).map fun c => if c = true then V.int k else m)) = _
  have e1 : (if decide (i < j) = true then V.int j else .int i) = .int (max i j) := by
    by_cases h : i < j
    · rw [decide_eq_true h, if_pos rfl, show max i j = j by omega]
    · rw [decide_eq_false h, if_neg (by decide), show max i j = i by omega]
  show (nuLt (if decide (i < j) = true then V.int j else .int i) (.int k)).map (fun c => if c = true then V.int k else (if decide (i < j) = true then V.int j else .int i)) = _
  rw [e1]
  show (some (decide (max i j < k))).map (fun c => if c = true then V.int k else .int (max i j)) = _
  show some (if decide (max i j < k) = true then V.int k else .int (max i j)) = _
  by_cases h : max i j < k
  · rw [decide_eq_true h, if_pos rfl, show max (max i j) k = k by omega]
  · rw [decide_eq_false h, if_neg (by decide), show max (max i j) k = max i j by omega]
section
variable {H : Hp} {Q : VK} {i j k : Int}
theorem g_max3 (q : Q (.int (max (max i j) k)) H) : rMax3 [.int i, .int j, .int k] H Q := ⟨i, j, k, rfl, q⟩
instance : St1 (rMax3 [.int i, .int j, .int k] H Q) (Q (.int (max (max i j) k)) H) := ⟨g_max3⟩
end
section
variable {K : PySem.W.Frag} {H H' : Hp} {Q : VK} {L L' L1 L2 A B : List Fc.It} {a b p r : Addr} {xs ys : List V} {v x y z : V} {d e f : PyData} {ds es : List PyData} {s s1 s2 s3 : Own} {i j m : Int} {n k l : Nat} {g : Nat → Nat → Int}
/-- extend by a list of one's own -/
theorem g_extR (R : Rp K H L) (h1 : Sel (.ow (.li s) (.ref a) (.list ds)) L L1) (h2 : Sel (.ow (.li s) (.ref b) (.list es)) L1 L2) (z : ds.length + es.length ≤ 100000) (q : ∀ H', Rp K H' (.ow (.li s) (.ref a) (.list (ds ++ es)) :: L2) → Q .non H') : rExtend (.ref a) [.ref b] H Q := by
  have R1 : Rp K H (.ow (.li s) (.ref a) (.list ds) :: .ow (.li s) (.ref b) (.list es) :: L2) := (R.sel h1).perm (h2.perm.cons _)
  obtain ⟨a', xs, e1, l1, R2⟩ := R1.take
  cases e1
  have ea := R2.topAt
  have R3 : Rp K H (.ow (.li s) (.ref b) (.list es) :: .top a xs :: (each s xs ds ++ L2)) := R2.perm ((List.perm_middle.cons _).trans (.swap _ _ _))
  obtain ⟨b', ys, e2, l2, R4⟩ := R3.take
  cases e2
  refine ⟨a, b, xs, ys, rfl, rfl, ea, R4.topAt, sz_le (by omega), q _ ?_⟩
  have R5 : Rp K H (.top a xs :: (each s xs ds ++ (each s ys es ++ L2))) := by
    refine R4.tail.perm ?_
    refine (List.perm_middle (l₁ := each s ys es) (a := Fc.It.top a xs) (l₂ := each s xs ds ++ L2)).trans (.cons _ ?_)
    rw [← List.append_assoc, ← List.append_assoc]
    exact List.perm_append_comm.append_right _
  have R6 : Rp K (upd H a (.lst (xs ++ ys))) (.top a (xs ++ ys) :: (each s xs ds ++ (each s ys es ++ L2))) := R5.mut
  rw [← List.append_assoc, ← each_app l1] at R6
  exact R6.put (by rw [List.length_append, List.length_append, l1, l2])
/-- rows of whole numbers: a row, a cell, a cell set -/
theorem g_ixGI (k : Nat) (R : Rp K H L) (h : Fc.It.ow s (.ref a) (LD (tabG n g)) ∈ L) (hi : i = (k : Nat)) (hk : k < n) (q : ∀ r, SqL K H r (((List.range n).map (g k)).map V.int) → (∃ xs, H a = some (.lst xs) ∧ xs[k]? = some (.ref r)) → Q (.ref r) H) : rIxL K (.ref a) (.int i) H Q := by
  obtain ⟨xs, h1, h2⟩ := R.raw h
  obtain ⟨w, hw, hd⟩ := DqAll.get h2 (i := k) (d := IL ((List.range n).map (g k))) (by
    unfold tabG
    rw [List.map_map, List.getElem?_map, List.getElem?_range hk]; rfl)
  obtain ⟨r, vs, rfl, h3, h4⟩ := Dq.lstI hd
  refine g_ixL (SqL.of h1) (by rw [hi]; exact atI_nat hw) (q r ?_ ⟨xs, h1, hw⟩)
  have e : vs = ((List.range n).map (g k)).map V.int := by
    have : ∀ {vs : List V} {ns : List Int}, DqAll K H vs (ns.map PyData.int) → vs = ns.map V.int := by
      intro vs ns
      induction ns generalizing vs with
      | nil => intro h; cases h; rfl
      | cons z ns ih =>
        intro h
        cases h with
        | cons h1 h2 =>
          cases h1
          rw [ih h2]; rfl
    exact this h4
  rw [← e]
  exact SqL.of h3
theorem g_ixRI {f : Nat → Int} (l : Nat) (h : SqL K H r (((List.range n).map f).map V.int)) (hj : j = (l : Nat)) (hl : l < n) (q : Q (.int (f l)) H) : rIxL K (.ref r) (.int j) H Q :=
  g_ixL h (by rw [hj]; exact atI_nat (by rw [List.map_map, List.getElem?_map, List.getElem?_range hl]; rfl)) q
theorem g_set2I (k l : Nat) (R : Rp K H L) (h1 : Sel (.ow oT (.ref a) (LD (tabG n g))) L L1) (hk : k < n) (hr : ∃ xs, H a = some (.lst xs) ∧ xs[k]? = some (.ref r)) (hj : j = (l : Nat)) (hl : l < n) {G : Hp → Prop}
    (q : ∀ H', Rp K H' (.ow oT (.ref a) (LD (tabG n fun a b => if a = k ∧ b = l then m else g a b)) :: L1) → G H') : rSetL (.ref r) (.int j) (.int m) H G := by
  have R1 : Rp K H (.ow oT (.ref a) (LD (tabG n g)) :: .sh (.int m) (.int m) :: L1) := ((R.sel h1).int m).perm (.swap _ _ _)
  obtain ⟨a', xs, ea, lx, R2⟩ := R1.take
  cases ea
  obtain ⟨xs', e', hx⟩ := hr
  obtain rfl : xs' = xs := by have := R2.topAt; rw [e'] at this; cases this; rfl
  have hk' : k < (tabG n g).length := by rw [tabG_len]; exact hk
  have hd : ((tabG n g).map IL)[k]? = some (IL ((tabG n g).getD k [])) := by rw [List.getElem?_map, List.getD_eq_getElem?_getD, List.getElem?_eq_getElem hk']; rfl
  obtain ⟨C, R3, back⟩ := R2.focus2 hx hd
  have R4 : Rp K H (.ow (.li .lf) (.ref r) (IL ((tabG n g).getD k [])) :: .sh (.int m) (.int m) :: .top a xs' :: (C ++ L1)) := R3.perm (.cons _ ((List.Perm.cons _ List.perm_middle).trans (.swap _ _ _)))
  have hm : l < ((tabG n g).getD k []).length := by rw [tabG_row hk, List.length_map, List.length_range]; exact hl
  obtain ⟨vs', ev, lv, R5⟩ := R4.setOw (k := l) (by rw [List.length_map]; exact hm)
  refine ⟨r, vs', j, l, rfl, rfl, ev, ?_, ?_⟩
  · unfold ixN
    rw [List.length_map] at lv
    rw [hj, if_pos (by omega), if_pos (by omega)]
    rfl
  · refine q _ ?_
    have R6 := back _ xs' (.ref r) (IL (((tabG n g).getD k []).set l m)) L1 (by rw [show IL (((tabG n g).getD k []).set l m) = .list ((((tabG n g).getD k []).map PyData.int).set l (PyData.int m)) by rw [← List.map_set]]; exact R5)
    have ex : xs'.set k (.ref r) = xs' := by
      obtain ⟨l1, e1⟩ := List.getElem?_eq_some_iff.mp hx
      rw [← e1, List.set_getElem_self]
    rw [ex, ← List.map_set] at R6
    rw [← tabG_set hk hl m]
    exact R6.put (by rw [lx, List.length_map, List.length_map, List.length_set])
end
/-- the least of a list -/
def minL (l : List Int) : Option Int := l.foldl (fun f y => some (match f with | none => y | some m => if y < m then y else m)) none
theorem minL_snoc (l : List Int) (y : Int) : minL (l ++ [y]) = some (match minL l with | none => y | some m => if y < m then y else m) := by unfold minL; rw [List.foldl_append]; rfl
theorem minL_acc : ∀ (l : List Int) (m : Int), ∃ z, l.foldl (fun f y => some (match f with | none => y | some m => if y < m then y else m)) (some m) = some z ∧ (z = m ∨ z ∈ l) ∧ z ≤ m ∧ ∀ y ∈ l, z ≤ y
  | [], m => ⟨m, rfl, .inl rfl, Int.le_refl _, fun _ h => (by cases h)⟩
  | x :: l, m => by
    obtain ⟨z, e, h1, h2, h3⟩ := minL_acc l (if x < m then x else m)
    refine ⟨z, e, ?_, ?_, fun y hy => ?_⟩
    · rcases h1 with h1 | h1
      · by_cases c : x < m
        · rw [if_pos c] at h1; exact .inr (by rw [h1]; exact .head _)
        · rw [if_neg c] at h1; exact .inl h1
      · exact .inr (.tail _ h1)
    · by_cases c : x < m
      · rw [if_pos c] at h2; omega
      · rw [if_neg c] at h2; omega
    · rcases List.mem_cons.mp hy with rfl | hy
      · by_cases c : y < m
        · rw [if_pos c] at h2; omega
        · rw [if_neg c] at h2; omega
      · exact h3 y hy
theorem minL_ok : ∀ (l : List Int), (l = [] ∧ minL l = none) ∨ ∃ z, minL l = some z ∧ z ∈ l ∧ ∀ y ∈ l, z ≤ y
  | [] => .inl ⟨rfl, rfl⟩
  | x :: l => by
    obtain ⟨z, e, h1, h2, h3⟩ := minL_acc l x
    refine .inr ⟨z, e, ?_, fun y hy => ?_⟩
    · rcases h1 with rfl | h1
      · exact .head _
      · exact .tail _ h1
    · rcases List.mem_cons.mp hy with rfl | hy
      · exact h2
      · exact h3 y hy
/-- least among what has P -/
def Lst (P : Int → Prop) (z : Int) : Prop := P z ∧ ∀ y, P y → z ≤ y
theorem Lst.uniq {P : Int → Prop} {y z : Int} (a : Lst P y) (b : Lst P z) : y = z := by
  have := a.2 z b.1; have := b.2 y a.1; omega
theorem Lst.iff {P P' : Int → Prop} {z : Int} (h : Lst P z) (e : ∀ y, P y ↔ P' y) : Lst P' z := ⟨(e z).mp h.1, fun y hy => h.2 y ((e y).mpr hy)⟩
def optV : Option Int → V
  | none => .non
  | some i => .int i
/-- what four points are over -/
def ov (r : Nat → Nat → Int) (a b c e : Int) : Int :=
  max (max (r a.toNat b.toNat + r c.toNat e.toNat) (r a.toNat c.toNat + r b.toNat e.toNat)) (r a.toNat e.toNat + r b.toNat c.toNat) - (r a.toNat b.toNat + r c.toNat e.toNat)
theorem ov_symA {r : Nat → Nat → Int} (sy : ∀ i j, r i j = r j i) (a b c e : Int) : ov r a b c e = ov r b a c e := by
  unfold ov
  rw [sy b.toNat a.toNat]
  omega
theorem ov_symB {r : Nat → Nat → Int} (sy : ∀ i j, r i j = r j i) (a b c e : Int) : ov r a b c e = ov r a b e c := by
  unfold ov
  rw [sy e.toNat c.toNat]
  omega
/-- what is over, of a side and others -/
def OvP (r : Nat → Nat → Int) (A B : List Int) (y : Int) : Prop := ∃ a b c e, a ∈ A ∧ b ∈ A ∧ c ∈ B ∧ e ∈ B ∧ y = ov r a b c e
/-- pairs of points, each with itself too -/
def prsL : List Int → List (Int × Int)
  | [] => []
  | x :: l => (x :: l).map (fun y => (x, y)) ++ prsL l
theorem prsL_mem : ∀ {l : List Int} {p : Int × Int}, p ∈ prsL l → p.1 ∈ l ∧ p.2 ∈ l
  | x :: l, p, h => by
    rcases List.mem_append.mp h with h | h
    · obtain ⟨y, hy, rfl⟩ := List.mem_map.mp h
      exact ⟨List.mem_cons_self, hy⟩
    · obtain ⟨h1, h2⟩ := prsL_mem h
      exact ⟨.tail _ h1, .tail _ h2⟩
theorem prsL_all : ∀ {l : List Int} {a b : Int}, a ∈ l → b ∈ l → (a, b) ∈ prsL l ∨ (b, a) ∈ prsL l
  | x :: l, a, b, ha, hb => by
    rcases List.mem_cons.mp ha with rfl | ha'
    · exact .inl (List.mem_append_left _ (List.mem_map.mpr ⟨b, hb, rfl⟩))
    · rcases List.mem_cons.mp hb with rfl | hb'
      · exact .inr (List.mem_append_left _ (List.mem_map.mpr ⟨a, ha, rfl⟩))
      · rcases prsL_all ha' hb' with h | h
        · exact .inl (List.mem_append_right _ h)
        · exact .inr (List.mem_append_right _ h)
theorem prsL_drop (l : List Int) (k : Nat) (h : k < l.length) : prsL (l.drop k) = (l.drop k).map (fun y => (l.getD k 0, y)) ++ prsL (l.drop (k + 1)) := by
  have e : l.drop k = l[k] :: l.drop (k + 1) := List.drop_eq_getElem_cons h
  rw [e]
  show (l[k] :: l.drop (k + 1)).map (fun y => (l[k], y)) ++ prsL (l.drop (k + 1)) = _
  rw [List.getD_eq_getElem?_getD, List.getElem?_eq_getElem h]; rfl
/-- all values, in the order of the loops -/
def ovL (r : Nat → Nat → Int) (A B : List (Int × Int)) : List Int := A.flatMap fun p => B.map fun q => ov r p.1 p.2 q.1 q.2
theorem ovL_ok {r : Nat → Nat → Int} (sy : ∀ i j, r i j = r j i) {A B : List Int} (hA : A ≠ []) (hB : B ≠ []) : ∃ z, minL (ovL r (prsL A) (prsL B)) = some z ∧ Lst (OvP r A B) z := by
  have all : ∀ y, OvP r A B y ↔ y ∈ ovL r (prsL A) (prsL B) := fun y => by
    constructor
    · rintro ⟨a, b, c, e, ha, hb, hc, he, rfl⟩
      unfold ovL
      rcases prsL_all ha hb with h | h <;> rcases prsL_all hc he with h' | h'
      · exact List.mem_flatMap.mpr ⟨_, h, List.mem_map.mpr ⟨_, h', rfl⟩⟩
      · rw [ov_symB sy]; exact List.mem_flatMap.mpr ⟨_, h, List.mem_map.mpr ⟨_, h', rfl⟩⟩
      · rw [ov_symA sy]; exact List.mem_flatMap.mpr ⟨_, h, List.mem_map.mpr ⟨_, h', rfl⟩⟩
      · rw [ov_symA sy, ov_symB sy]; exact List.mem_flatMap.mpr ⟨_, h, List.mem_map.mpr ⟨_, h', rfl⟩⟩
    · intro h
      obtain ⟨p, hp, h⟩ := List.mem_flatMap.mp h
      obtain ⟨q, hq, rfl⟩ := List.mem_map.mp h
      exact ⟨p.1, p.2, q.1, q.2, (prsL_mem hp).1, (prsL_mem hp).2, (prsL_mem hq).1, (prsL_mem hq).2, rfl⟩
  obtain ⟨x, A, rfl⟩ : ∃ x A', A = x :: A' := by cases A with | nil => exact (hA rfl).elim | cons x A => exact ⟨x, A, rfl⟩
  obtain ⟨y, B, rfl⟩ : ∃ x A', B = x :: A' := by cases B with | nil => exact (hB rfl).elim | cons x A => exact ⟨x, A, rfl⟩
  rcases minL_ok (ovL r (prsL (x :: A)) (prsL (y :: B))) with ⟨e, _⟩ | ⟨z, e, h1, h2⟩
  · have : ov r x x y y ∈ ovL r (prsL (x :: A)) (prsL (y :: B)) := (all _).mp ⟨x, x, y, y, .head _, .head _, .head _, .head _, rfl⟩
    rw [e] at this; cases this
  · exact ⟨z, e, (all z).mpr h1, fun w hw => h2 w ((all w).mp hw)⟩
/-- all values, of all four -/
def ovL4 (r : Nat → Nat → Int) (A B : List Int) : List Int := A.flatMap fun a => A.flatMap fun b => B.flatMap fun c => B.map fun e => ov r a b c e
theorem ovL4_ok {r : Nat → Nat → Int} {A B : List Int} (hA : A ≠ []) (hB : B ≠ []) : ∃ z, minL (ovL4 r A B) = some z ∧ Lst (OvP r A B) z := by
  have all : ∀ y, OvP r A B y ↔ y ∈ ovL4 r A B := fun y => by
    unfold ovL4
    constructor
    · rintro ⟨a, b, c, e, ha, hb, hc, he, rfl⟩
      exact List.mem_flatMap.mpr ⟨a, ha, List.mem_flatMap.mpr ⟨b, hb, List.mem_flatMap.mpr ⟨c, hc, List.mem_map.mpr ⟨e, he, rfl⟩⟩⟩⟩
    · intro h
      obtain ⟨a, ha, h⟩ := List.mem_flatMap.mp h
      obtain ⟨b, hb, h⟩ := List.mem_flatMap.mp h
      obtain ⟨c, hc, h⟩ := List.mem_flatMap.mp h
      obtain ⟨e, he, rfl⟩ := List.mem_map.mp h
      exact ⟨a, b, c, e, ha, hb, hc, he, rfl⟩
  obtain ⟨x, A, rfl⟩ : ∃ x A', A = x :: A' := by cases A with | nil => exact (hA rfl).elim | cons x A => exact ⟨x, A, rfl⟩
  obtain ⟨y, B, rfl⟩ : ∃ x A', B = x :: A' := by cases B with | nil => exact (hB rfl).elim | cons x A => exact ⟨x, A, rfl⟩
  rcases minL_ok (ovL4 r (x :: A) (y :: B)) with ⟨e, _⟩ | ⟨z, e, h1, h2⟩
  · have : ov r x x y y ∈ ovL4 r (x :: A) (y :: B) := (all _).mp ⟨x, x, y, y, .head _, .head _, .head _, .head _, rfl⟩
    rw [e] at this; cases this
  · exact ⟨z, e, (all z).mpr h1, fun w hw => h2 w ((all w).mp hw)⟩
/-- the same table so many times -/
theorem ov_scale {r r' : Nat → Nat → Int} {t u : Int} (hu : 0 < u) (ht : 0 < t) {a b c e : Int} (h : ∀ x ∈ [a, b, c, e], ∀ y ∈ [a, b, c, e], r' x.toNat y.toNat * t = r x.toNat y.toNat * u) : ov r' a b c e * t = ov r a b c e * u := by
  have h1 := h a (by simp) b (by simp)
  have h2 := h c (by simp) e (by simp)
  have h3 := h a (by simp) c (by simp)
  have h4 := h b (by simp) e (by simp)
  have h5 := h a (by simp) e (by simp)
  have h6 := h b (by simp) c (by simp)
  unfold ov
  have mm : ∀ x y k : Int, 0 < k → max x y * k = max (x * k) (y * k) := fun x y k hk => by
    by_cases c : x ≤ y
    · have := Int.mul_le_mul_of_nonneg_right c (Int.le_of_lt hk)
      rw [show max x y = y by omega, show max (x * k) (y * k) = y * k by omega]
    · have := Int.mul_le_mul_of_nonneg_right (show y ≤ x by omega) (Int.le_of_lt hk)
      rw [show max x y = x by omega, show max (x * k) (y * k) = x * k by omega]
  rw [Int.sub_mul, Int.sub_mul, mm _ _ _ ht, mm _ _ _ ht, mm _ _ _ hu, mm _ _ _ hu, Int.add_mul, Int.add_mul, Int.add_mul, Int.add_mul, Int.add_mul, Int.add_mul, h1, h2, h3, h4, h5, h6]
theorem lst_scale {r r' : Nat → Nat → Int} {t u : Int} (hu : 0 < u) (ht : 0 < t) {A B : List Int} {y z : Int} (h : ∀ a b c e, a ∈ A → b ∈ A → c ∈ B → e ∈ B → ov r' a b c e * t = ov r a b c e * u) (h1 : Lst (OvP r' A B) y) (h2 : Lst (OvP r A B) z) : y * t = z * u := by
  obtain ⟨⟨a, b, c, e, ha, hb, hc, he, rfl⟩, m1⟩ := h1
  obtain ⟨⟨a', b', c', e', ha', hb', hc', he', rfl⟩, m2⟩ := h2
  have e1 := h a b c e ha hb hc he
  have e2 := h a' b' c' e' ha' hb' hc' he'
  have l1 := Int.mul_le_mul_of_nonneg_right (m1 _ ⟨a', b', c', e', ha', hb', hc', he', rfl⟩) (Int.le_of_lt ht)
  have l2 := Int.mul_le_mul_of_nonneg_right (m2 _ ⟨a, b, c, e, ha, hb, hc, he, rfl⟩) (Int.le_of_lt hu)
  omega
/-- a long table of whole numbers -/
structure MetZ (n : Nat) (g : Nat → Nat → Int) : Prop where
  sy : ∀ i j, g i j = g j i
  di : ∀ i, g i i = 0
  po : ∀ i j, 0 ≤ g i j
  tr : ∀ i j k, i < n → j < n → k < n → g i j ≤ g i k + g k j
abbrev PD (p : Int × Int) : PyData := .tuple [.int p.1, .int p.2]
/-- what a table of fractions is, so many times -/
def whl (g : Nat → Nat → Rat) (b : Int) (i j : Nat) : Int := (g i j).num * (b / ((g i j).den : Int))
theorem whl_eq {g : Nat → Nat → Rat} {b : Int} {i j : Nat} (h : ((g i j).den : Int) ∣ b) : whl g b i j * ((g i j).den : Int) = (g i j).num * b := by
  unfold whl
  rw [Int.mul_assoc, Int.ediv_mul_cancel h]
theorem lcm_step {b d : Int} {G : Nat} (hb : 0 < b) (hd : 0 < d) (e : G = Int.gcd b d) : 0 < b / (G : Int) * d ∧ b ∣ b / (G : Int) * d ∧ d ∣ b / (G : Int) * d ∧ (0 : Int) < G ∧ (G : Int) ≤ d ∧ 0 ≤ b / (G : Int) ∧ b / (G : Int) ≤ b := by
  have h1 : (G : Int) ∣ b := by rw [e]; exact Int.gcd_dvd_left ..
  have h2 : (G : Int) ∣ d := by rw [e]; exact Int.gcd_dvd_right ..
  have hG : (0 : Int) < G := by
    have := Int.gcd_pos_of_ne_zero_left d (a := b) (by omega)
    omega
  have p1 : 0 < b / (G : Int) := Int.ediv_pos_of_pos_of_dvd hb (by omega) h1
  refine ⟨Int.mul_pos p1 hd, ?_, Int.dvd_mul_left _ _, hG, Int.le_of_dvd hd h2, by omega, Int.ediv_le_self _ (by omega)⟩
  obtain ⟨k, hk⟩ := h2
  refine ⟨k, ?_⟩
  have : b = b / (G : Int) * (G : Int) := (Int.ediv_mul_cancel h1).symm
  rw [hk]
  generalize b / (G : Int) = q at this
  rw [this, Int.mul_assoc]
/-- rows that tell a table of fractions -/
def Tells (n : Nat) (g : Nat → Nat → Rat) (r : Nat → Nat → Int) (b : Int) : Prop := 0 < b ∧ ∀ i j, i < n → j < n → r i j * ((g i j).den : Int) = (g i j).num * b
theorem Tells.eq {n : Nat} {g : Nat → Nat → Rat} {r r' : Nat → Nat → Int} {b b' : Int} (h : Tells n g r b) (h' : Tells n g r' b') {i j : Nat} (hi : i < n) (hj : j < n) : r' i j * b = r i j * b' := by
  have e1 := h.2 i j hi hj
  have e2 := h'.2 i j hi hj
  have hd : ((g i j).den : Int) ≠ 0 := den_ne _
  refine Int.eq_of_mul_eq_mul_right hd ?_
  rw [show r' i j * b * ((g i j).den : Int) = r' i j * ((g i j).den : Int) * b by rw [Int.mul_assoc, Int.mul_comm b, ← Int.mul_assoc], e2,
    show r i j * b' * ((g i j).den : Int) = r i j * ((g i j).den : Int) * b' by rw [Int.mul_assoc, Int.mul_comm b', ← Int.mul_assoc], e1, Int.mul_assoc, Int.mul_assoc, Int.mul_comm b' b]
theorem lst_tells {n : Nat} {g : Nat → Nat → Rat} {r r' : Nat → Nat → Int} {b b' : Int} (h : Tells n g r b) (h' : Tells n g r' b') {A B : List Int} (hA : ∀ x ∈ A, 0 ≤ x ∧ x < n) (hB : ∀ x ∈ B, 0 ≤ x ∧ x < n) {y z : Int} (h1 : Lst (OvP r A B) y) (h2 : Lst (OvP r' A B) z) : z * b = y * b' :=
  lst_scale h'.1 h.1 (fun a b c e ha hb hc he => ov_scale h'.1 h.1 fun x hx y hy => by
    have all : ∀ x ∈ [a, b, c, e], 0 ≤ x ∧ x < (n : Int) := fun x hx => by
      simp only [List.mem_cons, List.not_mem_nil, or_false] at hx
      rcases hx with rfl | rfl | rfl | rfl
      · exact hA _ ha
      · exact hA _ hb
      · exact hB _ hc
      · exact hB _ he
    have h1 := all x hx
    have h2 := all y hy
    exact h.eq h' (by omega) (by omega)) h2 h1
theorem divInt_eq2 {y z b b' : Int} (hb : 0 < b) (hb' : 0 < b') (e : z * b = y * b') : Rat.divInt z (2 * b') = Rat.divInt y (2 * b) := by
  rw [Rat.divInt_eq_divInt_iff (by omega) (by omega), show z * (2 * b) = 2 * (z * b) by rw [← Int.mul_assoc, Int.mul_comm z 2, Int.mul_assoc], show y * (2 * b') = 2 * (y * b') by rw [← Int.mul_assoc, Int.mul_comm y 2, Int.mul_assoc], e]
/-- a way by one more point -/
def relax (d : Nat → Nat → Int) (k a b : Nat) : Int := min (d a b) (d a k + d k b)
/-- ways: alike both ways, none from a point to itself, none below nought, no more than so many -/
structure WayZ (B : Int) (d : Nat → Nat → Int) : Prop where
  sy : ∀ i j, d i j = d j i
  di : ∀ i, d i i = 0
  po : ∀ i j, 0 ≤ d i j
  le : ∀ i j, d i j ≤ B
def TrZ (n m : Nat) (d : Nat → Nat → Int) : Prop := ∀ i j k, i < n → j < n → k < m → d i j ≤ d i k + d k j
theorem relax_r {d : Nat → Nat → Int} {B : Int} (h : WayZ B d) (k a : Nat) : relax d k a k = d a k := by
  unfold relax
  rw [h.di k]; omega
theorem relax_l {d : Nat → Nat → Int} {B : Int} (h : WayZ B d) (k b : Nat) : relax d k k b = d k b := by
  unfold relax
  rw [h.di k]; omega
theorem relax_way {d : Nat → Nat → Int} {B : Int} (h : WayZ B d) (k : Nat) : WayZ B (relax d k) := by
  refine ⟨fun i j => ?_, fun i => ?_, fun i j => ?_, fun i j => ?_⟩ <;> unfold relax
  · rw [h.sy i j, h.sy i k, h.sy k j]; omega
  · rw [h.di i]
    have := h.po i k; have := h.po k i; omega
  · have := h.po i j; have := h.po i k; have := h.po k j; omega
  · have := h.le i j; omega
theorem relax_tr {d : Nat → Nat → Int} {B : Int} {n k : Nat} (h : WayZ B d) (t : TrZ n k d) (hk : k < n) : TrZ n (k + 1) (relax d k) := fun i j m hi hj hm => by
  by_cases c : m = k
  · subst c
    rw [relax_r h, relax_l h]
    unfold relax; omega
  · have hm : m < k := by omega
    have t1 := t i j m hi hj hm
    have t2 := t i k m hi hk hm
    have t3 := t k j m hk hj hm
    have p1 := h.po k m
    have p2 := h.po m k
    unfold relax
    omega
theorem TrZ.met {d : Nat → Nat → Int} {B : Int} {n : Nat} (h : WayZ B d) (t : TrZ n n d) : MetZ n d := ⟨h.sy, h.di, h.po, t⟩
theorem MetZ.add {n : Nat} {g h : Nat → Nat → Int} (a : MetZ n g) (b : MetZ n h) : MetZ n fun i j => g i j + h i j := by
  refine ⟨fun i j => by rw [a.sy, b.sy], fun i => by rw [a.di, b.di]; rfl, fun i j => ?_, fun i j k hi hj hk => ?_⟩
  · have := a.po i j; have := b.po i j; omega
  · have := a.tr i j k hi hj hk; have := b.tr i j k hi hj hk; omega
theorem MetZ.cut {n : Nat} {g : Nat → Nat → Int} (a : MetZ n g) (sd : Nat → Int) {w : Int} (hw : 0 ≤ w) : MetZ n fun i j => if sd i ≠ sd j then g i j + w else g i j := by
  refine ⟨fun i j => ?_, fun i => ?_, fun i j => ?_, fun i j k hi hj hk => ?_⟩
  · rw [a.sy i j]
    by_cases c : sd i = sd j
    · rw [if_neg (by simpa using c), if_neg (by simpa using c.symm)]
    · rw [if_pos c, if_pos (fun z => c z.symm)]
  · rw [if_neg (by simp), a.di]
  · have := a.po i j
    split <;> omega
  · have := a.tr i j k hi hj hk
    by_cases c1 : sd i = sd j <;> by_cases c2 : sd i = sd k <;> by_cases c3 : sd k = sd j
    all_goals first
      | (exfalso; omega)
      | (simp only [ne_eq, c1, c2, c3, not_true_eq_false, not_false_eq_true, if_true, if_false] at *; first | omega | (simp_all; omega))
theorem perm_le_eq : ∀ {a b : List (List Int)}, a.Perm b → a.Pairwise (· ≤ ·) → b.Pairwise (· < ·) → a = b
  | [], b, h, _, _ => (List.nil_perm.mp h).symm
  | x :: a, [], h, _, _ => by have := h.length_eq; simp at this
  | x :: a, y :: b, h, h1, h2 => by
    have e : x = y := by
      have m1 : x ∈ y :: b := h.mem_iff.mp (.head _)
      have m2 : y ∈ x :: a := h.mem_iff.mpr (.head _)
      rcases List.mem_cons.mp m1 with e | m1
      · exact e
      · rcases List.mem_cons.mp m2 with e | m2
        · exact e.symm
        · have l1 := (List.pairwise_cons.mp h1).1 y m2
          have l2 := (List.pairwise_cons.mp h2).1 x m1
          exact (List.not_lt.mpr l1 l2).elim
    subst e
    rw [perm_le_eq (List.Perm.cons_inv h) (List.pairwise_cons.mp h1).2 (List.pairwise_cons.mp h2).2]
theorem cutsL_mem : ∀ {k p : Nat} {c : List Int}, c ∈ cutsL k p ↔ c ≠ [] ∧ c.Pairwise (· < ·) ∧ ∀ z ∈ c, (p : Int) ≤ z ∧ z < (p : Int) + k
  | 0, p, c => by
    constructor
    · intro h; cases h
    · rintro ⟨h0, _, h2⟩
      obtain ⟨x, c, rfl⟩ : ∃ x c', c = x :: c' := by cases c with | nil => exact (h0 rfl).elim | cons x c => exact ⟨x, c, rfl⟩
      have := h2 x (.head _)
      omega
  | k + 1, p, c => by
    unfold cutsL
    rw [List.mem_append, List.mem_append, List.mem_singleton, List.mem_map, cutsL_mem]
    constructor
    · rintro ((rfl | ⟨d, hd, rfl⟩) | ⟨h0, h1, h2⟩)
      · exact ⟨by simp, by simp, fun z hz => by rw [List.mem_singleton.mp hz]; omega⟩
      · obtain ⟨d0, d1, d2⟩ := cutsL_mem.mp hd
        refine ⟨by simp, List.pairwise_cons.mpr ⟨fun z hz => ?_, d1⟩, fun z hz => ?_⟩
        · have := d2 z hz; omega
        · rcases List.mem_cons.mp hz with rfl | hz
          · omega
          · have := d2 z hz; omega
      · exact ⟨h0, h1, fun z hz => by have := h2 z hz; omega⟩
    · rintro ⟨h0, h1, h2⟩
      obtain ⟨x, c, rfl⟩ : ∃ x c', c = x :: c' := by cases c with | nil => exact (h0 rfl).elim | cons x c => exact ⟨x, c, rfl⟩
      have hx := h2 x (.head _)
      have ⟨g1, g2⟩ := List.pairwise_cons.mp h1
      by_cases e : x = (p : Int)
      · subst e
        cases c with
        | nil => exact .inl (.inl rfl)
        | cons y c =>
          refine .inl (.inr ⟨y :: c, cutsL_mem.mpr ⟨by simp, g2, fun z hz => ?_⟩, rfl⟩)
          have := h2 z (.tail _ hz); have := g1 z hz; omega
      · refine .inr ⟨h0, h1, fun z hz => ?_⟩
        have := h2 z hz
        rcases List.mem_cons.mp hz with rfl | hz'
        · omega
        · have := g1 z hz'; omega
/-- all lists of points, the empty one too, by one point more at a time -/
def subsL : Nat → List (List Int)
  | 0 => [[]]
  | k + 1 => subsL k ++ (subsL k).map (· ++ [((k : Int) + 1)])
theorem subsL_mem : ∀ {k : Nat} {c : List Int}, c ∈ subsL k ↔ c.Pairwise (· < ·) ∧ ∀ z ∈ c, 1 ≤ z ∧ z ≤ (k : Int)
  | 0, c => by
    unfold subsL
    rw [List.mem_singleton]
    constructor
    · rintro rfl; exact ⟨.nil, fun z hz => (by cases hz)⟩
    · rintro ⟨_, h2⟩
      cases c with
      | nil => rfl
      | cons x c => have := h2 x (.head _); omega
  | k + 1, c => by
    unfold subsL
    rw [List.mem_append, List.mem_map, subsL_mem]
    constructor
    · rintro (⟨h1, h2⟩ | ⟨d, hd, rfl⟩)
      · exact ⟨h1, fun z hz => by have := h2 z hz; omega⟩
      · obtain ⟨d1, d2⟩ := subsL_mem.mp hd
        refine ⟨List.pairwise_append.mpr ⟨d1, by simp, fun a ha b hb => ?_⟩, fun z hz => ?_⟩
        · rw [List.mem_singleton.mp hb]; have := d2 a ha; omega
        · rcases List.mem_append.mp hz with hz | hz
          · have := d2 z hz; omega
          · rw [List.mem_singleton.mp hz]; omega
    · rintro ⟨h1, h2⟩
      by_cases e : ((k : Int) + 1) ∈ c
      · obtain ⟨d, r, rfl⟩ := List.append_of_mem e
        have r0 : r = [] := by
          cases r with
          | nil => rfl
          | cons y r =>
            have := h2 y (by simp)
            have := (List.pairwise_cons.mp (List.pairwise_append.mp h1).2.1).1 y (.head _)
            omega
        subst r0
        refine .inr ⟨d, subsL_mem.mpr ⟨(List.pairwise_append.mp h1).1, fun z hz => ?_⟩, rfl⟩
        have := h2 z (by simp [hz])
        have := (List.pairwise_append.mp h1).2.2 z hz _ (.head _)
        omega
      · refine .inl ⟨h1, fun z hz => ?_⟩
        have := h2 z hz
        have : z ≠ (k : Int) + 1 := fun h => e (h ▸ hz)
        omega
theorem subsL_nodup : ∀ k : Nat, (subsL k).Nodup
  | 0 => by unfold subsL; simp
  | k + 1 => by
    unfold subsL
    refine List.nodup_append.mpr ⟨subsL_nodup k, ?_, fun a ha b hb e => ?_⟩
    · refine List.Pairwise.map _ (fun a b h e => h (List.append_cancel_right e)) (subsL_nodup k)
    · obtain ⟨d, _, rfl⟩ := List.mem_map.mp hb
      subst e
      have := (subsL_mem.mp ha).2 ((k : Int) + 1) (by simp)
      omega
theorem subsL_len : ∀ k : Nat, (subsL k).length = 2 ^ k
  | 0 => rfl
  | k + 1 => by
    unfold subsL
    rw [List.length_append, List.length_map, subsL_len, Nat.pow_succ]; omega
theorem nodup_perm {α : Type} {a b : List α} (h1 : a.Nodup) (h2 : b.Nodup) (h : ∀ x, x ∈ a ↔ x ∈ b) : a.Perm b := (List.perm_ext_iff_of_nodup h1 h2).mpr (fun {x} => h x)
theorem cutsL_nodup (k p : Nat) : (cutsL k p).Nodup := (cutsL_sorted k p).imp fun h e => by rw [e] at h; exact (List.lt_irrefl _ h).elim
theorem subs_perm (k : Nat) : ((subsL k).filter fun c => !decide (c = [])).Perm (cutsL k 1) := by
  refine nodup_perm ((subsL_nodup k).filter _) (cutsL_nodup k 1) fun c => ?_
  rw [List.mem_filter, subsL_mem, cutsL_mem]
  constructor
  · rintro ⟨⟨h1, h2⟩, h3⟩
    exact ⟨by simpa using h3, h1, fun z hz => by have := h2 z hz; omega⟩
  · rintro ⟨h0, h1, h2⟩
    exact ⟨⟨h1, fun z hz => by have := h2 z hz; omega⟩, by simpa using h0⟩
theorem tells_div {n : Nat} {r : Nat → Nat → Int} {b : Int} (hb : 0 < b) : Tells n (fun i j => Rat.divInt (r i j) b) r b := ⟨hb, fun i j _ _ => by
  have h := Rat.num_divInt_den (Rat.divInt (r i j) b)
  have h2 := (Rat.divInt_eq_divInt_iff (den_ne (Rat.divInt (r i j) b)) (show b ≠ 0 by omega)).mp h
  exact h2.symm⟩
theorem divInt_add_same {x y b : Int} (hb : 0 < b) : Rat.divInt x b + Rat.divInt y b = Rat.divInt (x + y) b := by
  rw [Rat.divInt_eq_div, Rat.divInt_eq_div, Rat.divInt_eq_div, Rat.intCast_add]
  have : ((b : Int) : Rat) ≠ 0 := fun z => by
    have : b = 0 := by exact_mod_cast z
    omega
  grind
theorem divInt_le_same {x y b : Int} (hb : 0 < b) : Rat.divInt x b ≤ Rat.divInt y b ↔ x ≤ y := by
  have h0 : ((b : Int) : Rat) ≠ 0 := fun z => by
    have : b = 0 := by exact_mod_cast z
    omega
  have hp : (0 : Rat) < ((b : Int) : Rat) := by exact_mod_cast hb
  have e : ∀ z : Int, Rat.divInt z b * ((b : Int) : Rat) = ((z : Int) : Rat) := fun z => by
    rw [Rat.divInt_eq_div]; grind
  rw [← Rat.intCast_le_intCast (a := x) (b := y), ← e x, ← e y]
  exact ⟨fun h => Rat.mul_le_mul_of_nonneg_right h (Rat.le_of_lt hp), fun h => Rat.le_of_mul_le_mul_right h hp⟩
/-! ### two lists walked side by side -/
section
variable {K : PySem.W.Frag} {H : Hp} {σ : L2.St} {g : TG} {tt : TT} {te : TE} {tb : L2.TS} {D : Ends} {vs : List Nat} {a b p : Addr} {xs ys : List V} {Qd : Hp → Prop} {L : List Fc.It}
theorem itz_cases {xs ys : List V} (e : xs.length = ys.length) {i : Nat} {H : Hp} (h : SqL K H a xs ∧ SqL K H b ys) (hi : i ≤ xs.length) : (i = xs.length ∧ (Itz K a b).stop i H) ∨ (i < xs.length ∧ (Itz K a b).go i H ∧ ∀ v H', (Itz K a b).yld i H v H' → ∃ T x y, v = .ref T ∧ H T = none ∧ H' = upd H T (.tup [x, y]) ∧ xs[i]? = some x ∧ ys[i]? = some y) := by
  by_cases c : i < xs.length
  · refine .inr ⟨c, ⟨xs, ys, xs[i], ys[i], h.1, h.2, List.getElem?_eq_getElem c, List.getElem?_eq_getElem (by omega)⟩, fun v H' ⟨T, x, y, e1, nT, e2, h1, h2⟩ => ⟨T, x, y, e1, nT, e2, h1 _ h.1, h2 _ h.2⟩⟩
  · exact .inl ⟨by omega, xs, ys, h.1, h.2, .inl (by omega)⟩
theorem loop_zip (e : xs.length = ys.length) (Pv : Nat → L2.St → Hp → Prop) (h0 : Pv 0 σ H) (hl : ∀ i σ H, i ≤ xs.length → Pv i σ H → SqL K H a xs ∧ SqL K H b ys)
    (hs : ∀ i x y T σ H, xs[i]? = some x → ys[i]? = some y → Pv i σ H → H T = none → g (.ref T) σ (upd H T (.tup [x, y])) fun σ2 H2 => tb { D with nx := Pv (i + 1), ct := Pv (i + 1), bk := D.nx } σ2 H2) (hd : ∀ σ H, Pv xs.length σ H → D.nx σ H) : LoopF (Itz K a b) g tb D σ H := by
  refine ⟨fun i m σ H => m = xs.length - i ∧ i ≤ xs.length ∧ Pv i σ H, ⟨xs.length, rfl, Nat.zero_le _, h0⟩, ?_⟩
  rintro i m σ H ⟨rfl, hi, pv⟩
  rcases itz_cases e (hl i σ H hi pv) hi with ⟨c, st⟩ | ⟨c, go, yl⟩
  · exact .inl ⟨st, hd σ H (c ▸ pv)⟩
  · refine .inr ⟨go, Pv (i + 1), fun σ' H' h => ⟨xs.length - (i + 1), by omega, rfl, c, h⟩, fun v H' hy => ?_⟩
    obtain ⟨T, x, y, rfl, nT, rfl, hx, hy⟩ := yl v H' hy
    exact hs i x y T σ H hx hy pv nT
theorem lcl_zip (e : xs.length = ys.length) (Pv : Nat → Hp → Prop) (h0 : Pv 0 (upd H p (.lst []))) (hl : ∀ i H, i ≤ xs.length → Pv i H → SqL K H a xs ∧ SqL K H b ys)
    (hs : ∀ i x y T H, xs[i]? = some x → ys[i]? = some y → Pv i H → H T = none → g (.ref T) (wipe σ vs) (upd H T (.tup [x, y])) fun σ2 H2 => wipe σ2 vs = wipe σ vs ∧ tt σ2 H2 fun b H3 =>
      if b = true then te σ2 H3 fun y H4 => ∃ acc, H4 p = some (.lst acc) ∧ acc.length < sizeLine ∧ Pv (i + 1) (upd H4 p (.lst (acc ++ [y]))) else Pv (i + 1) H3) (hd : ∀ H, Pv xs.length H → Qd H) : LoopC (Itz K a b) g tt te vs p σ Qd H := by
  refine ⟨fun i m H => m = xs.length - i ∧ i ≤ xs.length ∧ Pv i H, ⟨xs.length, rfl, Nat.zero_le _, h0⟩, ?_⟩
  rintro i m H ⟨rfl, hi, pv⟩
  rcases itz_cases e (hl i H hi pv) hi with ⟨c, st⟩ | ⟨c, go, yl⟩
  · exact .inl ⟨st, hd H (c ▸ pv)⟩
  · refine .inr ⟨go, Pv (i + 1), fun H' h => ⟨xs.length - (i + 1), by omega, rfl, c, h⟩, fun v H' hy => ?_⟩
    obtain ⟨T, x, y, rfl, nT, rfl, hx, hy⟩ := yl v H' hy
    exact hs i x y T H hx hy pv nT
theorem lco_zip (s : Own) (Pv : Nat → List PyData → List Fc.It → Prop) (R : Rp K H L) (nL : H p = none) (h0 : Pv 0 [] L) (e : xs.length = ys.length) (sz : xs.length < 100000)
    (hl : ∀ i ds L X H', Pv i ds L → Rp K H' (X :: L) → SqL K H' a xs ∧ SqL K H' b ys)
    (turn : ∀ i x y T ds L X H', xs[i]? = some x → ys[i]? = some y → Pv i ds L → H' T = none → Rp K (upd H' T (.tup [x, y])) (X :: L) → ∀ (Qy : VK) (Qn : Hp → Prop), (∀ y d L' H4, Pv (i + 1) (ds ++ [d]) L' → Rp K H4 (.ow s y d :: X :: L') → Qy y H4) → (∀ L' H4, Pv (i + 1) ds L' → Rp K H4 (X :: L') → Qn H4) →
      g (.ref T) (wipe σ vs) (upd H' T (.tup [x, y])) fun σ2 H2 => wipe σ2 vs = wipe σ vs ∧ tt σ2 H2 fun b H3 => if b = true then te σ2 H3 Qy else Qn H3)
    (done : ∀ ds L H', Pv xs.length ds L → Rp K H' (.ow (.li s) (.ref p) (.list ds) :: L) → Qd H') : LoopC (Itz K a b) g tt te vs p σ Qd H := by
  refine lcl_zip (K := K) (a := a) (b := b) (xs := xs) (ys := ys) e (fun i H' => ∃ ds L, Pv i ds L ∧ ds.length ≤ i ∧ Rp K H' (.ow (.li s) (.ref p) (.list ds) :: L)) ⟨[], L, h0, Nat.zero_le _, R.mkL0 s nL⟩ (fun i H' _ ⟨ds, L, h, _, R⟩ => hl i ds L _ H' h R) ?_ (fun H' ⟨ds, L, h, _, R⟩ => done ds L H' h R)
  rintro i x y T H' hx hy ⟨ds, L, h, z, R⟩ nT
  have hi : i < xs.length := (List.getElem?_eq_some_iff.mp hx).1
  exact turn i x y T ds L _ H' hx hy h nT (R.same (same_new nT)) (fun y H4 => ∃ acc, H4 p = some (.lst acc) ∧ acc.length < sizeLine ∧ ∃ ds L, Pv (i + 1) ds L ∧ ds.length ≤ i + 1 ∧ Rp K (upd H4 p (.lst (acc ++ [y]))) (.ow (.li s) (.ref p) (.list ds) :: L)) _
    (fun y d L' H4 h' R' => lco_fin (W := fun H' => ∃ ds L, Pv (i + 1) ds L ∧ ds.length ≤ i + 1 ∧ Rp K H' (.ow (.li s) (.ref p) (.list ds) :: L)) R' (by omega) fun H' R'' => ⟨_, _, h', by rw [List.length_append]; exact Nat.add_le_add_right z 1, R''⟩) (fun L' H4 h' R' => ⟨ds, L', h', by omega, R'⟩)
/-- what asks two lists -/
def zipR (K : PySem.W.Frag) (R : L2.It → Hp → Prop) (vs : List V) (H1 : Hp) : Prop := ∃ a b xs ys, vs = [.ref a, .ref b] ∧ SqL K H1 a xs ∧ SqL K H1 b ys ∧ R (Itz K a b) H1
instance {ta : TA} {R : L2.It → Hp → Prop} : St1 (iZip K ta σ H R) (ta σ H (zipR K R)) := ⟨id⟩
theorem g_zip {R : L2.It → Hp → Prop} (h1 : SqL K H a xs) (h2 : SqL K H b ys) (q : R (Itz K a b) H) : zipR K R [.ref a, .ref b] H := ⟨a, b, xs, ys, rfl, h1, h2, q⟩
end
/-! ### great factors -/
/-- * where one factor is short -/
def CMulA (i j : Int) : Prop := i.natAbs < 2 ^ 64 ∨ j.natAbs < 2 ^ 64
theorem bits64 {i : Int} (h : i.natAbs < 2 ^ 64) : Builtin.Int.intBits i ≤ 64 := by
  have : i.natAbs.log2 < 64 := PySem.Flt.log2_lt_of (by decide) h
  unfold Builtin.Int.intBits
  split <;> omega
theorem CMulA.ok {i j : Int} (h : CMulA i j) : IntMulOk i j := by
  rcases h with h | h
  · exact .of_left (bits64 h)
  · have h' : ¬ (Builtin.Int.intBits j > shortFactorBits) := Nat.not_lt.mpr (bits64 h)
    unfold IntMulOk
    rw [decide_eq_false h']
    simp
theorem op_mulA {X : Cx} : OpR X (binaryOp .Mult) (rI CMulA fun i j => .int (i * j)) := opI fun _ _ _ _ _ _ _ hc q => mul_int q hc.ok
section
variable {H : Hp} {Q : VK} {i j : Int}
theorem g_mulA (c : CMulA i j) (q : Q (.int (i * j)) H) : rI CMulA (fun i j => .int (i * j)) (.int i) (.int j) H Q := ⟨i, j, rfl, rfl, c, q⟩
end
/-! ### boxes: what a reading does, told over data alone -/
/-- what a name holds: nothing that is known, a thing, a thing at a known address -/
abbrev Flds := List (Str × Own × PyData)
inductive Sl where | un | v (s : Own) (d : PyData) | pin (w : V) (s : Own) (d : PyData) | fact (w : V) (F : Hp → Prop) | ob (b : Bool) (w : V) (C : Addr) (fs : Flds) (vs : List V)
/-- the attributes of an instance, and its things -/
def fvals (fs : Flds) (vs : List V) : List (Str × V) := List.zipWith (fun f v => (f.1, v)) fs vs
def fits (fs : Flds) (vs : List V) : List It := List.zipWith (fun f v => It.ow f.2.1 v f.2.2) fs vs
/-- a thing of one's own, or one that is read alone -/
def obI (b : Bool) (a : Addr) (o : HO) : It := if b then .ps (fun H => H a = some o) else .ob a o
abbrev Ev := List Sl
def Sl.bx : Sl → Option (Own × PyData)
  | .un => none
  | .v s d => some (s, d)
  | .pin _ s d => some (s, d)
  | .fact _ _ => none
  | .ob _ _ _ _ _ => none
def Sl.to : Sl → Own → PyData → Sl
  | .un, _, _ => .un
  | .v _ _, s, d => .v s d
  | .pin w _ _, s, d => .pin w s d
  | .fact w F, _, _ => .fact w F
  | .ob b w C fs vs, _, _ => .ob b w C fs vs
inductive EnvR : Ev → L2.St → List It → Prop
  | nil : EnvR [] [] []
  | un {E : Ev} {σ : L2.St} {I : List It} {x : Option V} : EnvR E σ I → EnvR (.un :: E) (x :: σ) I
  | v {E : Ev} {σ : L2.St} {I : List It} {w : V} {s : Own} {d : PyData} : EnvR E σ I → EnvR (.v s d :: E) (some w :: σ) (.ow s w d :: I)
  | pin {E : Ev} {σ : L2.St} {I : List It} {w : V} {s : Own} {d : PyData} : EnvR E σ I → EnvR (.pin w s d :: E) (some w :: σ) (.ow s w d :: I)
  | fact {E : Ev} {σ : L2.St} {I : List It} {w : V} {F : Hp → Prop} : EnvR E σ I → EnvR (.fact w F :: E) (some w :: σ) (.ps F :: I)
  | ob {b : Bool} {E : Ev} {σ : L2.St} {I : List It} {a dx C : Addr} {vs : List V} {fs : Flds} : EnvR E σ I → vs.length = fs.length → EnvR (.ob b (.ref a) C fs vs :: E) (some (.ref a) :: σ) (obI b a (.ins C dx (fvals fs vs)) :: (fits fs vs ++ I))
/-- the state -/
def Stt (K : PySem.W.Frag) (Γ : Ev) (σ : L2.St) (H : Hp) (L : List It) : Prop := ∃ I, EnvR Γ σ I ∧ Rp K H (I ++ L)
section
variable {K : PySem.W.Frag} {Γ : Ev} {σ : L2.St} {H H' : Hp} {L L' I : List It} {s s' : Own} {d d' : PyData} {w x y : V} {n : Nat} {b : Sl}
theorem EnvR.focus (E : EnvR Γ σ I) : ∀ {n : Nat}, Γ[n]? = some b → b.bx = some (s, d) →
    ∃ w I', σ[n]? = some (some w) ∧ I.Perm (.ow s w d :: I') ∧ EnvR (Γ.set n .un) σ I' ∧ ∀ s' d', ∃ I2, EnvR (Γ.set n (b.to s' d')) σ I2 ∧ I2.Perm (.ow s' w d' :: I') := by
  induction E with
  | nil => intro n h; simp at h
  | @un E σ I x e ih =>
    intro n h hb
    cases n with
    | zero => cases h; cases hb
    | succ n =>
      obtain ⟨w, I', h1, h2, h3, h4⟩ := ih (n := n) h hb
      exact ⟨w, I', h1, h2, .un h3, fun s' d' => let ⟨I2, h5, h6⟩ := h4 s' d'; ⟨I2, .un h5, h6⟩⟩
  | @v E σ I w s0 d0 e ih =>
    intro n h hb
    cases n with
    | zero =>
      cases h; cases hb
      exact ⟨w, I, rfl, .refl _, .un e, fun s' d' => ⟨_, .v e, .refl _⟩⟩
    | succ n =>
      obtain ⟨w1, I', h1, h2, h3, h4⟩ := ih (n := n) h hb
      refine ⟨w1, .ow s0 w d0 :: I', h1, (h2.cons _).trans (.swap _ _ _), .v h3, fun s' d' => ?_⟩
      obtain ⟨I2, h5, h6⟩ := h4 s' d'
      exact ⟨_, .v h5, (h6.cons _).trans (.swap _ _ _)⟩
  | @pin E σ I w s0 d0 e ih =>
    intro n h hb
    cases n with
    | zero =>
      cases h; cases hb
      exact ⟨w, I, rfl, .refl _, .un e, fun s' d' => ⟨_, .pin e, .refl _⟩⟩
    | succ n =>
      obtain ⟨w1, I', h1, h2, h3, h4⟩ := ih (n := n) h hb
      refine ⟨w1, .ow s0 w d0 :: I', h1, (h2.cons _).trans (.swap _ _ _), .pin h3, fun s' d' => ?_⟩
      obtain ⟨I2, h5, h6⟩ := h4 s' d'
      exact ⟨_, .pin h5, (h6.cons _).trans (.swap _ _ _)⟩
  | @fact E σ I w F e ih =>
    intro n h hb
    cases n with
    | zero => cases h; cases hb
    | succ n =>
      obtain ⟨w1, I', h1, h2, h3, h4⟩ := ih (n := n) h hb
      refine ⟨w1, .ps F :: I', h1, (h2.cons _).trans (.swap _ _ _), .fact h3, fun s' d' => ?_⟩
      obtain ⟨I2, h5, h6⟩ := h4 s' d'
      exact ⟨_, .fact h5, (h6.cons _).trans (.swap _ _ _)⟩
  | @ob bb E σ I a dx C vs fs e l ih =>
    intro n h hb
    cases n with
    | zero => cases h; cases hb
    | succ n =>
      obtain ⟨w1, I', h1, h2, h3, h4⟩ := ih (n := n) h hb
      refine ⟨w1, obI bb a (.ins C dx (fvals fs vs)) :: (fits fs vs ++ I'), h1, (((h2.append_left (fits fs vs)).trans List.perm_middle).cons _).trans (.swap _ _ _), .ob h3 l, fun s' d' => ?_⟩
      obtain ⟨I2, h5, h6⟩ := h4 s' d'
      exact ⟨_, .ob h5 l, (((h6.append_left (fits fs vs)).trans List.perm_middle).cons _).trans (.swap _ _ _)⟩
theorem Sl.to_self : ∀ {b : Sl}, b.bx = some (s, d) → b.to s d = b
  | .un, h => by cases h
  | .v _ _, h => by cases h; rfl
  | .pin _ _ _, h => by cases h; rfl
  | .fact _ _, h => by cases h
  | .ob _ _ _ _ _, h => by cases h
theorem set_self {α : Type} : ∀ {l : List α} {n : Nat} {x : α}, l[n]? = some x → l.set n x = l
  | [], _, _, h => by simp at h
  | _ :: _, 0, _, h => by cases h; rfl
  | a :: l, n + 1, x, h => by rw [List.set_cons_succ, set_self (l := l) (n := n) h]
theorem Rp.mid {A : List It} {m : It} (R : Rp K H (A ++ m :: L)) : Rp K H (m :: (A ++ L)) := R.perm List.perm_middle
theorem Rp.dim {A : List It} {m : It} (R : Rp K H (m :: (A ++ L))) : Rp K H (A ++ m :: L) := R.perm List.perm_middle.symm
theorem Stt.wk (S : Stt K Γ σ H L) (k : Wk L L') : Stt K Γ σ H L' := by
  obtain ⟨I, E, R⟩ := S
  exact ⟨I, E, Rp.wkA k (A := I) R⟩
theorem Stt.same (S : Stt K Γ σ H L) (k : Same H H') : Stt K Γ σ H' L := by
  obtain ⟨I, E, R⟩ := S
  exact ⟨I, E, R.same k⟩
theorem Stt.perm (S : Stt K Γ σ H L) (k : L.Perm L') : Stt K Γ σ H L' := by
  obtain ⟨I, E, R⟩ := S
  exact ⟨I, E, R.perm (k.append_left I)⟩
/-- the heap's part taken by itself -/
theorem Stt.lift {A : List It} (S : Stt K Γ σ H (A ++ L)) : ∃ M, Rp K H (A ++ M) ∧ ∀ H' B, Rp K H' (B ++ M) → Stt K Γ σ H' (B ++ L) := by
  obtain ⟨I, E, R⟩ := S
  refine ⟨I ++ L, R.perm ?_, fun H' B R' => ⟨I, E, R'.perm ?_⟩⟩
  · rw [← List.append_assoc, ← List.append_assoc]; exact List.perm_append_comm.append_right L
  · rw [← List.append_assoc, ← List.append_assoc]; exact List.perm_append_comm.append_right L
theorem Stt.focus (S : Stt K Γ σ H L) (h : Γ[n]? = some b) (hb : b.bx = some (s, d)) : ∃ w M, σ[n]? = some (some w) ∧ Rp K H (.ow s w d :: (M ++ L)) ∧
    (∀ H' L' s' d', Rp K H' (.ow s' w d' :: (M ++ L')) → Stt K (Γ.set n (b.to s' d')) σ H' L') ∧ (∀ H' L', Rp K H' (M ++ L') → Stt K (Γ.set n .un) σ H' L') := by
  obtain ⟨I, E, R⟩ := S
  obtain ⟨w, I', h1, h2, h3, h4⟩ := E.focus h hb
  refine ⟨w, I', h1, R.perm (h2.append_right L), fun H' L' s' d' R' => ?_, fun H' L' R' => ⟨_, h3, R'⟩⟩
  obtain ⟨I2, h5, h6⟩ := h4 s' d'
  exact ⟨I2, h5, R'.perm (h6.symm.append_right L')⟩
theorem Stt.keep (h : Γ[n]? = some b) (hb : b.bx = some (s, d)) {M : List It} (put : ∀ H' L' s' d', Rp K H' (.ow s' w d' :: (M ++ L')) → Stt K (Γ.set n (b.to s' d')) σ H' L') : ∀ H' L', Rp K H' (.ow s w d :: (M ++ L')) → Stt K Γ σ H' L' := fun H' L' R => by
  have := put H' L' s d R
  rwa [Sl.to_self hb, set_self h] at this
/-- what follows of some things side by side -/
def Wr (A B : List It) : Prop := ∀ (K : PySem.W.Frag) (H : Hp) (L : List It), Rp K H (A ++ L) → Rp K H (B ++ L)
theorem Wr.refl {A : List It} : Wr A A := fun _ _ _ h => h
theorem Wr.trans {A B C : List It} (h : Wr A B) (k : Wr B C) : Wr A C := fun K H L R => k K H L (h K H L R)
theorem Wr.cons {A B : List It} (m : It) (h : Wr A B) : Wr (m :: A) (m :: B) := fun K H L R => (h K H (m :: L) (Rp.dim R)).mid
theorem Wr.drop {A B : List It} (m : It) (h : Wr A B) : Wr (m :: A) B := fun K H L R => h K H L R.tail
theorem Wr.swap {A B : List It} (m n : It) (h : Wr (m :: A) B) : Wr (m :: n :: A) (n :: B) := fun K H L R => (h K H (n :: L) (Rp.perm (A := m :: n :: (A ++ L)) (((List.Perm.cons m List.perm_middle.symm))) R)).mid
theorem Wr.dropA : ∀ {A I J : List It}, Wr I J → Wr (A ++ I) J
  | [], _, _, h => h
  | m :: A, _, _, h => .drop m (Wr.dropA (A := A) h)
theorem Wr.swapA : ∀ {A I J : List It} {m : It}, Wr (m :: I) J → Wr (m :: (A ++ I)) (A ++ J)
  | [], _, _, _, h => h
  | n :: A, I, J, m, h => fun K H L R => by
    have R1 : Rp K H (m :: n :: ((A ++ I) ++ L)) := R
    have R2 : Rp K H (m :: ((A ++ I) ++ (n :: L))) := R1.perm ((List.perm_middle.symm).cons m)
    have R3 : Rp K H (A ++ J ++ (n :: L)) := Wr.swapA (A := A) h K H (n :: L) R2
    exact R3.perm List.perm_middle
theorem Wr.consA {I J : List It} (h : Wr I J) : ∀ (A : List It), Wr (A ++ I) (A ++ J)
  | [] => h
  | m :: A => .cons m (Wr.consA h A)
theorem EnvR.bind (E : EnvR Γ σ I) : ∀ (n : Nat) (s : Own) (d : PyData) (w : V), ∃ I', EnvR (Γ.set n (.v s d)) (σ.set n (some w)) I' ∧ Wr (.ow s w d :: I) I' := by
  induction E with
  | nil => intro n s d w; exact ⟨[], .nil, .drop _ .refl⟩
  | @un E σ I x e ih =>
    intro n s d w
    cases n with
    | zero => exact ⟨_, .v e, .refl⟩
    | succ n =>
      obtain ⟨I', h1, h2⟩ := ih n s d w
      exact ⟨I', .un h1, h2⟩
  | @v E σ I w0 s0 d0 e ih =>
    intro n s d w
    cases n with
    | zero => exact ⟨_, .v e, .cons _ (.drop _ .refl)⟩
    | succ n =>
      obtain ⟨I', h1, h2⟩ := ih n s d w
      exact ⟨_, .v h1, .swap _ _ h2⟩
  | @pin E σ I w0 s0 d0 e ih =>
    intro n s d w
    cases n with
    | zero => exact ⟨_, .v e, .cons _ (.drop _ .refl)⟩
    | succ n =>
      obtain ⟨I', h1, h2⟩ := ih n s d w
      exact ⟨_, .pin h1, .swap _ _ h2⟩
  | @fact E σ I w0 F e ih =>
    intro n s d w
    cases n with
    | zero => exact ⟨_, .v e, .cons _ (.drop _ .refl)⟩
    | succ n =>
      obtain ⟨I', h1, h2⟩ := ih n s d w
      exact ⟨_, .fact h1, .swap _ _ h2⟩
  | @ob bb E σ I a dx C vs fs e l ih =>
    intro n s d w
    cases n with
    | zero => exact ⟨_, .v e, .cons _ (.drop _ (.dropA .refl))⟩
    | succ n =>
      obtain ⟨I', h1, h2⟩ := ih n s d w
      exact ⟨_, .ob h1 l, .swap _ _ (.swapA h2)⟩
theorem Stt.bind (S : Stt K Γ σ H (.ow s w d :: L)) (n : Nat) : Stt K (Γ.set n (.v s d)) (σ.set n (some w)) H L := by
  obtain ⟨I, E, R⟩ := S
  obtain ⟨I', h1, h2⟩ := E.bind n s d w
  exact ⟨I', h1, h2 _ _ _ R.mid⟩
theorem EnvR.drop (E : EnvR Γ σ I) : ∀ (n : Nat), ∃ I', EnvR (Γ.set n .un) σ I' ∧ Wr I I' := by
  induction E with
  | nil => intro n; exact ⟨[], .nil, .refl⟩
  | @un E σ I x e ih =>
    intro n
    cases n with
    | zero => exact ⟨_, .un e, .refl⟩
    | succ n =>
      obtain ⟨I', h1, h2⟩ := ih n
      exact ⟨I', .un h1, h2⟩
  | @v E σ I w0 s0 d0 e ih =>
    intro n
    cases n with
    | zero => exact ⟨_, .un e, .drop _ .refl⟩
    | succ n =>
      obtain ⟨I', h1, h2⟩ := ih n
      exact ⟨_, .v h1, .cons _ h2⟩
  | @pin E σ I w0 s0 d0 e ih =>
    intro n
    cases n with
    | zero => exact ⟨_, .un e, .drop _ .refl⟩
    | succ n =>
      obtain ⟨I', h1, h2⟩ := ih n
      exact ⟨_, .pin h1, .cons _ h2⟩
  | @fact E σ I w0 F e ih =>
    intro n
    cases n with
    | zero => exact ⟨_, .un e, .drop _ .refl⟩
    | succ n =>
      obtain ⟨I', h1, h2⟩ := ih n
      exact ⟨_, .fact h1, .cons _ h2⟩
  | @ob bb E σ I a dx C vs fs e l ih =>
    intro n
    cases n with
    | zero => exact ⟨_, .un e, .drop _ (.dropA .refl)⟩
    | succ n =>
      obtain ⟨I', h1, h2⟩ := ih n
      exact ⟨_, .ob h1 l, .cons _ (.consA h2 _)⟩
theorem EnvR.unset (E : EnvR Γ σ I) : ∀ (n : Nat) (x : Option V), Γ[n]? = some .un → EnvR Γ (σ.set n x) I := by
  induction E with
  | nil => intro n x h; simp at h
  | @un E σ I x e ih =>
    intro n x h
    cases n with
    | zero => exact .un e
    | succ n => exact .un (ih n x h)
  | @v E σ I w0 s0 d0 e ih =>
    intro n x h
    cases n with
    | zero => cases h
    | succ n => exact .v (ih n x h)
  | @pin E σ I w0 s0 d0 e ih =>
    intro n x h
    cases n with
    | zero => cases h
    | succ n => exact .pin (ih n x h)
  | @fact E σ I w0 F e ih =>
    intro n x h
    cases n with
    | zero => cases h
    | succ n => exact .fact (ih n x h)
  | @ob bb E σ I a dx C vs fs e l ih =>
    intro n x h
    cases n with
    | zero => cases h
    | succ n => exact .ob (ih n x h) l
theorem EnvR.len (E : EnvR Γ σ I) : Γ.length = σ.length := by
  induction E with
  | nil => rfl
  | un _ ih => rw [List.length_cons, List.length_cons, ih]
  | v _ ih => rw [List.length_cons, List.length_cons, ih]
  | pin _ ih => rw [List.length_cons, List.length_cons, ih]
  | fact _ ih => rw [List.length_cons, List.length_cons, ih]
  | ob _ _ ih => rw [List.length_cons, List.length_cons, ih]
def clr (Γ : Ev) : List Nat → Ev
  | [] => Γ
  | i :: vs => (clr Γ vs).set i .un
theorem EnvR.clr (E : EnvR Γ σ I) : ∀ (vs : List Nat), ∃ I', EnvR (Fc.clr Γ vs) (wipe σ vs) I' ∧ Wr I I'
  | [] => ⟨I, E, .refl⟩
  | i :: vs => by
    obtain ⟨I1, h1, h2⟩ := EnvR.clr E vs
    obtain ⟨I2, h3, h4⟩ := h1.drop i
    refine ⟨I2, ?_, h2.trans h4⟩
    show EnvR ((Fc.clr Γ vs).set i .un) ((wipe σ vs).set i none) I2
    by_cases c : i < (Fc.clr Γ vs).length
    · exact h3.unset i none (by rw [List.getElem?_set_self c])
    · have c2 : (wipe σ vs).length ≤ i := by rw [← h1.len]; exact Nat.le_of_not_lt c
      rw [List.set_eq_of_length_le c2]
      exact h3
theorem Stt.clr (S : Stt K Γ σ H L) (vs : List Nat) : Stt K (Fc.clr Γ vs) (wipe σ vs) H L := by
  obtain ⟨I, E, R⟩ := S
  obtain ⟨I', h1, h2⟩ := E.clr vs
  exact ⟨I', h1, h2 _ _ _ R⟩
theorem EnvR.unset' (E : EnvR Γ σ I) : ∀ (n : Nat) (x : Option V), σ[n]? = some none → EnvR Γ (σ.set n x) I := by
  induction E with
  | nil => intro n x h; simp at h
  | @un E σ I x e ih =>
    intro n x h
    cases n with
    | zero => exact .un e
    | succ n => exact .un (ih n x h)
  | @v E σ I w0 s0 d0 e ih =>
    intro n x h
    cases n with
    | zero => cases h
    | succ n => exact .v (ih n x h)
  | @pin E σ I w0 s0 d0 e ih =>
    intro n x h
    cases n with
    | zero => cases h
    | succ n => exact .pin (ih n x h)
  | @fact E σ I w0 F e ih =>
    intro n x h
    cases n with
    | zero => cases h
    | succ n => exact .fact (ih n x h)
  | @ob bb E σ I a dx C vs fs e l ih =>
    intro n x h
    cases n with
    | zero => cases h
    | succ n => exact .ob (ih n x h) l
theorem EnvR.unwipe : ∀ {vs : List Nat}, EnvR Γ (wipe σ vs) I → EnvR Γ σ I
  | [], E => E
  | i :: vs, E => by
    have E : EnvR Γ ((wipe σ vs).set i none) I := E
    by_cases c : i < (wipe σ vs).length
    · have e2 := E.unset' i (wipe σ vs)[i] (by rw [List.getElem?_set_self c])
      rw [List.set_set, List.set_getElem_self] at e2
      exact EnvR.unwipe e2
    · rw [List.set_eq_of_length_le (Nat.le_of_not_lt c)] at E
      exact EnvR.unwipe E
theorem Stt.unwipe {vs : List Nat} (S : Stt K Γ (wipe σ vs) H L) : Stt K Γ σ H L := by
  obtain ⟨I, E, R⟩ := S
  exact ⟨I, E.unwipe, R⟩
end
section
variable {K : PySem.W.Frag} {Γ : Ev} {σ : L2.St} {H H' : Hp} {L L' I : List It} {w : V} {n : Nat} {F : Hp → Prop}
theorem EnvR.factAt (E : EnvR Γ σ I) : ∀ {n : Nat}, Γ[n]? = some (.fact w F) → σ[n]? = some (some w) ∧ It.ps F ∈ I := by
  induction E with
  | nil => intro n h; simp at h
  | un e ih =>
    intro n h
    cases n with
    | zero => cases h
    | succ n => exact ih (n := n) h
  | v e ih =>
    intro n h
    cases n with
    | zero => cases h
    | succ n => exact ⟨(ih (n := n) h).1, .tail _ (ih (n := n) h).2⟩
  | pin e ih =>
    intro n h
    cases n with
    | zero => cases h
    | succ n => exact ⟨(ih (n := n) h).1, .tail _ (ih (n := n) h).2⟩
  | fact e ih =>
    intro n h
    cases n with
    | zero => cases h; exact ⟨rfl, mem_here⟩
    | succ n => exact ⟨(ih (n := n) h).1, .tail _ (ih (n := n) h).2⟩
  | ob e l ih =>
    intro n h
    cases n with
    | zero => cases h
    | succ n => exact ⟨(ih (n := n) h).1, .tail _ (List.mem_append_right _ (ih (n := n) h).2)⟩
theorem Stt.factAt (S : Stt K Γ σ H L) (h : Γ[n]? = some (.fact w F)) : σ[n]? = some (some w) ∧ F H := by
  obtain ⟨I, E, R⟩ := S
  obtain ⟨h1, h2⟩ := E.factAt h
  exact ⟨h1, R.psOf (List.mem_append_left _ h2)⟩
theorem Stt.factM (S : Stt K Γ σ H L) (h : Γ[n]? = some (.fact w F)) : Stt K Γ σ H (.ps F :: L) := by
  obtain ⟨I, E, R⟩ := S
  obtain ⟨h1, h2⟩ := E.factAt h
  exact ⟨I, E, (R.psM (List.mem_append_left _ h2)).dim⟩
end
/-! ### judgements -/
abbrev zipI (vs : List V) (bs : List (Own × PyData)) : List It := List.zipWith (fun v b => It.ow b.1 v b.2) vs bs
def EW (K : PySem.W.Frag) (te : TE) (Γ : Ev) (Q : Own → PyData → Ev → Prop) : Prop := ∀ (σ : L2.St) (H : Hp) (L : List It) (G : VK), Stt K Γ σ H L → (∀ s d Γ' v H', Q s d Γ' → Stt K Γ' σ H' (.ow s v d :: L) → G v H') → te σ H G
def AW (K : PySem.W.Frag) (ta : TA) (Γ : Ev) (Q : List (Own × PyData) → Ev → Prop) : Prop := ∀ (σ : L2.St) (H : Hp) (L : List It) (G : List V → Hp → Prop), Stt K Γ σ H L → (∀ bs Γ' vs H', Q bs Γ' → vs.length = bs.length → Stt K Γ' σ H' (zipI vs bs ++ L) → G vs H') → ta σ H G
def TW (K : PySem.W.Frag) (tt : TT) (Γ : Ev) (Q : Bool → Ev → Prop) : Prop := ∀ (σ : L2.St) (H : Hp) (L : List It) (G : Bool → Hp → Prop), Stt K Γ σ H L → (∀ b Γ' H', Q b Γ' → Stt K Γ' σ H' L → G b H') → tt σ H G
def GW (K : PySem.W.Frag) (g : TG) (s : Own) (d : PyData) (Γ : Ev) (Q : Ev → Prop) : Prop := ∀ (σ : L2.St) (H : Hp) (L : List It) (v : V) (G : L2.St → Hp → Prop), Stt K Γ σ H (.ow s v d :: L) → (∀ Γ' σ' H', Q Γ' → Stt K Γ' σ' H' L → G σ' H') → g v σ H G
/-- a comprehension's target -/
def GC (K : PySem.W.Frag) (g : TG) (s : Own) (d : PyData) (Γ : Ev) (vs : List Nat) (Q : Ev → Prop) : Prop := ∀ (σ : L2.St) (H : Hp) (L : List It) (v : V) (G : L2.St → Hp → Prop), Stt K Γ σ H (.ow s v d :: L) → (∀ Γ' σ' H', Q Γ' → wipe σ' vs = wipe σ vs → Stt K Γ' σ' H' L → G σ' H') → g v σ H G
structure Po where
  nx : Ev → Prop
  rt : Own → PyData → Ev → Prop
  bk : Ev → Prop := fun _ => False
  ct : Ev → Prop := fun _ => False
  er : Hp → Prop := fun _ => True
structure PoOk (K : PySem.W.Frag) (P : Po) (D : Ends) (L : List It) : Prop where
  nx : ∀ Γ' σ' H', P.nx Γ' → Stt K Γ' σ' H' L → D.nx σ' H'
  rt : ∀ s d Γ' σ' v H', P.rt s d Γ' → Stt K Γ' σ' H' (.ow s v d :: L) → D.rt v H'
  bk : ∀ Γ' σ' H', P.bk Γ' → Stt K Γ' σ' H' L → D.bk σ' H'
  ct : ∀ Γ' σ' H', P.ct Γ' → Stt K Γ' σ' H' L → D.ct σ' H'
  er : ∀ H', Rp K H' L → P.er H'
def SW (K : PySem.W.Frag) (t : L2.TS) (Γ : Ev) (P : Po) : Prop := ∀ (σ : L2.St) (H : Hp) (L : List It) (D : Ends), Stt K Γ σ H L → PoOk K P D L → t D σ H
/-- an operation on two things -/
def OW (K : PySem.W.Frag) (r : R2) (s : Own) (d : PyData) (s' : Own) (e : PyData) (Q : Own → PyData → Prop) : Prop := ∀ (H : Hp) (L : List It) (G : VK) (x y : V), Rp K H (.ow s x d :: .ow s' y e :: L) → (∀ s2 d2 v H', Q s2 d2 → Rp K H' (.ow s2 v d2 :: L) → G v H') → r x y H G
/-- one that reads alone -/
def OM (K : PySem.W.Frag) (r : R2) (d e : PyData) (Q : Own → PyData → Prop) : Prop := ∀ (H : Hp) (L : List It) (G : VK) (x y : V) (s s' : Own), Rp K H L → It.ow s x d ∈ L → It.ow s' y e ∈ L → (∀ s2 d2 v H', Q s2 d2 → Rp K H' (.ow s2 v d2 :: L) → G v H') → r x y H G
/-- a built-in's call -/
def CW (K : PySem.W.Frag) (r : List V → Hp → VK → Prop) (bs : List (Own × PyData)) (Q : Own → PyData → Prop) : Prop := ∀ (H : Hp) (L : List It) (G : VK) (vs : List V), vs.length = bs.length → Rp K H (zipI vs bs ++ L) → (∀ s2 d2 v H', Q s2 d2 → Rp K H' (.ow s2 v d2 :: L) → G v H') → r vs H G
def CM (K : PySem.W.Frag) (r : List V → Hp → VK → Prop) (d : PyData) (Q : Own → PyData → Prop) : Prop := ∀ (H : Hp) (L : List It) (G : VK) (x : V) (s : Own), Rp K H L → It.ow s x d ∈ L → (∀ s2 d2 v H', Q s2 d2 → Rp K H' (.ow s2 v d2 :: L) → G v H') → r [x] H G
/-- an iterator that yields these -/
structure Walks (K : PySem.W.Frag) (J : L2.It) (ds : List PyData) (P : Hp → Prop) : Prop where
  stop : ∀ H, P H → J.stop ds.length H
  go : ∀ i d H, P H → ds[i]? = some d → J.go i H
  yld : ∀ i d H v H' M, ds[i]? = some d → Rp K H (.ps P :: M) → J.yld i H v H' → Rp K H' (.sh v d :: .ps P :: M)
def IW (K : PySem.W.Frag) (wi : TI) (Γ : Ev) (Q : List PyData → Ev → Prop) : Prop := ∀ (σ : L2.St) (H : Hp) (L : List It) (R : L2.It → Hp → Prop), Stt K Γ σ H L → (∀ ds Γ' J P H', Q ds Γ' → Walks K J ds P → Stt K Γ' σ H' (.ps P :: L) → R J H') → wi σ H R
/-- a def's promise over data -/
def spV (K : PySem.W.Frag) (pre : List PyData → (Own → PyData → Prop) → Prop) : Sp := fun vs H G _ => ∃ ds L Q, vs.length = ds.length ∧ Rp K H (each .lf vs ds ++ L) ∧ pre ds Q ∧ ∀ s d v H', Q s d → Rp K H' (.ow s v d :: L) → G v H'
/-- its first argument is changed -/
def spM (K : PySem.W.Frag) (pre : Own → PyData → List PyData → (Own → PyData → PyData → Prop) → Prop) : Sp := fun vs H G _ => ∃ w us s d ds L Q, vs = w :: us ∧ us.length = ds.length ∧ Rp K H (.ow s w d :: (each .lf us ds ++ L)) ∧ pre s d ds Q ∧ ∀ s2 r d' v H', Q s2 r d' → Rp K H' (.ow s2 v r :: .ow s w d' :: L) → G v H'
/-- its first argument is the script -/
def spS (K : PySem.W.Frag) (pre : List Int → List PyData → (Own → PyData → Prop) → Prop) : Sp := fun vs H G _ => ∃ a ns us ds L Q, vs = .ref a :: us ∧ us.length = ds.length ∧ Rp K H (.ps (fun H => SqL K H a (ns.map V.int)) :: (each .lf us ds ++ L)) ∧ pre ns ds Q ∧ ∀ s d v H', Q s d → Rp K H' (.ow s v d :: L) → G v H'
/-! ### rules: names, constants, operations -/
section
variable {K : PySem.W.Frag} {Γ Γ1 : Ev} {σ : L2.St} {H H' : Hp} {L L' I : List It} {s s' : Own} {d d' e : PyData} {w x y v : V} {n m : Nat} {b : Sl} {te ta tb tc : TE} {tt tu : TT} {tr tr2 : TA} {Q : Own → PyData → Ev → Prop} {i j : Int}
theorem EW.mono {Q' : Own → PyData → Ev → Prop} (h : EW K te Γ Q) (k : ∀ s d Γ', Q s d Γ' → Q' s d Γ') : EW K te Γ Q' := fun σ H L G S g => h σ H L G S fun s d Γ' v H' q S' => g s d Γ' v H' (k _ _ _ q) S'
theorem Rp.dupDim {M : List It} (R : Rp K H (.sh w d :: (M ++ L))) : Rp K H (.ow .lf w d :: (M ++ .sh w d :: L)) := R.dup.perm (List.Perm.cons _ List.perm_middle.symm)
theorem EW_var (h : Γ[n]? = some b) (hb : b.bx = some (.lf, d)) (q : Q .lf d Γ) : EW K (tVar n) Γ Q := fun σ H L G S k => by
  obtain ⟨w, M, hw, R, put, _⟩ := S.focus h hb
  exact ⟨w, hw, k _ _ _ _ _ q (Stt.keep h hb put _ _ R.dupDim)⟩
/-- what the name holds is shared from here on -/
theorem EW_fz (h : Γ[n]? = some b) (hb : b.bx = some (s, d)) (q : Q .lf d (Γ.set n (b.to .lf d))) : EW K (tVar n) Γ Q := fun σ H L G S k => by
  obtain ⟨w, M, hw, R, put, _⟩ := S.focus h hb
  exact ⟨w, hw, k _ _ _ _ _ q (put _ _ _ _ (Rp.dupDim R.fz))⟩
/-- it is taken out -/
theorem EW_mv (h : Γ[n]? = some b) (hb : b.bx = some (s, d)) (q : Q s d (Γ.set n .un)) : EW K (tVar n) Γ Q := fun σ H L G S k => by
  obtain ⟨w, M, hw, R, _, out⟩ := S.focus h hb
  exact ⟨w, hw, k _ _ _ _ _ q (out _ _ R.dim)⟩
theorem Stt.flat (S : Stt K Γ σ H L) (h : Dq K H v d) (z : noL d = true) : Stt K Γ σ H (.sh v d :: L) := by
  obtain ⟨I, E, R⟩ := S
  exact ⟨I, E, (R.flat h z).dim⟩
theorem EW_c (h : ∀ H, Dq K H v d) (z : noL d = true) (q : Q .lf d Γ) : EW K (tC v) Γ Q := fun σ H L G S k => k _ _ _ _ _ q (S.flat (h H) z)
theorem EW_int (q : Q .lf (.int i) Γ) : EW K (tC (.int i)) Γ Q := EW_c (fun _ => .int i) rfl q
theorem EW_bl {c : Bool} (q : Q .lf (.bool c) Γ) : EW K (tC (.bl c)) Γ Q := EW_c (fun _ => .bl c) rfl q
theorem EW_str {c : Str} (q : Q .lf (.str c) Γ) : EW K (tC (.str c)) Γ Q := EW_c (fun _ => .str c) rfl q
theorem EW_non (q : Q .lf .none Γ) : EW K (tC .non) Γ Q := EW_c (fun _ => .non) rfl q
/-- a constant of the module -/
theorem EW_gl {a : Addr} {ns : List Int} (h : ∀ H, SqT K H a (ns.map V.int)) (q : Q .lf (.tuple (ns.map PyData.int)) Γ) : EW K (tC (.ref a)) Γ Q := EW_c (fun H => .tup (h H) int_dq) (by
  show noLs (ns.map PyData.int) = true
  clear h q
  induction ns with
  | nil => rfl
  | cons i ns ih => exact ih) q
theorem EW_glF {a : Addr} {x : Rat} (h : ∀ H, SqT K H a [.int x.num, .int (x.den : Int)]) (q : Q .lf (FD x) Γ) : EW K (tC (.ref a)) Γ Q := EW_c (fun H => .tup (h H) (.cons (.int _) (.cons (.int _) .nil))) rfl q
/-- what a name holds -/
def AtB (Γ : Ev) (n : Nat) (F : Own → PyData → Sl → Prop) : Prop := ∃ b s d, Γ[n]? = some b ∧ b.bx = some (s, d) ∧ F s d b
theorem AtB_i {F : Own → PyData → Sl → Prop} (h : Γ[n]? = some b) (hb : b.bx = some (s, d)) (q : F s d b) : AtB Γ n F := ⟨b, s, d, h, hb, q⟩
theorem OM.ow {r : R2} {Q : Own → PyData → Prop} (h : OM K r d e Q) : OW K r s d s' e Q := fun H L G x y R k => h H _ G x y s s' R mem_here (.tail _ mem_here) fun s2 d2 v H' q R' => k _ _ _ _ q (R'.wk (.take .here (.drop (.drop .refl))))
theorem CM.cw {r : List V → Hp → VK → Prop} {Q : Own → PyData → Prop} (h : CM K r d Q) : CW K r [(s, d)] Q := fun H L G vs l R k => by
  match vs, l with
  | [x], _ => exact h H _ G x s R mem_here fun s2 d2 v H' q R' => k _ _ _ _ q (R'.wk (.take .here (.drop .refl)))
theorem EW_op {r : R2} (q : EW K ta Γ fun s d Γ1 => EW K tb Γ1 fun s' e Γ2 => OW K r s d s' e fun s2 d2 => Q s2 d2 Γ2) : EW K (tOp r ta tb) Γ Q := fun σ H L G S k => q σ H L _ S fun s d Γ1 x H1 q1 S1 => q1 σ H1 _ _ S1 fun s' e Γ2 y H2 q2 S2 => by
  obtain ⟨M, R, back⟩ := S2.lift (A := [.ow s' y e, .ow s x d])
  exact q2 H2 M _ x y (R.perm (.swap _ _ _)) fun s2 d2 v H' q3 R3 => k _ _ _ _ _ q3 (back H' [.ow s2 v d2] R3)
theorem Rp.swp {X W Y : It} {M : List It} (R : Rp K H (X :: W :: (M ++ Y :: L))) : Rp K H (W :: (M ++ X :: L)) := by
  have R1 : Rp K H (X :: W :: Y :: (M ++ L)) := R.perm (((List.perm_middle).cons _).cons _)
  have R2 : Rp K H (Y :: X :: W :: (M ++ L)) := R1.perm (((List.Perm.swap Y W _).cons X).trans (List.Perm.swap Y X _))
  exact R2.tail.perm ((List.Perm.swap W X _).trans (List.perm_middle.symm.cons W))
/-- an operation that reads a name alone -/
theorem EW_opV {r : R2} {b0 : Sl} {s0 : Own} {d0 : PyData} (h : Γ[n]? = some b0) (hb : b0.bx = some (s0, d0)) (q : EW K tb Γ fun s' e Γ2 => AtB Γ2 n fun s d _ => OM K r d e fun s2 d2 => Q s2 d2 Γ2) : EW K (tOp r (tVar n) tb) Γ Q := fun σ H L G S k => by
  obtain ⟨w, M0, hw, _, _, _⟩ := S.focus h hb
  refine ⟨w, hw, q σ H L _ S fun s' e Γ2 y H2 ⟨b, s, d, h2, hb2, om⟩ S2 => ?_⟩
  obtain ⟨w2, M, hw2, R, put, _⟩ := S2.focus h2 hb2
  rw [hw] at hw2; cases hw2
  exact om H2 _ G w y s s' R mem_here (.tail _ (List.mem_append_right _ mem_here)) fun s2 d2 v H' q3 R3 => k _ _ _ _ _ q3 (Stt.keep h2 hb2 put _ _ R3.swp)
theorem EW_opW {r : R2} (q : EW K ta Γ fun s d Γ1 => AtB Γ1 n fun s' e _ => OM K r d e fun s2 d2 => Q s2 d2 Γ1) : EW K (tOp r ta (tVar n)) Γ Q := fun σ H L G S k => q σ H L _ S fun s d Γ1 x H1 ⟨b, s', e, h2, hb2, om⟩ S1 => by
  obtain ⟨w2, M, hw2, R, put, _⟩ := S1.focus h2 hb2
  exact ⟨w2, hw2, om H1 _ G x w2 s s' R (.tail _ (List.mem_append_right _ mem_here)) mem_here fun s2 d2 v H' q3 R3 => k _ _ _ _ _ q3 (Stt.keep h2 hb2 put _ _ R3.swp)⟩
theorem EW_un {r : V → Hp → VK → Prop} (q : EW K ta Γ fun s d Γ1 => ∀ (H : Hp) (L : List It) (G : VK) (x : V), Rp K H (.ow s x d :: L) → (∀ s2 d2 v H', Q s2 d2 Γ1 → Rp K H' (.ow s2 v d2 :: L) → G v H') → r x H G) : EW K (tUn r ta) Γ Q := fun σ H L G S k => q σ H L _ S fun s d Γ1 x H1 q1 S1 => by
  obtain ⟨M, R, back⟩ := S1.lift (A := [.ow s x d])
  exact q1 H1 M _ x R fun s2 d2 v H' q3 R3 => k _ _ _ _ _ q3 (back H' [.ow s2 v d2] R3)
theorem EW_neg (q : EW K ta Γ fun s d Γ1 => ∃ i, d = .int i ∧ Q .lf (.int (-i)) Γ1) : EW K (tUn (rU fun i => .int (-i)) ta) Γ Q := EW_un (q.mono fun s d Γ1 ⟨i, e, q⟩ H L G x R k => by
  subst e
  obtain rfl := sh_int R
  exact ⟨i, rfl, k _ _ _ _ q (R.tail.int (-i))⟩)
/-! arguments -/
theorem AW_nil {Q : List (Own × PyData) → Ev → Prop} (q : Q [] Γ) : AW K tNil Γ Q := fun σ H L G S k => k [] Γ [] H q rfl S
theorem AW_cons {Q : List (Own × PyData) → Ev → Prop} (q : EW K te Γ fun s d Γ1 => AW K tr Γ1 fun bs Γ2 => Q ((s, d) :: bs) Γ2) : AW K (tCons te tr) Γ Q := fun σ H L G S k => q σ H L _ S fun s d Γ1 x H1 q1 S1 => q1 σ H1 _ _ S1 fun bs Γ2 vs H2 q2 l S2 =>
  k ((s, d) :: bs) Γ2 (x :: vs) H2 q2 (by rw [List.length_cons, List.length_cons, l]) (S2.perm List.perm_middle)
theorem EW_cb {r : List V → Hp → VK → Prop} (q : AW K tr Γ fun bs Γ1 => CW K r bs fun s d => Q s d Γ1) : EW K (tCB r tr) Γ Q := fun σ H L G S k => q σ H L _ S fun bs Γ1 vs H1 q1 l S1 => by
  obtain ⟨M, R, back⟩ := S1.lift (A := zipI vs bs)
  exact q1 H1 M _ vs l R fun s2 d2 v H' q3 R3 => k _ _ _ _ _ q3 (back H' [.ow s2 v d2] R3)
theorem Rp.swq {X W : It} {M : List It} (R : Rp K H (X :: W :: (M ++ L))) : Rp K H (W :: (M ++ X :: L)) := R.perm ((List.Perm.swap W X _).trans (List.perm_middle.symm.cons W))
theorem EW_cbV {r : List V → Hp → VK → Prop} (q : AtB Γ n fun s d _ => CM K r d fun s2 d2 => Q s2 d2 Γ) : EW K (tCB r (tCons (tVar n) tNil)) Γ Q := fun σ H L G S k => by
  obtain ⟨b, s, d, h, hb, cm⟩ := q
  obtain ⟨w, M, hw, R, put, _⟩ := S.focus h hb
  exact ⟨w, hw, cm H _ G w s R mem_here fun s2 d2 v H' q3 R3 => k _ _ _ _ _ q3 (Stt.keep h hb put _ _ R3.swq)⟩
/-! displays -/
theorem zipI_each : ∀ {vs : List V} {bs : List (Own × PyData)}, vs.length = bs.length → (∀ b ∈ bs, b.1 = s) → zipI vs bs = each s vs (bs.map Prod.snd)
  | [], [], _, _ => rfl
  | v :: vs, b :: bs, l, h => by
    show It.ow b.1 v b.2 :: zipI vs bs = It.ow s v b.2 :: each s vs (bs.map Prod.snd)
    rw [h b List.mem_cons_self, zipI_each (by simpa using l) fun c hc => h c (List.mem_cons_of_mem _ hc)]
theorem Rp.fzZ : ∀ {vs : List V} {bs : List (Own × PyData)} {L : List It}, vs.length = bs.length → Rp K H (zipI vs bs ++ L) → Rp K H (each .lf vs (bs.map Prod.snd) ++ L)
  | [], [], _, _, R => R
  | v :: vs, b :: bs, L, l, R => by
    have R1 : Rp K H (.ow b.1 v b.2 :: (zipI vs bs ++ L)) := R
    have R2 : Rp K H (zipI vs bs ++ .sh v b.2 :: L) := Rp.dim R1.fz
    exact Rp.mid (Rp.fzZ (by simpa using l) R2)
theorem Rp.dqE : ∀ {vs : List V} {ds : List PyData} {L : List It}, vs.length = ds.length → Rp K H (each .lf vs ds ++ L) → DqAll K H vs ds
  | [], [], _, _, _ => .nil
  | v :: vs, d :: ds, L, l, R => .cons (Rp.dp (s := .lf) (L := each .lf vs ds ++ L) R) (Rp.dqE (by simpa using l) (Rp.tail (m := .sh v d) R))
theorem Rp.both {P1 P2 : Hp → Prop} (R : Rp K H (.ps P1 :: .ps P2 :: L)) : Rp K H (.ps (fun H => P1 H ∧ P2 H) :: L) := by
  obtain ⟨_, _, h1, t, r⟩ := R.inv
  obtain ⟨_, ps, rfl, h2, t2⟩ := t.inv
  cases h1; cases h2
  have k1 := Rf.psK (P := P1) r
  have r2 : Rf H (.ps P2 :: ps) := r.tail
  have k2 := Rf.psK (P := P2) r2
  have r3 : Rf H ps := r2.tail
  refine ⟨_, .cons (p := [_]) rfl t2, r3.addps (fun H H' s h => ⟨k1.1 _ _ s h.1, k2.1 _ _ s h.2⟩) ⟨k1.1 _ _ (wo_less fun a ha => ows_sub (fun m hm => List.mem_cons_of_mem _ hm) ha) k1.2, k2.2⟩⟩
theorem Rp.allE : ∀ {vs : List V} {ds : List PyData} {L : List It}, vs.length = ds.length → Rp K H (each .lf vs ds ++ L) → Rp K H (.ps (fun H => DqAll K H vs ds) :: L)
  | [], [], _, _, R => by
    obtain ⟨ps, u, r⟩ := R
    exact ⟨_, .cons (p := [_]) rfl u, r.addps (fun _ _ _ _ => .nil) .nil⟩
  | v :: vs, d :: ds, L, l, R => by
    have R1 : Rp K H (.sh v d :: (each .lf vs ds ++ L)) := R
    have R2 : Rp K H (.ps (fun H => DqAll K H vs ds) :: .sh v d :: L) := Rp.allE (by simpa using l) (Rp.dim R1)
    have R3 : Rp K H (.ps (fun H => Dq K H v d) :: .ps (fun H => DqAll K H vs ds) :: L) := (R2.perm (.swap _ _ _)).impS (fun _ h => h) mono_dp |>.perm (by
      refine (List.Perm.swap _ _ _).trans ?_
      exact .refl _) |>.tail
    exact (R3.both.imp (fun H h => .cons h.1 h.2) fun H H' s h => dqAll_same s _ _ h).wk (.take .here (.drop .refl))
/-- a tuple of shared things -/
theorem Rp.tupL {vs : List V} {ds : List PyData} {p : Addr} (R : Rp K H (each .lf vs ds ++ L)) (l : vs.length = ds.length) (n : H p = none) : Rp K (upd H p (.tup vs)) (.sh (.ref p) (.tuple ds) :: L) := by
  have R1 := (Rp.allE l R).tup (xs := vs) n
  exact (R1.both.imp (P' := fun H => Dq K H (.ref p) (.tuple ds)) (fun H h => .tup h.1 h.2) mono_dp).toSh.wk (.take .here (.drop .refl))
theorem EW_tup (q : AW K tr Γ fun bs Γ1 => bs.length ≤ 100000 ∧ Q .lf (.tuple (bs.map Prod.snd)) Γ1) : EW K (tTup tr) Γ Q := fun σ H L G S k => q σ H L _ S fun bs Γ1 vs H1 ⟨z, q1⟩ l S1 => ⟨sz_le (by rw [l]; exact z), fun p np => by
  obtain ⟨M, R, back⟩ := S1.lift (A := zipI vs bs)
  exact k _ _ _ _ _ q1 (back _ [.sh (.ref p) _] (Rp.tupL (Rp.fzZ l R) (by rw [l, List.length_map]) np))⟩
theorem EW_lst (s : Own) (q : AW K tr Γ fun bs Γ1 => bs.length ≤ 100000 ∧ (∀ b ∈ bs, b.1 = s) ∧ Q (.li s) (.list (bs.map Prod.snd)) Γ1) : EW K (tLst tr) Γ Q := fun σ H L G S k => q σ H L _ S fun bs Γ1 vs H1 ⟨z, hs, q1⟩ l S1 => ⟨sz_le (by rw [l]; exact z), fun p np => by
  obtain ⟨M, R, back⟩ := S1.lift (A := zipI vs bs)
  rw [zipI_each l hs] at R
  exact k _ _ _ _ _ q1 (back _ [.ow (.li s) (.ref p) _] (Rp.mkL R (by rw [l, List.length_map]) np))⟩
/-- a display of things that are shared from here on -/
theorem EW_lstF (q : AW K tr Γ fun bs Γ1 => bs.length ≤ 100000 ∧ Q (.li .lf) (.list (bs.map Prod.snd)) Γ1) : EW K (tLst tr) Γ Q := fun σ H L G S k => q σ H L _ S fun bs Γ1 vs H1 ⟨z, q1⟩ l S1 => ⟨sz_le (by rw [l]; exact z), fun p np => by
  obtain ⟨M, R, back⟩ := S1.lift (A := zipI vs bs)
  exact k _ _ _ _ _ q1 (back _ [.ow (.li .lf) (.ref p) _] (Rp.mkL (Rp.fzZ l R) (by rw [l, List.length_map]) np))⟩
theorem EW_l0 (s : Own) (q : Q (.li s) (.list []) Γ) : EW K (tLst tNil) Γ Q := EW_lst s (AW_nil ⟨by decide, fun b h => (by cases h), q⟩)
theorem EW_t2 {s1 s2 : Own} {d1 d2 : PyData} (q : AW K tr Γ fun bs Γ1 => bs = [(s1, d1), (s2, d2)] ∧ Q (.t2 s1 s2) (.tuple [d1, d2]) Γ1) : EW K (tTup tr) Γ Q := fun σ H L G S k => q σ H L _ S fun bs Γ1 vs H1 ⟨e, q1⟩ l S1 => ⟨sz_le (by rw [l, e]; exact (by decide : 2 ≤ 100000)), fun p np => by
  subst e
  match vs, l with
  | [x, y], _ =>
  obtain ⟨M, R, back⟩ := S1.lift (A := zipI [x, y] [(s1, d1), (s2, d2)])
  exact k _ _ _ _ _ q1 (back _ [.ow (.t2 s1 s2) (.ref p) _] (Rp.mk2 R np))⟩
theorem EW_t3 {s1 s2 s3 : Own} {d1 d2 d3 : PyData} (q : AW K tr Γ fun bs Γ1 => bs = [(s1, d1), (s2, d2), (s3, d3)] ∧ Q (.t3 s1 s2 s3) (.tuple [d1, d2, d3]) Γ1) : EW K (tTup tr) Γ Q := fun σ H L G S k => q σ H L _ S fun bs Γ1 vs H1 ⟨e, q1⟩ l S1 => ⟨sz_le (by rw [l, e]; exact (by decide : 3 ≤ 100000)), fun p np => by
  subst e
  match vs, l with
  | [x, y, z], _ =>
  obtain ⟨M, R, back⟩ := S1.lift (A := zipI [x, y, z] [(s1, d1), (s2, d2), (s3, d3)])
  exact k _ _ _ _ _ q1 (back _ [.ow (.t3 s1 s2 s3) (.ref p) _] (Rp.mk3 R np))⟩
/-! tests, and, or -/
theorem TW_test {Q : Bool → Ev → Prop} (q : EW K te Γ fun _ d Γ1 => ∃ c, d = .bool c ∧ Q c Γ1) : TW K (tTest te) Γ Q := fun σ H L G S k => q σ H L _ S fun s d Γ1 v H1 ⟨c, e, q1⟩ S1 => by
  subst e
  obtain ⟨I, E, R⟩ := S1
  obtain rfl := sh_bl R.mid
  exact ⟨c, rfl, k _ _ _ q1 ⟨I, E, R.mid.tail⟩⟩
theorem TW_tB {Q : Bool → Ev → Prop} (q : EW K te Γ fun _ d Γ1 => ∃ c, d = .bool c ∧ Q c Γ1) : TW K (tB te) Γ Q := fun σ H L G S k => q σ H L _ S fun s d Γ1 v H1 ⟨c, e, q1⟩ S1 => by
  subst e
  obtain ⟨I, E, R⟩ := S1
  obtain rfl := sh_bl R.mid
  exact ⟨c, rfl, k _ _ _ q1 ⟨I, E, R.mid.tail⟩⟩
theorem TW_not {Q : Bool → Ev → Prop} (q : TW K tt Γ fun c Γ1 => Q (!c) Γ1) : TW K (tNot tt) Γ Q := fun σ H L G S k => q σ H L _ S fun c Γ1 H1 q1 S1 => k _ _ _ q1 S1
theorem TW_and {Q : Bool → Ev → Prop} (q : TW K tt Γ fun c Γ1 => if c = true then TW K tu Γ1 Q else Q false Γ1) : TW K (tAnd tt tu) Γ Q := fun σ H L G S k => q σ H L _ S fun c Γ1 H1 q1 S1 => by
  cases c with
  | true => rw [if_pos rfl] at q1 ⊢; exact q1 σ H1 L G S1 k
  | false => rw [if_neg (by decide)] at q1 ⊢; exact k _ _ _ q1 S1
theorem TW_or {Q : Bool → Ev → Prop} (q : TW K tt Γ fun c Γ1 => if c = true then Q true Γ1 else TW K tu Γ1 Q) : TW K (tOr tt tu) Γ Q := fun σ H L G S k => q σ H L _ S fun c Γ1 H1 q1 S1 => by
  cases c with
  | false => rw [if_neg (by decide)] at q1 ⊢; exact q1 σ H1 L G S1 k
  | true => rw [if_pos rfl] at q1 ⊢; exact k _ _ _ q1 S1
theorem TW_yes {Q : Bool → Ev → Prop} (q : Q true Γ) : TW K tYes Γ Q := fun σ H L G S k => k _ _ _ q S
theorem Stt.bool {c : Bool} (S : Stt K Γ σ H (.ow s v (.bool c) :: L)) : v = .bl c := by
  obtain ⟨I, E, R⟩ := S
  exact sh_bl R.mid
theorem Stt.int' (S : Stt K Γ σ H (.ow s v (.int i) :: L)) : v = .int i := by
  obtain ⟨I, E, R⟩ := S
  exact sh_int R.mid
theorem Stt.str' {z : Str} (S : Stt K Γ σ H (.ow s v (.str z) :: L)) : v = .str z := by
  obtain ⟨I, E, R⟩ := S
  exact sh_str R.mid
theorem Stt.tail {m : It} (S : Stt K Γ σ H (m :: L)) : Stt K Γ σ H L := S.wk (.drop .refl)
theorem EW_andV (q : EW K ta Γ fun s d Γ1 => ∃ c, d = .bool c ∧ if c = true then EW K tb Γ1 Q else Q .lf (.bool false) Γ1) : EW K (tAndV ta tb) Γ Q := fun σ H L G S k => q σ H L _ S fun s d Γ1 x H1 ⟨c, e, q1⟩ S1 => by
  subst e
  obtain rfl := S1.bool
  refine ⟨c, rfl, ?_⟩
  cases c with
  | true => rw [if_pos rfl] at q1 ⊢; exact q1 σ H1 L G S1.tail k
  | false => rw [if_neg (by decide)] at q1 ⊢; exact k _ _ _ _ _ q1 (S1.tail.flat (.bl _) rfl)
theorem EW_orV (q : EW K ta Γ fun s d Γ1 => ∃ c, d = .bool c ∧ if c = true then Q .lf (.bool true) Γ1 else EW K tb Γ1 Q) : EW K (tOrV ta tb) Γ Q := fun σ H L G S k => q σ H L _ S fun s d Γ1 x H1 ⟨c, e, q1⟩ S1 => by
  subst e
  obtain rfl := S1.bool
  refine ⟨c, rfl, ?_⟩
  cases c with
  | false => rw [if_neg (by decide)] at q1 ⊢; exact q1 σ H1 L G S1.tail k
  | true => rw [if_pos rfl] at q1 ⊢; exact k _ _ _ _ _ q1 (S1.tail.flat (.bl _) rfl)
theorem EW_notV (q : EW K ta Γ fun s d Γ1 => ∃ c, d = .bool c ∧ Q .lf (.bool (!c)) Γ1) : EW K (tNotV ta) Γ Q := fun σ H L G S k => q σ H L _ S fun s d Γ1 x H1 ⟨c, e, q1⟩ S1 => by
  subst e
  obtain rfl := S1.bool
  exact ⟨c, rfl, k _ _ _ _ _ q1 (S1.tail.flat (.bl _) rfl)⟩
theorem EW_if (q : TW K tt Γ fun c Γ1 => if c = true then EW K ta Γ1 Q else EW K tb Γ1 Q) : EW K (tIf tt ta tb) Γ Q := fun σ H L G S k => q σ H L _ S fun c Γ1 H1 q1 S1 => by
  cases c with
  | true => rw [if_pos rfl] at q1 ⊢; exact q1 σ H1 L G S1 k
  | false => rw [if_neg (by decide)] at q1 ⊢; exact q1 σ H1 L G S1 k
theorem EW_chain {r r' : R2} (q : EW K ta Γ fun _ d Γ1 => EW K tb Γ1 fun _ e Γ2 => ∃ i j, d = .int i ∧ e = .int j ∧ OW K r .lf (.int i) .lf (.int j) fun _ d2 => ∃ c, d2 = .bool c ∧ if c = true then EW K tc Γ2 fun s3 f Γ3 => OW K r' .lf (.int j) s3 f fun s4 d4 => Q s4 d4 Γ3 else Q .lf (.bool false) Γ2) : EW K (tChain r r' ta tb tc) Γ Q := fun σ H L G S k => q σ H L _ S fun s d Γ1 x H1 q1 S1 => q1 σ H1 _ _ S1 fun s' e Γ2 y H2 ⟨i, j, e1, e2, q2⟩ S2 => by
  subst e1 e2
  obtain rfl := S2.int'
  obtain rfl := S2.tail.int'
  have S2 := ((S2.tail.tail.flat (.int j) rfl).flat (.int j) rfl).flat (v := .int i) (.int i) rfl
  obtain ⟨M, R, back⟩ := S2.lift (A := [.sh (.int i) (.int i), .sh (.int j) (.int j)])
  refine q2 H2 M _ _ _ R fun s2 d2 v H' ⟨c, e, q3⟩ R3 => ?_
  subst e
  have S3 := back H' [.ow s2 v (.bool c)] R3
  obtain rfl := S3.bool
  have S5 : Stt K Γ2 σ H' (.sh (.int j) (.int j) :: L) := S3.tail
  clear S3
  refine ⟨c, rfl, ?_⟩
  cases c with
  | true =>
    rw [if_pos rfl] at q3 ⊢
    refine q3 σ H' _ _ S5 fun s3 f Γ3 z H3 q4 S4 => ?_
    obtain ⟨M, R, back⟩ := S4.lift (A := [.ow s3 z f, .sh (.int j) (.int j)])
    exact q4 H3 M _ _ _ (R.perm (.swap _ _ _)) fun s4 d4 v H' q5 R5 => k _ _ _ _ _ q5 (back H' [.ow s4 v d4] R5)
  | false =>
    rw [if_neg (by decide)] at q3 ⊢
    exact k _ _ _ _ _ q3 (S5.tail.flat (.bl _) rfl)
/-! ### statements -/
variable {P : Po} {t u : L2.TS} {g : TG}
theorem SW_seq (q : SW K t Γ { P with nx := fun Γ1 => SW K u Γ1 P }) : SW K (tSeq t u) Γ P := fun σ H L D S k => q σ H L _ S ⟨fun Γ' σ' H' q1 S1 => q1 σ' H' L D S1 k, k.rt, k.bk, k.ct, k.er⟩
theorem SW_next (q : P.nx Γ) : SW K tNext Γ P := fun σ H L D S k => k.nx _ _ _ q S
theorem SW_break (q : P.bk Γ) : SW K tBreak Γ P := fun σ H L D S k => k.bk _ _ _ q S
theorem SW_cont (q : P.ct Γ) : SW K tCont Γ P := fun σ H L D S k => k.ct _ _ _ q S
theorem SW_if (q : TW K tt Γ fun c Γ1 => if c = true then SW K t Γ1 P else SW K u Γ1 P) : SW K (tIfS tt t u) Γ P := fun σ H L D S k => q σ H L _ S fun c Γ1 H1 q1 S1 => by
  cases c with
  | true => rw [if_pos rfl] at q1 ⊢; exact q1 σ H1 L D S1 k
  | false => rw [if_neg (by decide)] at q1 ⊢; exact q1 σ H1 L D S1 k
theorem SW_ret (q : EW K te Γ P.rt) : SW K (tRet te) Γ P := fun σ H L D S k => q σ H L _ S fun s d Γ' v H' q1 S1 => k.rt _ _ _ _ _ _ q1 S1
/-- what a name holds goes out -/
theorem SW_retV (h : Γ[n]? = some b) (hb : b.bx = some (s, d)) (q : P.rt s d (Γ.set n .un)) : SW K (tRet (tVar n)) Γ P := SW_ret (EW_mv h hb q)
theorem SW_retN (q : P.rt .lf .none Γ) : SW K tRetN Γ P := fun σ H L D S k => k.rt _ _ _ _ _ _ q (S.flat .non rfl)
theorem SW_drop (q : EW K te Γ fun _ _ Γ1 => P.nx Γ1) : SW K (tDrop te) Γ P := fun σ H L D S k => q σ H L _ S fun s d Γ' v H' q1 S1 => k.nx _ _ _ q1 S1.tail
theorem SW_asg (q : EW K te Γ fun s d Γ1 => GW K g s d Γ1 P.nx) : SW K (tAsg te g) Γ P := fun σ H L D S k => q σ H L _ S fun s d Γ' v H' q1 S1 => q1 σ H' L v _ S1 fun Γ2 σ2 H2 q2 S2 => k.nx _ _ _ q2 S2
theorem SW_cut (Mid : Ev → Prop) (h : SW K t Γ { P with nx := Mid }) (q : ∀ Γ', Mid Γ' → SW K u Γ' P) : SW K (C8.tCut t u) Γ P := fun σ H L D S k => ⟨fun σ' H' => ∃ Γ', Mid Γ' ∧ Stt K Γ' σ' H' L, h σ H L _ S ⟨fun Γ' σ' H' q1 S1 => ⟨Γ', q1, S1⟩, k.rt, k.bk, k.ct, k.er⟩, fun σ' H' ⟨Γ', q1, S1⟩ => q Γ' q1 σ' H' L D S1 k⟩
theorem SW_fz (h : Γ[n]? = some b) (hb : b.bx = some (s, d)) (q : SW K t (Γ.set n (b.to .lf d)) P) : SW K t Γ P := fun σ H L D S k => by
  obtain ⟨w, M, hw, R, put, _⟩ := S.focus h hb
  exact q σ H L D (put _ _ _ _ R.fz) k
theorem EW_fzS (h : Γ[n]? = some b) (hb : b.bx = some (s, d)) (q : EW K te (Γ.set n (b.to .lf d)) Q) : EW K te Γ Q := fun σ H L D S k => by
  obtain ⟨w, M, hw, R, put, _⟩ := S.focus h hb
  exact q σ H L D (put _ _ _ _ R.fz) k
theorem SW_mono {P' : Po} (h : SW K t Γ P) (k1 : ∀ Γ, P.nx Γ → P'.nx Γ) (k2 : ∀ s d Γ, P.rt s d Γ → P'.rt s d Γ) (k3 : ∀ Γ, P.bk Γ → P'.bk Γ) (k4 : ∀ Γ, P.ct Γ → P'.ct Γ) (k5 : ∀ H, P'.er H → P.er H := by exact fun _ h => h) : SW K t Γ P' := fun σ H L D S k => h σ H L D S ⟨fun Γ' σ' H' q => k.nx _ _ _ (k1 _ q), fun s d Γ' σ' v H' q => k.rt _ _ _ _ _ _ (k2 _ _ _ q), fun Γ' σ' H' q => k.bk _ _ _ (k3 _ q), fun Γ' σ' H' q => k.ct _ _ _ (k4 _ q), fun H' R => k5 _ (k.er H' R)⟩
/-! targets -/
theorem GW_name {Q : Ev → Prop} (q : Q (Γ.set n (.v s d))) : GW K (gName n) s d Γ Q := fun σ H L v G S k => k _ _ _ q (S.bind n)
/-- shared from here on -/
theorem GW_nameF {Q : Ev → Prop} (q : Q (Γ.set n (.v .lf d))) : GW K (gName n) s d Γ Q := fun σ H L v G S k => by
  obtain ⟨I, E, R⟩ := S
  exact k _ _ _ q (Stt.bind ⟨I, E, Rp.dim R.mid.fz⟩ n)
theorem wipe_set : ∀ {vs : List Nat} {σ : L2.St} {x : Option V}, n ∈ vs → wipe (σ.set n x) vs = wipe σ vs
  | i :: vs, σ, x, h => by
    show (wipe (σ.set n x) vs).set i none = (wipe σ vs).set i none
    by_cases c : n ∈ vs
    · rw [wipe_set c]
    · have e : n = i := by
        rcases List.mem_cons.mp h with h | h
        · exact h
        · exact (c h).elim
      subst e
      have key : ∀ {vs : List Nat} {σ : L2.St}, n ∉ vs → wipe (σ.set n x) vs = (wipe σ vs).set n x := fun {vs} => by
        induction vs with
        | nil => intro σ _; rfl
        | cons j vs ih =>
          intro σ h
          show (wipe (σ.set n x) vs).set j none = ((wipe σ vs).set j none).set n x
          rw [ih (fun z => h (List.mem_cons_of_mem _ z)), List.set_comm _ _ (fun z => h (by rw [z]; exact List.mem_cons_self))]
      rw [key c, List.set_set]
theorem GC_name {vs : List Nat} {Q : Ev → Prop} (h : n ∈ vs) (q : Q (Γ.set n (.v s d))) : GC K (gName n) s d Γ vs Q := fun σ H L v G S k => k _ _ _ q (wipe_set h) (S.bind n)
end
/-! ### boxes: loops, comprehensions, changes, calls -/
section
variable {K : PySem.W.Frag} {Γ Γ1 : Ev} {σ : L2.St} {H H' : Hp} {L L' I : List It} {s s' s1 : Own} {d d' e : PyData} {ds es : List PyData} {w x y v : V} {n m : Nat} {b b0 : Sl} {te ta tb tc ti tj : TE} {tt tu : TT} {tr tr2 : TA} {Q : Own → PyData → Ev → Prop} {i j : Int} {P : Po} {t u tbd : L2.TS} {g : TG} {wi : TI} {vs : List Nat}
theorem Rp.flip {A B : It} (R : Rp K H (A :: B :: L)) : Rp K H (B :: A :: L) := R.perm (.swap _ _ _)
theorem SW_while (q : ∃ Wm : Nat → Ev → Prop, (∃ m, Wm m Γ) ∧ ∀ m Γ, Wm m Γ → TW K tt Γ fun b Γ1 => if b = true then SW K tbd Γ1 { P with nx := fun Γ' => ∃ m', m' < m ∧ Wm m' Γ', ct := fun Γ' => ∃ m', m' < m ∧ Wm m' Γ', bk := P.nx } else P.nx Γ1) : SW K (tWhile tt tbd) Γ P := fun σ H L D S k => by
  obtain ⟨Wm, ⟨m0, w0⟩, turn⟩ := q
  refine ⟨fun m σ H => ∃ Γ, Wm m Γ ∧ Stt K Γ σ H L, ⟨m0, Γ, w0, S⟩, fun m σ H ⟨Γ, wm, S⟩ => turn m Γ wm σ H L _ S fun b Γ1 H1 q1 S1 => ?_⟩
  cases b with
  | false => rw [if_neg (by decide)] at q1 ⊢; exact k.nx _ _ _ q1 S1
  | true =>
    rw [if_pos rfl] at q1 ⊢
    exact ⟨fun σ' H' => ∃ m', m' < m ∧ ∃ Γ, Wm m' Γ ∧ Stt K Γ σ' H' L, fun σ' H' h => h, q1 σ H1 L _ S1 ⟨fun Γ' σ' H' ⟨m', h1, h2⟩ S' => ⟨m', h1, Γ', h2, S'⟩, k.rt, k.nx, fun Γ' σ' H' ⟨m', h1, h2⟩ S' => ⟨m', h1, Γ', h2, S'⟩, k.er⟩⟩
/-- a for over these -/
def ForB (K : PySem.W.Frag) (ds : List PyData) (g : TG) (tbd : L2.TS) (Γ : Ev) (P : Po) : Prop := ∃ Pv : Nat → Ev → Prop, Pv 0 Γ ∧ (∀ i d Γ', ds[i]? = some d → Pv i Γ' → GW K g .lf d Γ' fun Γ2 => SW K tbd Γ2 { P with nx := Pv (i + 1), ct := Pv (i + 1), bk := P.nx }) ∧ ∀ Γ', Pv ds.length Γ' → P.nx Γ'
theorem PoOk.dropP {D : Ends} {P0 : Hp → Prop} (k : PoOk K P D L) : PoOk K P D (.ps P0 :: L) := ⟨fun Γ' σ' H' q S => k.nx _ _ _ q S.tail, fun s d Γ' σ' v H' q S => k.rt _ _ _ _ _ _ q (S.wk (.take .here (.drop .refl))), fun Γ' σ' H' q S => k.bk _ _ _ q S.tail, fun Γ' σ' H' q S => k.ct _ _ _ q S.tail, fun H' R => k.er H' R.tail⟩
theorem Stt.psAt {P0 : Hp → Prop} (S : Stt K Γ σ H (.ps P0 :: L)) : P0 H := by
  obtain ⟨I, E, R⟩ := S
  exact R.mid.psAt
theorem SW_for (q : IW K wi Γ fun ds Γ1 => ForB K ds g tbd Γ1 P) : SW K (tFor wi g tbd) Γ P := fun σ H L D S k => q σ H L _ S fun ds Γ1 J P0 H1 ⟨Pv, h0, hs, hd⟩ wk S1 => by
  refine ⟨fun i m σ H => m = ds.length - i ∧ i ≤ ds.length ∧ ∃ Γ', Pv i Γ' ∧ Stt K Γ' σ H (.ps P0 :: L), ⟨_, rfl, Nat.zero_le _, Γ1, h0, S1⟩, ?_⟩
  rintro i m σ H ⟨rfl, hi, Γ', pv, S⟩
  by_cases c : i < ds.length
  · have hx : ds[i]? = some ds[i] := List.getElem?_eq_getElem c
    refine .inr ⟨wk.go i _ H S.psAt hx, fun σ' H' => ∃ Γ', Pv (i + 1) Γ' ∧ Stt K Γ' σ' H' (.ps P0 :: L), fun σ' H' h => ⟨ds.length - (i + 1), by omega, rfl, c, h⟩, fun v H' hy => ?_⟩
    obtain ⟨M, R, back⟩ := S.lift (A := [.ps P0])
    have S2 : Stt K Γ' σ H' (.sh v ds[i] :: .ps P0 :: L) := back H' [.sh v ds[i], .ps P0] (wk.yld i _ H v H' M hx R hy)
    exact hs i _ Γ' hx pv σ H' (.ps P0 :: L) v _ S2 fun Γ2 σ2 H2 q2 S3 => q2 σ2 H2 (.ps P0 :: L) _ S3 ⟨fun Γ' σ' H' q S => ⟨Γ', q, S⟩, k.dropP.rt, k.dropP.nx, fun Γ' σ' H' q S => ⟨Γ', q, S⟩, k.dropP.er⟩
  · have e : i = ds.length := by omega
    subst e
    exact .inl ⟨wk.stop H S.psAt, k.nx _ _ _ (hd Γ' pv) S.tail⟩
theorem ForB_map {α : Type} {xs : List α} {f : α → PyData} (Pv : Nat → Ev → Prop) (h0 : Pv 0 Γ) (hs : ∀ i x Γ', xs[i]? = some x → Pv i Γ' → GW K g .lf (f x) Γ' fun Γ2 => SW K tbd Γ2 { P with nx := Pv (i + 1), ct := Pv (i + 1), bk := P.nx }) (hd : ∀ Γ', Pv xs.length Γ' → P.nx Γ') : ForB K (xs.map f) g tbd Γ P := by
  refine ⟨Pv, h0, fun i d Γ' h pv => ?_, by rw [List.length_map]; exact hd⟩
  rw [List.getElem?_map] at h
  obtain ⟨x, hx, rfl⟩ := Option.map_eq_some_iff.mp h
  exact hs i x Γ' hx pv
theorem ForB_rng {n : Nat} {f : Nat → PyData} (Pv : Nat → Ev → Prop) (h0 : Pv 0 Γ) (hs : ∀ i Γ', i < n → Pv i Γ' → GW K g .lf (f i) Γ' fun Γ2 => SW K tbd Γ2 { P with nx := Pv (i + 1), ct := Pv (i + 1), bk := P.nx }) (hd : ∀ Γ', Pv n Γ' → P.nx Γ') : ForB K ((List.range n).map f) g tbd Γ P := by
  refine ForB_map Pv h0 (fun i x Γ' h pv => ?_) (by rw [List.length_range]; exact hd)
  obtain ⟨hi, e⟩ := List.getElem?_eq_some_iff.mp h
  rw [List.getElem_range] at e
  subst e
  exact hs i Γ' (by rwa [List.length_range] at hi) pv
/-! comprehensions -/
def LcB (K : PySem.W.Frag) (ds : List PyData) (g : TG) (tt : TT) (te : TE) (vs : List Nat) (Γ : Ev) (Q : Own → PyData → Ev → Prop) : Prop := ∃ (s : Own) (Pv : Nat → List PyData → Ev → Prop), Pv 0 [] (clr Γ vs) ∧ (∀ i d acc Γ', ds[i]? = some d → Pv i acc Γ' → GC K g .lf d Γ' vs fun Γ2 => TW K tt Γ2 fun b Γ3 => if b = true then EW K te Γ3 fun s2 d2 Γ4 => (s2 = s ∨ s = .lf) ∧ acc.length < 100000 ∧ Pv (i + 1) (acc ++ [d2]) (clr Γ4 vs) else Pv (i + 1) acc (clr Γ3 vs)) ∧ ∀ acc Γ', Pv ds.length acc Γ' → Q (.li s) (.list acc) Γ'
theorem wipe_sub {σ : L2.St} : ∀ {us : List Nat}, (∀ u ∈ us, u ∈ vs) → wipe (wipe σ us) vs = wipe σ vs
  | [], _ => rfl
  | u :: us, h => by
    show wipe ((wipe σ us).set u none) vs = wipe σ vs
    rw [wipe_set (h u List.mem_cons_self)]
    exact wipe_sub fun z hz => h z (List.mem_cons_of_mem _ hz)
theorem wipe_wipe {σ : L2.St} : wipe (wipe σ vs) vs = wipe σ vs := wipe_sub fun _ h => h
theorem EW_lc (q : IW K wi Γ fun ds Γ1 => LcB K ds g tt te vs Γ1 Q) : EW K (tLc wi g tt te vs) Γ Q := fun σ H L G S k => q σ H L _ S fun ds Γ1 J P0 H1 ⟨s, Pv, h0, hs, hd⟩ wk S1 D nD => by
  have S2 : Stt K (clr Γ1 vs) (wipe σ vs) (upd H1 D (.lst [])) (.ow (.li s) (.ref D) (.list []) :: .ps P0 :: L) := by
    obtain ⟨I, E, R⟩ := S1.clr vs
    exact ⟨I, E, (R.mkL0 s nD).dim⟩
  refine ⟨fun i m H => m = ds.length - i ∧ i ≤ ds.length ∧ ∃ acc Γ', Pv i acc Γ' ∧ Stt K Γ' (wipe σ vs) H (.ow (.li s) (.ref D) (.list acc) :: .ps P0 :: L), ⟨_, rfl, Nat.zero_le _, [], _, h0, S2⟩, ?_⟩
  rintro i m H ⟨rfl, hi, acc, Γ', pv, S⟩
  have S' : Stt K Γ' (wipe σ vs) H (.ps P0 :: .ow (.li s) (.ref D) (.list acc) :: L) := S.perm (.swap _ _ _)
  by_cases c : i < ds.length
  · have hx : ds[i]? = some ds[i] := List.getElem?_eq_getElem c
    refine .inr ⟨wk.go i _ H S'.psAt hx, fun H' => ∃ acc Γ', Pv (i + 1) acc Γ' ∧ Stt K Γ' (wipe σ vs) H' (.ow (.li s) (.ref D) (.list acc) :: .ps P0 :: L), fun H' h => ⟨ds.length - (i + 1), by omega, rfl, c, h⟩, fun v H' hy => ?_⟩
    obtain ⟨M, R, back⟩ := S'.lift (A := [.ps P0])
    have S2 : Stt K Γ' (wipe σ vs) H' (.sh v ds[i] :: .ps P0 :: .ow (.li s) (.ref D) (.list acc) :: L) := back H' [.sh v ds[i], .ps P0] (wk.yld i _ H v H' M hx R hy)
    refine hs i _ acc Γ' hx pv (wipe σ vs) H' (.ow (.li s) (.ref D) (.list acc) :: .ps P0 :: L) v _ (S2.perm ((List.Perm.swap _ _ _).cons _)) fun Γ2 σ2 H2 q2 hw S3 => ?_
    rw [wipe_wipe] at hw
    refine ⟨hw, q2 σ2 H2 _ _ S3 fun b Γ3 H3 q3 S4 => ?_⟩
    cases b with
    | false =>
      rw [if_neg (by decide)] at q3 ⊢
      have S5 := S4.clr vs
      rw [hw] at S5
      exact ⟨acc, _, q3, S5⟩
    | true =>
      rw [if_pos rfl] at q3 ⊢
      refine q3 σ2 H3 _ _ S4 fun s2 d2 Γ4 y H4 ⟨hs2, z, q4⟩ S5 => ?_
      have S5 : Stt K Γ4 σ2 H4 (.ow s y d2 :: .ow (.li s) (.ref D) (.list acc) :: .ps P0 :: L) := by
        rcases hs2 with rfl | rfl
        · exact S5
        · obtain ⟨I, E, R⟩ := S5
          exact ⟨I, E, Rp.dim R.mid.fz⟩
      obtain ⟨M, R, back⟩ := S5.lift (A := [.ow s y d2, .ow (.li s) (.ref D) (.list acc)])
      obtain ⟨ac, e1, l1, R2⟩ := Rp.app R
      have S6 := (back _ [.ow (.li s) (.ref D) (.list (acc ++ [d2]))] R2).clr vs
      rw [hw] at S6
      exact ⟨ac, e1, sz_lt (by rw [l1]; exact z), _, _, q4, S6⟩
  · have e : i = ds.length := by omega
    subst e
    exact .inl ⟨wk.stop H S'.psAt, k _ _ _ _ _ (hd acc Γ' pv) (S.unwipe.wk (.take .here (.drop .refl)))⟩
theorem LcB_map {α : Type} {xs : List α} {f : α → PyData} (s : Own) (Pv : Nat → List PyData → Ev → Prop) (h0 : Pv 0 [] (clr Γ vs)) (hs : ∀ i x acc Γ', xs[i]? = some x → Pv i acc Γ' → GC K g .lf (f x) Γ' vs fun Γ2 => TW K tt Γ2 fun b Γ3 => if b = true then EW K te Γ3 fun s2 d2 Γ4 => (s2 = s ∨ s = .lf) ∧ acc.length < 100000 ∧ Pv (i + 1) (acc ++ [d2]) (clr Γ4 vs) else Pv (i + 1) acc (clr Γ3 vs)) (hd : ∀ acc Γ', Pv xs.length acc Γ' → Q (.li s) (.list acc) Γ') : LcB K (xs.map f) g tt te vs Γ Q := by
  refine ⟨s, Pv, h0, fun i d acc Γ' h pv => ?_, by rw [List.length_map]; exact hd⟩
  rw [List.getElem?_map] at h
  obtain ⟨x, hx, rfl⟩ := Option.map_eq_some_iff.mp h
  exact hs i x acc Γ' hx pv
/-- a comprehension that is a map and a filter -/
theorem LcB_mf {α : Type} {xs : List α} {f : α → PyData} (s : Own) (p : α → Bool) (r : α → PyData) (sz : xs.length ≤ 100000)
    (hs : ∀ x ∈ xs, GC K g .lf (f x) (clr Γ vs) vs fun Γ2 => TW K tt Γ2 fun b Γ3 => b = p x ∧ if b = true then EW K te Γ3 fun s2 d2 Γ4 => (s2 = s ∨ s = .lf) ∧ d2 = r x ∧ clr Γ4 vs = clr Γ vs else clr Γ3 vs = clr Γ vs)
    (hd : Q (.li s) (.list ((xs.filter p).map r)) (clr Γ vs)) : LcB K (xs.map f) g tt te vs Γ Q := by
  refine LcB_map s (fun i acc Γ' => acc = ((xs.take i).filter p).map r ∧ Γ' = clr Γ vs) ⟨rfl, rfl⟩ ?_ ?_
  · rintro i x acc Γ' hx ⟨rfl, rfl⟩
    have hi := (List.getElem?_eq_some_iff.mp hx).1
    have ht : xs.take (i + 1) = xs.take i ++ [x] := by rw [List.take_add_one, hx]; rfl
    intro σ H L v G S k
    refine hs x (mem_of_at hx) σ H L v G S fun Γ2 σ' H' q hw S' => k Γ2 σ' H' ?_ hw S'
    intro σ1 H1 L1 G1 S1 k1
    refine q σ1 H1 L1 G1 S1 fun b Γ3 H3 ⟨e, q3⟩ S3 => k1 b Γ3 H3 ?_ S3
    subst e
    have l : (((xs.take i).filter p).map r).length < 100000 := by
      rw [List.length_map]
      have h1 := List.length_filter_le p (xs.take i)
      rw [List.length_take] at h1
      omega
    by_cases c : p x = true
    · rw [if_pos c] at q3 ⊢
      refine q3.mono fun s2 d2 Γ4 ⟨h1, h2, h3⟩ => ⟨h1, l, ?_, h3⟩
      rw [h2, ht, List.filter_append, List.map_append, List.filter_cons_of_pos c]; rfl
    · rw [if_neg c] at q3 ⊢
      refine ⟨?_, q3⟩
      rw [ht, List.filter_append, List.filter_cons_of_neg c]
      simp
  · rintro acc Γ' ⟨rfl, rfl⟩
    rw [List.take_length]
    exact hd
/-- one that is a map -/
theorem LcB_m {α : Type} {xs : List α} {f : α → PyData} (s : Own) (r : α → PyData) (sz : xs.length ≤ 100000)
    (hs : ∀ x ∈ xs, GC K g .lf (f x) (clr Γ vs) vs fun Γ2 => EW K te Γ2 fun s2 d2 Γ4 => (s2 = s ∨ s = .lf) ∧ d2 = r x ∧ clr Γ4 vs = clr Γ vs)
    (hd : Q (.li s) (.list (xs.map r)) (clr Γ vs)) : LcB K (xs.map f) g tYes te vs Γ Q := by
  refine LcB_mf s (fun _ => true) r sz (fun x hx => ?_) (by rw [List.filter_eq_self.mpr (fun _ _ => rfl)]; exact hd)
  intro σ H L v G S k
  exact hs x hx σ H L v G S fun Γ2 σ' H' q hw S' => k Γ2 σ' H' (TW_yes ⟨rfl, by rw [if_pos rfl]; exact q⟩) hw S'
/-! iterators -/
theorem walks_list {a : Addr} {xs : List V} (l : xs.length = ds.length) : Walks K (Itl K a) ds (Sv K a xs ds) := ⟨fun H h => ⟨xs, SqL.of h.1, by omega⟩, fun i d H h hd => by
    have hi := (List.getElem?_eq_some_iff.mp hd).1
    exact ⟨xs, xs[i]'(by omega), SqL.of h.1, List.getElem?_eq_getElem (by omega)⟩,
  fun i d H v H' M hd R hy => by
    obtain ⟨rfl, hy⟩ := hy
    exact R.svAt mem_here (hy xs (SqL.of R.psAt.1)) hd⟩
theorem IW_list {Q : List PyData → Ev → Prop} (q : EW K te Γ fun _ d Γ1 => ∃ ds, d = .list ds ∧ Q ds Γ1) : IW K (iList K te) Γ Q := fun σ H L R S k => q σ H L _ S fun s d Γ1 v H1 ⟨ds, e, q1⟩ S1 => by
  subst e
  obtain ⟨M, R1, back⟩ := S1.lift (A := [.ow s v (.list ds)])
  obtain ⟨a, xs, rfl, l, hs, R2⟩ := R1.fz.sv mem_here
  exact ⟨a, rfl, ⟨xs, SqL.of hs⟩, k ds Γ1 _ _ H1 q1 (walks_list l) (back H1 [.ps (Sv K a xs ds)] (R2.wk (.take .here (.drop .refl))))⟩
theorem walks_tup {a : Addr} {xs : List V} (l : xs.length = ds.length) : Walks K (Itt K a) ds (Tv K a xs ds) := ⟨fun H h => ⟨xs, h.1, by omega⟩, fun i d H h hd => by
    have hi := (List.getElem?_eq_some_iff.mp hd).1
    exact ⟨xs, xs[i]'(by omega), h.1, List.getElem?_eq_getElem (by omega)⟩,
  fun i d H v H' M hd R hy => by
    obtain ⟨rfl, hy⟩ := hy
    exact R.tvAt mem_here (hy xs R.psAt.1) hd⟩
theorem IW_tup {Q : List PyData → Ev → Prop} (q : EW K te Γ fun _ d Γ1 => ∃ ds, d = .tuple ds ∧ Q ds Γ1) : IW K (iTup K te) Γ Q := fun σ H L R S k => q σ H L _ S fun s d Γ1 v H1 ⟨ds, e, q1⟩ S1 => by
  subst e
  obtain ⟨M, R1, back⟩ := S1.lift (A := [.ow s v (.tuple ds)])
  obtain ⟨a, xs, rfl, l, hs, R2⟩ := R1.fz.tv mem_here
  exact ⟨a, rfl, ⟨xs, hs⟩, k ds Γ1 _ _ H1 q1 (walks_tup l) (back H1 [.ps (Tv K a xs ds)] (R2.wk (.take .here (.drop .refl))))⟩
theorem rangeD_at {n i : Nat} {f : Nat → PyData} (h : ((List.range n).map f)[i]? = some d) : i < n ∧ d = f i := by
  rw [List.getElem?_map] at h
  obtain ⟨x, hx, rfl⟩ := Option.map_eq_some_iff.mp h
  obtain ⟨hi, e⟩ := List.getElem?_eq_some_iff.mp hx
  rw [List.getElem_range] at e
  subst e
  exact ⟨by rwa [List.length_range] at hi, rfl⟩
theorem walks_rng {lo : Int} {n : Nat} {f : Nat → PyData} (hf : ∀ i : Nat, f i = .int (lo + i)) : Walks K (Itr lo n) ((List.range n).map f) (fun _ => True) := ⟨fun H _ => by
    rw [List.length_map, List.length_range]; exact Nat.le_refl _, fun i d H _ h => (rangeD_at h).1,
  fun i d H v H' M h R hy => by
    obtain ⟨rfl, rfl⟩ := hy
    rw [(rangeD_at h).2, hf]
    exact R.int _⟩
theorem Stt.ps1 (S : Stt K Γ σ H L) : Stt K Γ σ H (.ps (fun _ => True) :: L) := by
  obtain ⟨I, E, ps, u, r⟩ := S
  obtain ⟨q1, q2, e, u1, u2⟩ := u.split
  have : Rp K H (.ps (fun _ => True) :: (I ++ L)) := ⟨_, .cons (p := [_]) rfl u, r.addps (fun _ _ _ h => h) trivial⟩
  exact ⟨I, E, this.dim⟩
theorem IW_rng1 {Q : List PyData → Ev → Prop} (q : AW K tr Γ fun bs Γ1 => ∃ s j, bs = [(s, .int j)] ∧ (-(2 ^ 62) ≤ j ∧ j < 2 ^ 62) ∧ Q ((List.range j.toNat).map fun i : Nat => .int (i : Int)) Γ1) : IW K (iRng1 tr) Γ Q := fun σ H L R S k => q σ H L _ S fun bs Γ1 vs H1 ⟨s, j, e, h, q1⟩ l S1 => by
  subst e
  match vs, l with
  | [x], _ =>
    have S1 : Stt K Γ1 σ H1 (.ow s x (.int j) :: L) := S1
    obtain rfl := S1.int'
    exact ⟨j, rfl, h.1, h.2, k _ Γ1 _ _ H1 q1 (walks_rng fun i => by rw [Int.zero_add]) S1.tail.ps1⟩
theorem IW_rng2 {Q : List PyData → Ev → Prop} (q : AW K tr Γ fun bs Γ1 => ∃ s s' i j, bs = [(s, .int i), (s', .int j)] ∧ (-(2 ^ 62) ≤ i ∧ i < 2 ^ 62 ∧ -(2 ^ 62) ≤ j ∧ j < 2 ^ 62) ∧ Q ((List.range (j - i).toNat).map fun k : Nat => .int (i + (k : Int))) Γ1) : IW K (iRng2 tr) Γ Q := fun σ H L R S k => q σ H L _ S fun bs Γ1 vs H1 ⟨s, s', i, j, e, h, q1⟩ l S1 => by
  subst e
  match vs, l with
  | [x, y], _ =>
    have S1 : Stt K Γ1 σ H1 (.ow s x (.int i) :: .ow s' y (.int j) :: L) := S1
    obtain rfl := S1.int'
    obtain rfl := S1.tail.int'
    exact ⟨i, j, rfl, h, k _ Γ1 _ _ H1 q1 (walks_rng fun i => rfl) S1.tail.tail.ps1⟩
def Zv (K : PySem.W.Frag) (a b : Addr) (xs ys : List V) (ds es : List PyData) (H : Hp) : Prop := Sv K a xs ds H ∧ Sv K b ys es H
theorem walks_zip {a b : Addr} {xs ys : List V} (l : xs.length = ds.length) (l2 : ys.length = es.length) : Walks K (Itz K a b) (List.zipWith (fun x y => .tuple [x, y]) ds es) (Zv K a b xs ys ds es) := ⟨fun H h => ⟨xs, ys, SqL.of h.1.1, SqL.of h.2.1, by rw [List.length_zipWith]; omega⟩, fun i d H h hd => by
    have hi := (List.getElem?_eq_some_iff.mp hd).1
    rw [List.length_zipWith] at hi
    exact ⟨xs, ys, xs[i]'(by omega), ys[i]'(by omega), SqL.of h.1.1, SqL.of h.2.1, List.getElem?_eq_getElem (by omega), List.getElem?_eq_getElem (by omega)⟩,
  fun i d H v H' M hd R hy => by
    obtain ⟨T, x, y, rfl, nT, rfl, hx, hy⟩ := hy
    have h0 := R.psAt
    rw [List.getElem?_zipWith] at hd
    cases h1 : ds[i]? with
    | none => rw [h1] at hd; cases hd
    | some d1 =>
      cases h2 : es[i]? with
      | none => rw [h1, h2] at hd; cases hd
      | some d2 =>
        rw [h1, h2] at hd
        cases hd
        have R1 : Rp K H (.ps (Sv K a xs ds) :: .ps (Zv K a b xs ys ds es) :: M) := R.imp (fun H h => h.1) sv_mono
        have R2 : Rp K H (.ps (Sv K b ys es) :: .ps (Zv K a b xs ys ds es) :: .ps (Sv K a xs ds) :: M) := R1.flip.imp (fun H h => h.2) sv_mono
        have R3 := (R2.svAt mem_here (hy ys (SqL.of h0.2.1)) h2).svAt (.tail _ (.tail _ (.tail _ mem_here))) (hx xs (SqL.of h0.1.1)) h1
        exact (Rp.mk2 R3 nT).fz.wk (.take .here (.drop (.take .here (.drop .refl))))⟩
theorem IW_zip {Q : List PyData → Ev → Prop} (q : AW K tr Γ fun bs Γ1 => ∃ s s' ds es, bs = [(s, .list ds), (s', .list es)] ∧ Q (List.zipWith (fun x y => .tuple [x, y]) ds es) Γ1) : IW K (iZip K tr) Γ Q := fun σ H L R S k => q σ H L _ S fun bs Γ1 vs H1 ⟨s, s', ds, es, e, q1⟩ l S1 => by
  subst e
  match vs, l with
  | [x, y], _ =>
    have S1 : Stt K Γ1 σ H1 (.ow s x (.list ds) :: .ow s' y (.list es) :: L) := S1
    obtain ⟨M, R1, back⟩ := S1.lift (A := [.ow s x (.list ds), .ow s' y (.list es)])
    have R2 := R1.fz.flip.fz
    obtain ⟨b, ys, rfl, l2, h2, R3⟩ := R2.sv mem_here
    obtain ⟨a, xs, rfl, l1, h1, R4⟩ := R3.sv (.tail _ (.tail _ mem_here))
    have R5 : Rp K H1 (.ps (Sv K a xs ds) :: .ps (Sv K b ys es) :: M) := R4.wk (.take .here (.take .here (.drop (.drop .refl))))
    have R6 : Rp K H1 (.ps (Zv K a b xs ys ds es) :: M) := R5.both
    exact ⟨a, b, xs, ys, rfl, SqL.of h1, SqL.of h2, k _ Γ1 _ _ H1 q1 (walks_zip l1 l2) (back H1 [.ps (Zv K a b xs ys ds es)] R6)⟩
def enumD (ds : List PyData) : List PyData := List.zipWith (fun i d => .tuple [.int ((i : Nat) : Int), d]) (List.range ds.length) ds
theorem enumD_at {i : Nat} (h : (enumD ds)[i]? = some d) : ∃ e, ds[i]? = some e ∧ d = .tuple [.int (i : Int), e] := by
  unfold enumD at h
  rw [List.getElem?_zipWith] at h
  cases h2 : ds[i]? with
  | none => rw [h2] at h; cases q : (List.range ds.length)[i]? <;> rw [q] at h <;> cases h
  | some e =>
    have hi := (List.getElem?_eq_some_iff.mp h2).1
    rw [h2, List.getElem?_eq_getElem (by rw [List.length_range]; exact hi), List.getElem_range] at h
    cases h
    exact ⟨e, rfl, rfl⟩
theorem enumD_len : (enumD ds).length = ds.length := by unfold enumD; rw [List.length_zipWith, List.length_range, Nat.min_self]
theorem walks_enum {a : Addr} {xs : List V} (l : xs.length = ds.length) : Walks K (Ite K a) (enumD ds) (Sv K a xs ds) := ⟨fun H h => ⟨xs, SqL.of h.1, by rw [enumD_len]; omega⟩, fun i d H h hd => by
    have hi := (List.getElem?_eq_some_iff.mp hd).1
    rw [enumD_len] at hi
    exact ⟨xs, xs[i]'(by omega), SqL.of h.1, List.getElem?_eq_getElem (by omega)⟩,
  fun i d H v H' M hd R hy => by
    obtain ⟨T, x, rfl, nT, rfl, hx⟩ := hy
    obtain ⟨e, h1, rfl⟩ := enumD_at hd
    have R1 := R.svAt mem_here (hx xs (SqL.of R.psAt.1)) h1
    exact (Rp.mk2 (R1.int (i : Int)) nT).fz⟩
theorem IW_enum {Q : List PyData → Ev → Prop} (q : AW K tr Γ fun bs Γ1 => ∃ s ds, bs = [(s, .list ds)] ∧ Q (enumD ds) Γ1) : IW K (iEnum K tr) Γ Q := fun σ H L R S k => q σ H L _ S fun bs Γ1 vs H1 ⟨s, ds, e, q1⟩ l S1 => by
  subst e
  match vs, l with
  | [x], _ =>
    have S1 : Stt K Γ1 σ H1 (.ow s x (.list ds) :: L) := S1
    obtain ⟨M, R1, back⟩ := S1.lift (A := [.ow s x (.list ds)])
    obtain ⟨a, xs, rfl, l1, h1, R3⟩ := R1.fz.sv mem_here
    exact ⟨a, xs, rfl, SqL.of h1, k _ Γ1 _ _ H1 q1 (walks_enum l1) (back H1 [.ps (Sv K a xs ds)] (R3.wk (.take .here (.drop .refl))))⟩
/-! changes -/
theorem list_tyV (R : Rp K H (.ow s w (.list ds) :: L)) : ∃ a, w = .ref a ∧ tyV K "list" (.ref a) H := by
  obtain ⟨a, rfl⟩ := sh_lst R
  exact ⟨a, rfl, tyLR R mem_here⟩
def AppB (Γ : Ev) (n : Nat) (s : Own) (d : PyData) (F : Ev → Prop) : Prop := ∃ b s1 ds, Γ[n]? = some b ∧ b.bx = some (.li s1, .list ds) ∧ (s = s1 ∨ s1 = .lf) ∧ ds.length < 100000 ∧ F (Γ.set n (b.to (.li s1) (.list (ds ++ [d]))))
theorem AppB_i {F : Ev → Prop} (h : Γ[n]? = some b) (hb : b.bx = some (.li s1, .list ds)) (hs : s = s1 ∨ s1 = .lf) (z : ds.length < 100000) (q : F (Γ.set n (b.to (.li s1) (.list (ds ++ [d]))))) : AppB Γ n s d F := ⟨b, s1, ds, h, hb, hs, z, q⟩
theorem EW_app {s0 : Own} (h : Γ[n]? = some b0) (hb : b0.bx = some (s0, .list es)) (q : EW K te Γ fun s d Γ1 => AppB Γ1 n s d fun Γ2 => Q .lf .none Γ2) : EW K (tBM K "list" rAppend (tVar n) (tCons te tNil)) Γ Q := fun σ H L G S k => by
  obtain ⟨w, M0, hw, R0, _, _⟩ := S.focus h hb
  obtain ⟨a, rfl, ty⟩ := list_tyV R0
  refine ⟨.ref a, hw, ty, q σ H L _ S fun s d Γ1 y H1 ⟨b, s1, ds, h2, hb2, hs, z, q1⟩ S1 => ?_⟩
  obtain ⟨w2, M, hw2, R, put, _⟩ := S1.focus h2 hb2
  rw [hw] at hw2; cases hw2
  have R1 : Rp K H1 (.ow s1 y d :: .ow (.li s1) (.ref a) (.list ds) :: (M ++ L)) := by
    have R' : Rp K H1 (.ow s y d :: .ow (.li s1) (.ref a) (.list ds) :: (M ++ L)) := (R.perm ((List.perm_middle).cons _)).flip
    rcases hs with rfl | rfl
    · exact R'
    · exact R'.fz
  obtain ⟨acc, e, l, R2⟩ := Rp.app R1
  exact ⟨a, acc, y, rfl, rfl, e, sz_lt (by rw [l]; exact z), k _ _ _ _ _ q1 ((put _ _ _ _ R2).flat .non rfl)⟩
def ExtB (Γ : Ev) (n : Nat) (s : Own) (d : PyData) (F : Ev → Prop) : Prop := ∃ b s1 ds es, Γ[n]? = some b ∧ b.bx = some (.li s1, .list ds) ∧ d = .list es ∧ (s = .li s1 ∨ s1 = .lf) ∧ ds.length + es.length ≤ 100000 ∧ F (Γ.set n (b.to (.li s1) (.list (ds ++ es))))
theorem ExtB_i {F : Ev → Prop} (h : Γ[n]? = some b) (hb : b.bx = some (.li s1, .list ds)) (hs : s = .li s1 ∨ s1 = .lf) (z : ds.length + es.length ≤ 100000) (q : F (Γ.set n (b.to (.li s1) (.list (ds ++ es))))) : ExtB Γ n s (.list es) F := ⟨b, s1, ds, es, h, hb, rfl, hs, z, q⟩
theorem EW_ext {s0 : Own} (h : Γ[n]? = some b0) (hb : b0.bx = some (s0, .list es)) (q : EW K te Γ fun s d Γ1 => ExtB Γ1 n s d fun Γ2 => Q .lf .none Γ2) : EW K (tBM K "list" rExtend (tVar n) (tCons te tNil)) Γ Q := fun σ H L G S k => by
  obtain ⟨w, M0, hw, R0, _, _⟩ := S.focus h hb
  obtain ⟨a, rfl, ty⟩ := list_tyV R0
  refine ⟨.ref a, hw, ty, q σ H L _ S fun s d Γ1 y H1 ⟨b, s1, ds, es, h2, hb2, e, hs, z, q1⟩ S1 => ?_⟩
  subst e
  obtain ⟨w2, M, hw2, R, put, _⟩ := S1.focus h2 hb2
  rw [hw] at hw2; cases hw2
  have R' : Rp K H1 (.ow s y (.list es) :: .ow (.li s1) (.ref a) (.list ds) :: (M ++ L)) := (R.perm ((List.perm_middle).cons _)).flip
  have R1 : ∃ c zs, y = .ref c ∧ zs.length = es.length ∧ H1 c = some (.lst zs) ∧ Rp K H1 (each s1 zs es ++ .ow (.li s1) (.ref a) (.list ds) :: (M ++ L)) := by
    rcases hs with rfl | rfl
    · obtain ⟨c, zs, rfl, l, R2⟩ := R'.take
      exact ⟨c, zs, rfl, l, R2.topAt, R2.tail⟩
    · have R2 := R'.fz
      obtain ⟨c, zs, rfl, l, hc, R3⟩ := R2.shAll mem_here
      exact ⟨c, zs, rfl, l, hc, Rp.perm (A := .sh (.ref c) (.list es) :: (each .lf zs es ++ .ow (.li .lf) (.ref a) (.list ds) :: (M ++ L))) (.refl _) (R3.perm List.perm_middle) |>.tail⟩
  obtain ⟨c, zs, rfl, lz, hc, R2⟩ := R1
  have R3 : Rp K H1 (.ow (.li s1) (.ref a) (.list ds) :: (each s1 zs es ++ (M ++ L))) := R2.mid
  obtain ⟨_, xs, ea, lx, R4⟩ := R3.take
  cases ea
  have R5 : Rp K (upd H1 a (.lst (xs ++ zs))) (.top a (xs ++ zs) :: (each s1 (xs ++ zs) (ds ++ es) ++ (M ++ L))) := by
    have := R4.mut (ys := xs ++ zs)
    rw [each_app lx, List.append_assoc]
    exact this
  have R6 := R5.put (by rw [List.length_append, List.length_append, lx, lz])
  exact ⟨a, c, xs, zs, rfl, rfl, R4.topAt, hc, sz_le (by rw [lx, lz]; exact z), k _ _ _ _ _ q1 ((put _ _ _ _ R6).flat .non rfl)⟩
theorem each_get {xs : List V} {k : Nat} (l : xs.length = (ds ++ [d]).length) : ∃ ys z, xs = ys ++ [z] ∧ ys.length = ds.length := by
  rw [List.length_append] at l
  have hne : xs ≠ [] := fun z => by rw [z] at l; simp at l
  refine ⟨xs.dropLast, xs.getLast hne, (List.dropLast_concat_getLast hne).symm, ?_⟩
  rw [List.length_dropLast]; simp at l; omega
/-- pop() -/
theorem EW_pop (q : AtB Γ n fun s d b => ∃ s1 ds e, s = .li s1 ∧ d = .list (ds ++ [e]) ∧ Q s1 e (Γ.set n (b.to (.li s1) (.list ds)))) : EW K (tBM0 K "list" rPop (tVar n)) Γ Q := fun σ H L G S k => by
  obtain ⟨b, s, d, h, hb, s1, ds, e, rfl, rfl, q⟩ := q
  obtain ⟨w, M, hw, R, put, _⟩ := S.focus h hb
  obtain ⟨a, rfl, ty⟩ := list_tyV R
  obtain ⟨_, xs, ea, lx, R2⟩ := R.take
  cases ea
  obtain ⟨ys, z, rfl, ly⟩ := each_get (k := 0) lx
  refine ⟨.ref a, hw, ty, a, ys ++ [z], z, rfl, rfl, R2.topAt, by simp, ?_⟩
  rw [List.dropLast_concat]
  have R3 := R2.mut (ys := ys)
  rw [each_snoc ly, List.append_assoc] at R3
  have R4 : Rp K (upd H a (.lst ys)) (.top a ys :: (each s1 ys ds ++ (.ow s1 z e :: (M ++ L)))) := R3
  exact k _ _ _ _ _ q (put _ _ _ _ ((R4.put ly).perm (List.Perm.cons _ List.perm_middle.symm)))
theorem EW_clear (q : AtB Γ n fun s d b => ∃ s1 ds, s = .li s1 ∧ d = .list ds ∧ Q .lf .none (Γ.set n (b.to (.li s1) (.list [])))) : EW K (tBM0 K "list" rClear (tVar n)) Γ Q := fun σ H L G S k => by
  obtain ⟨b, s, d, h, hb, s1, ds, rfl, rfl, q⟩ := q
  obtain ⟨w, M, hw, R, put, _⟩ := S.focus h hb
  obtain ⟨a, rfl, ty⟩ := list_tyV R
  obtain ⟨_, xs, ea, lx, R2⟩ := R.take
  cases ea
  refine ⟨.ref a, hw, ty, a, xs, rfl, rfl, R2.topAt, ?_⟩
  have R3 : Rp K (upd H a (.lst [])) (.top a [] :: (M ++ L)) := by
    have := R2.mut (ys := [])
    exact (this.perm (List.perm_middle (l₁ := each s1 xs ds) (a := .top a []) (l₂ := M ++ L)).symm).dropL
  exact k _ _ _ _ _ q ((put _ _ _ _ (Rp.put (xs := []) (ds := []) (s := s1) R3 rfl)).flat .non rfl)
/-- x[i] = .. -/
theorem GW_set {Q : Ev → Prop} {s0 : Own} (h : Γ[n]? = some b0) (hb : b0.bx = some (s0, d')) (q : EW K ti Γ fun _ e Γ2 => ∃ k : Nat, e = .int (k : Int) ∧ AtB Γ2 n fun s2 d2 b => ∃ s1 ds, s2 = .li s1 ∧ d2 = .list ds ∧ k < ds.length ∧ (s = s1 ∨ s1 = .lf) ∧ Q (Γ2.set n (b.to (.li s1) (.list (ds.set k d))))) : GW K (gSub (tVar n) ti rSetL) s d Γ Q := fun σ H L v G S k => by
  obtain ⟨w, M0, hw, R0, _, _⟩ := S.focus h hb
  refine ⟨w, hw, q σ H _ _ S fun s2 e Γ2 y H2 ⟨j, e1, b, s3, d3, h2, hb2, s1, ds, e2, e3, hj, hs, q2⟩ S2 => ?_⟩
  subst e1 e2 e3
  obtain rfl := S2.int'
  have S3 : Stt K Γ2 σ H2 (.ow s v d :: L) := S2.tail
  obtain ⟨w2, M, hw2, R, put, _⟩ := S3.focus h2 hb2
  rw [hw] at hw2; cases hw2
  have R1 : Rp K H2 (.ow (.li s1) w (.list ds) :: .ow s1 v d :: (M ++ L)) := by
    have R' := R.perm ((List.perm_middle).cons _)
    rcases hs with rfl | rfl
    · exact R'
    · exact R'.flip.fz.flip
  obtain ⟨a, rfl⟩ := sh_lst R1
  exact g_setR R1 .here .here rfl hj fun H' R2 => k _ _ _ q2 (put _ _ _ _ R2)
/-! calls -/
theorem EW_call {pre : List PyData → (Own → PyData → Prop) → Prop} {E : XK} (q : AW K tr Γ fun bs Γ1 => pre (bs.map Prod.snd) fun s d => Q s d Γ1) : EW K (tCall (spV K pre) [] E tr) Γ Q := fun σ H L G S k => q σ H L _ S fun bs Γ1 vs H1 q1 l S1 => by
  obtain ⟨M, R, back⟩ := S1.lift (A := zipI vs bs)
  rw [List.append_nil]
  exact ⟨bs.map Prod.snd, M, _, by rw [l, List.length_map], Rp.fzZ l R, q1, fun s d v H' q2 R2 => k _ _ _ _ _ q2 (back H' [.ow s v d] R2)⟩
/-- a call that changes what its first argument, a name, holds -/
theorem EW_callM {pre : Own → PyData → List PyData → (Own → PyData → PyData → Prop) → Prop} {E : XK} {s0 : Own} (h : Γ[n]? = some b0) (hb : b0.bx = some (s0, d')) (q : AW K tr Γ fun bs Γ1 => AtB Γ1 n fun s d b => pre s d (bs.map Prod.snd) fun s2 r d2 => Q s2 r (Γ1.set n (b.to s d2))) : EW K (tCall (spM K pre) [] E (tCons (tVar n) tr)) Γ Q := fun σ H L G S k => by
  obtain ⟨w, M0, hw, R0, _, _⟩ := S.focus h hb
  refine ⟨w, hw, q σ H L _ S fun bs Γ1 vs H1 ⟨b, s, d, h2, hb2, q1⟩ l S1 => ?_⟩
  obtain ⟨w2, M, hw2, R, put, _⟩ := S1.focus h2 hb2
  rw [hw] at hw2; cases hw2
  have R1 : Rp K H1 (zipI vs bs ++ (.ow s w d :: (M ++ L))) := R.perm (by
    refine (List.Perm.cons _ ?_).trans List.perm_middle.symm
    rw [← List.append_assoc, ← List.append_assoc]
    exact List.perm_append_comm.append_right L)
  have R2 := (Rp.fzZ l R1).mid
  rw [List.append_nil]
  exact ⟨w, vs, s, d, bs.map Prod.snd, M ++ L, _, rfl, by rw [l, List.length_map], R2, q1, fun s2 r d2 v H' q2 R3 => k _ _ _ _ _ q2 (put _ _ _ _ (R3.flip.perm (List.Perm.cons _ List.perm_middle.symm)))⟩
/-! names that are read for a while -/
def fzF (fs : Flds) : Flds := fs.map fun f => (f.1, Own.lf, f.2.2)
def Sl.fz : Sl → Sl
  | .ob _ w C fs vs => .ob true w C (fzF fs) vs
  | .un => .un
  | .v _ d => .v .lf d
  | .pin w _ d => .pin w .lf d
  | .fact w F => .fact w F
def fzI : It → It
  | .ow _ v d => .ow .lf v d
  | .ob a o => .ps (fun H => H a = some o)
  | m => m
theorem fits_fz : ∀ (fs : Flds) (vs : List V), (fits fs vs).map fzI = fits (fzF fs) vs
  | [], _ => rfl
  | _ :: _, [] => rfl
  | f :: fs, v :: vs => by
    show fzI _ :: (fits fs vs).map fzI = _ :: fits (fzF fs) vs
    rw [fits_fz fs vs]; rfl
theorem fvals_fz : ∀ (fs : Flds) (vs : List V), fvals (fzF fs) vs = fvals fs vs
  | [], _ => rfl
  | _ :: _, [] => rfl
  | f :: fs, v :: vs => by
    show _ :: fvals (fzF fs) vs = _ :: fvals fs vs
    rw [fvals_fz fs vs]
theorem obI_fz (b : Bool) (a : Addr) (o : HO) : fzI (obI b a o) = obI true a o := by cases b <;> rfl
theorem Rp.obAt {o : HO} {a : Addr} (R : Rp K H (.ob a o :: L)) : H a = some o := by
  obtain ⟨_, _, h, t, r⟩ := R.inv
  cases h
  exact (r.all (.ob a o) List.mem_cons_self).1
theorem Rp.obIAt {b : Bool} {o : HO} {a : Addr} (R : Rp K H (obI b a o :: L)) : H a = some o := by
  cases b with
  | true => exact Rp.psAt (P := fun H => H a = some o) R
  | false => exact Rp.obAt R
theorem EnvR.fz (E : EnvR Γ σ I) : EnvR (Γ.map Sl.fz) σ (I.map fzI) := by
  induction E with
  | nil => exact .nil
  | un _ ih => exact .un ih
  | v _ ih => exact .v ih
  | pin _ ih => exact .pin ih
  | fact _ ih => exact .fact ih
  | @ob b E σ I a dx C vs fs e l ih =>
    have h := EnvR.ob (b := true) (a := a) (dx := dx) (C := C) (vs := vs) (fs := fzF fs) ih (by unfold fzF; rw [List.length_map]; exact l)
    rw [fvals_fz, ← fits_fz, ← obI_fz b, ← List.map_append, ← List.map_cons] at h
    exact h
theorem Rp.psS {F : Hp → Prop} (R : Rp K H L) (n : ∀ ps, UnIs K L ps → ∀ a, ¬ ows ps a) (m : ∀ H H', Same H H' → F H → F H') (h : F H) : Rp K H (.ps F :: L) := by
  obtain ⟨ps, u, r⟩ := R
  exact ⟨_, .cons (p := [_]) rfl u, r.addps m (by show F (wo H (ows ps)); rw [wo_no (n ps u)]; exact h)⟩
theorem Rp.psF {F : Hp → Prop} (R : Rp K H (.ps F :: L)) : (∀ H H', Same H H' → F H → F H') ∧ F H := by
  obtain ⟨_, ps, h1, u, r⟩ := R.inv
  cases h1
  exact ⟨(Rf.psK (P := F) r).1, R.psAt⟩
theorem fits_borrow : ∀ (fs : Flds) (vs : List V) {M X : List It}, Rp K H (fits fs vs ++ M) → Rp K H X → (∀ ps, UnIs K X ps → ∀ a, ¬ ows ps a) → Rp K H ((fits fs vs).map fzI ++ X) ∧ (∀ ps, UnIs K ((fits fs vs).map fzI ++ X) ps → ∀ a, ¬ ows ps a)
  | [], _, _, _, _, R, n => ⟨R, n⟩
  | _ :: _, [], _, _, _, R, n => ⟨R, n⟩
  | f :: fs, v :: vs, M, X, R, RX, n => by
    have R1 : Rp K H (.ow f.2.1 v f.2.2 :: (fits fs vs ++ M)) := R
    obtain ⟨h1, h2⟩ := fits_borrow fs vs (M := M) R1.tail RX n
    exact ⟨Rp.argS h1 h2 R1.dp, no_sh h2⟩
theorem EnvR.borrow (E : EnvR Γ σ I) : ∀ {L : List It}, Rp K H (I ++ L) → Rp K H (I.map fzI ++ [.ps (Same H)]) ∧ (∀ ps, UnIs K (I.map fzI ++ [.ps (Same H)]) ps → ∀ a, ¬ ows ps a) := by
  induction E with
  | nil => exact fun R => ⟨Rp.start, no_ps no_nil⟩
  | un _ ih => exact ih
  | v _ ih =>
    intro L R
    obtain ⟨h1, h2⟩ := ih (L := L) R.tail
    exact ⟨Rp.argS h1 h2 R.dp, no_sh h2⟩
  | pin _ ih =>
    intro L R
    obtain ⟨h1, h2⟩ := ih (L := L) R.tail
    exact ⟨Rp.argS h1 h2 R.dp, no_sh h2⟩
  | fact _ ih =>
    intro L R
    obtain ⟨h1, h2⟩ := ih (L := L) R.tail
    exact ⟨Rp.psS h1 h2 R.psF.1 R.psF.2, no_ps h2⟩
  | @ob b E σ I a dx C vs fs e l ih =>
    intro L R
    have R0 : Rp K H (obI b a (.ins C dx (fvals fs vs)) :: (fits fs vs ++ I ++ L)) := R
    have R1 : Rp K H (fits fs vs ++ (I ++ L)) := by rw [← List.append_assoc]; exact R0.tail
    have R2 : Rp K H (I ++ L) := by
      have : ∀ (A : List It), Rp K H (A ++ (I ++ L)) → Rp K H (I ++ L) := fun A => by
        induction A with
        | nil => exact id
        | cons m A ih => exact fun R => ih R.tail
      exact this _ R1
    obtain ⟨h1, h2⟩ := ih (L := L) R2
    obtain ⟨h3, h4⟩ := fits_borrow fs vs R1 h1 h2
    rw [List.map_cons, obI_fz, List.map_append, List.cons_append, List.append_assoc]
    exact ⟨Rp.psS h3 h4 (fun _ _ s e => s _ _ e) (Rp.obIAt R0), no_ps h4⟩
theorem EW_bor (q : EW K te (Γ.map Sl.fz) fun s d Γ1 => lfree s d ∧ Q s d Γ) : EW K te Γ Q := fun σ H L G ⟨I, E, R⟩ k => by
  obtain ⟨R1, _⟩ := E.borrow R
  refine q σ H [.ps (Same H)] G ⟨_, E.fz, R1⟩ fun s d Γ1 v H' ⟨hl, q1⟩ ⟨I2, E2, R2⟩ => ?_
  have R3 : Rp K H' (.ow s v d :: .ps (Same H) :: I2) := R2.perm (by
    refine List.perm_middle.trans (List.Perm.cons _ ?_)
    exact List.perm_append_comm (l₁ := I2) (l₂ := [.ps (Same H)]))
  obtain ⟨sm, N⟩ := R3.out
  exact k _ _ _ _ _ q1 ⟨I, E, (R.inn sm N hl).dim⟩
theorem TW_bor {Q : Bool → Ev → Prop} (q : TW K tt (Γ.map Sl.fz) fun c _ => Q c Γ) : TW K tt Γ Q := fun σ H L G ⟨I, E, R⟩ k => by
  obtain ⟨R1, _⟩ := E.borrow R
  refine q σ H [.ps (Same H)] G ⟨_, E.fz, R1⟩ fun c Γ1 H' q1 ⟨I2, E2, R2⟩ => ?_
  have R3 : Rp K H' (.sh (.bl c) (.bool c) :: .ps (Same H) :: I2) := Rp.bl (R2.perm (List.perm_append_comm (l₁ := I2) (l₂ := [.ps (Same H)]))) c
  obtain ⟨sm, N⟩ := R3.out
  exact k _ _ _ q1 ⟨I, E, R.same sm⟩
/-! a def -/
theorem EnvR.start : ∀ {vs : List V} {ds : List PyData}, vs.length = ds.length → EnvR (ds.map (Sl.v .lf)) (vs.map some) (each .lf vs ds)
  | [], [], _ => .nil
  | _ :: _, _ :: _, l => .v (EnvR.start (by simpa using l))
theorem EnvR.uns : ∀ {σ' : L2.St} {k : Nat}, EnvR Γ σ I → σ'.length = k → EnvR (Γ ++ List.replicate k .un) (σ ++ σ') I := fun {σ' k} E l => by
  induction E with
  | nil =>
    subst l
    induction σ' with
    | nil => exact .nil
    | cons x σ' ih => exact .un ih
  | un _ ih => exact .un ih
  | v _ ih => exact .v ih
  | pin _ ih => exact .pin ih
  | fact _ ih => exact .fact ih
  | @ob b E σ I a dx C vs fs e l2 ih => exact .ob ih l2
/-! the script -/
theorem EW_callS {pre : List Int → List PyData → (Own → PyData → Prop) → Prop} {E : XK} {a : Addr} {ns : List Int} (h : Γ[n]? = some (.fact (.ref a) fun H => SqL K H a (ns.map V.int))) (q : AW K tr Γ fun bs Γ1 => bs.length ≤ 100000 ∧ Γ1[n]? = some (.fact (.ref a) fun H => SqL K H a (ns.map V.int)) ∧ pre ns (bs.map Prod.snd) fun s d => Q s d Γ1) : EW K (tCall (spS K pre) [] E (tCons (tVar n) tr)) Γ Q := fun σ H L G S k => by
  refine ⟨_, (S.factAt h).1, q σ H L _ S fun bs Γ1 vs H1 ⟨_, h1, q1⟩ l S1 => ?_⟩
  obtain ⟨M, R, back⟩ := (S1.factM h1).lift (A := .ps (fun H => SqL K H a (ns.map V.int)) :: zipI vs bs)
  rw [List.append_nil]
  have R1 : Rp K H1 (zipI vs bs ++ .ps (fun H => SqL K H a (ns.map V.int)) :: M) := Rp.dim R
  exact ⟨a, ns, vs, bs.map Prod.snd, M, _, rfl, by rw [l, List.length_map], (Rp.fzZ l R1).mid, q1, fun s d v H' q2 R2 => k _ _ _ _ _ q2 (back H' [.ow s v d] R2)⟩
theorem EW_lenScr {a : Addr} {ns : List Int} (h : Γ[n]? = some (.fact (.ref a) fun H => SqL K H a (ns.map V.int))) (q : Q .lf (.int (ns.length : Nat)) Γ) : EW K (tCB (rLenSeq K) (tCons (tVar n) tNil)) Γ Q := fun σ H L G S k =>
  ⟨_, (S.factAt h).1, a, _, rfl, .inl (S.factAt h).2, by rw [List.length_map]; exact k _ _ _ _ _ q (S.flat (.int _) rfl)⟩
theorem EW_ixScr {a : Addr} {ns : List Int} (h : Γ[n]? = some (.fact (.ref a) fun H => SqL K H a (ns.map V.int))) (q : EW K ti Γ fun _ e Γ1 => ∃ i, e = .int i ∧ Γ1[n]? = some (.fact (.ref a) fun H => SqL K H a (ns.map V.int)) ∧ 0 ≤ i ∧ i < ns.length ∧ Q .lf (.int (ns.getD i.toNat 0)) Γ1) : EW K (tOp (rIxL K) (tVar n) ti) Γ Q := fun σ H L G S k => by
  refine ⟨_, (S.factAt h).1, q σ H L _ S fun s e Γ1 y H1 ⟨i, e1, h1, i0, i1, q1⟩ S1 => ?_⟩
  subst e1
  obtain rfl := S1.int'
  have S2 := S1.tail
  refine ⟨a, _, i, _, rfl, rfl, (S2.factAt h1).2, ?_, k _ _ _ _ _ q1 (S2.flat (.int _) rfl)⟩
  obtain ⟨j, rfl⟩ : ∃ j : Nat, i = j := ⟨i.toNat, by omega⟩
  refine atI_nat ?_
  rw [List.getElem?_map, Int.toNat_natCast, List.getD_eq_getElem?_getD, List.getElem?_eq_getElem (by omega)]; rfl
theorem EW_slScr {tl th : L2.St → Hp → (Option Int → Hp → Prop) → Prop} {a : Addr} {ns : List Int} {lo hi : Option Int} (h : Γ[n]? = some (.fact (.ref a) fun H => SqL K H a (ns.map V.int))) (h1 : ∀ (σ : L2.St) (H : Hp) (G : Option Int → Hp → Prop), G lo H → tl σ H G) (h2 : ∀ (σ : L2.St) (H : Hp) (G : Option Int → Hp → Prop), G hi H → th σ H G)
    (q : ∀ ms : List Int, ms.length ≤ ns.length → (∀ z ∈ ms, z ∈ ns) → ms.map V.int = cutV (ns.map V.int) lo hi → Q (.li .lf) (IL ms) Γ) : EW K (tSl (rSlL K) (tVar n) tl th) Γ Q := fun σ H L G S k => by
  refine ⟨_, (S.factAt h).1, h1 σ H _ (h2 σ H _ ⟨a, _, rfl, (S.factAt h).2, fun p np => ?_⟩)⟩
  obtain ⟨ms, e, l⟩ := cutV_int ns lo hi
  have hm : ∀ z ∈ ms, z ∈ ns := fun z hz => by
    have : V.int z ∈ cutV (ns.map V.int) lo hi := by rw [e]; exact List.mem_map.mpr ⟨z, hz, rfl⟩
    unfold cutV at this
    have := List.mem_of_mem_drop (List.mem_of_mem_take this)
    obtain ⟨y, hy, e2⟩ := List.mem_map.mp this
    cases e2
    exact hy
  obtain ⟨I, E, R⟩ := S
  rw [e]
  exact k _ _ _ _ _ (q ms l hm e.symm) ⟨I, E, (Rp.mkI R np).dim⟩
end
/-! ### boxes: defs, operations on data -/
section
variable {P : Program} {wd : World} {K : PySem.W.Frag} {mg : Str → Option Value} {base : Heap}
theorem stt_out {K : PySem.W.Frag} {Γ : Ev} {σ : L2.St} {H : Hp} {L : List It} {s : Own} {v : V} {d : PyData} (S : Stt K Γ σ H (.ow s v d :: L)) : Rp K H (.ow s v d :: L) := by
  obtain ⟨I, E, R⟩ := S
  exact R.dropL
/-- a def by boxes -/
theorem okV {pre : List PyData → (Own → PyData → Prop) → Prop} {x qual : Str} {st : Stmt} {f : Addr} {fd : FuncData} {N ps : List Str} {k : Nat} (F : Fun K x qual st f fd) (S : FnScope N ps (defScope st)) (l : ∀ ds Q, pre ds Q → ds.length = ps.length)
    (hb : ∀ (cdv : Value) (A : Around) (outer : List Env) (s : Shared) (H : Hp) (E : XK), Room k (A.deeper (envOfC qual (defScope st) s.heap.objs.size f cdv)) → ∃ t, PSs (cxOf CX0 P wd K mg base N qual (defScope st) f cdv A outer s H E).nox (defBody st) t ∧
      ∀ ds Q, pre ds Q → SW K t (ds.map (Sl.v .lf) ++ List.replicate (N.length - ds.length) .un) { nx := fun _ => Q .lf .none, rt := fun s d _ => Q s d }) : FnOk P wd K mg base CX0 (k + 1) f fd ps (spV K pre) := by
  refine F.ok S (fun vs H G E ⟨ds, L, Q, l1, _, hp, _⟩ => l1.trans (l ds Q hp)) (fun cdv A outer s H vs G E hr ⟨ds, L, Q, l1, R, hp, kk⟩ => ?_)
  obtain ⟨t, h1, h2⟩ := hb cdv A outer s H E hr
  refine ⟨t, h1, h2 ds Q hp (start N vs) H L _ ⟨each .lf vs ds, (EnvR.start l1).uns (by rw [l1, List.length_replicate]), R⟩ ⟨fun Γ' σ' H' q S' => ?_, fun s d Γ' σ' v H' q S' => kk s d v H' q (stt_out S'), fun _ _ _ q => q.elim, fun _ _ _ q => q.elim, fun _ _ => trivial⟩⟩
  exact kk _ _ _ _ q (stt_out (S'.flat .non rfl))
/-- its first argument is changed -/
theorem okM {pre : Own → PyData → List PyData → (Own → PyData → PyData → Prop) → Prop} {x qual : Str} {st : Stmt} {f : Addr} {fd : FuncData} {N ps : List Str} {k : Nat} (F : Fun K x qual st f fd) (S : FnScope N ps (defScope st)) (l : ∀ s d ds Q, pre s d ds Q → ds.length + 1 = ps.length)
    (hb : ∀ (cdv : Value) (A : Around) (outer : List Env) (s : Shared) (H : Hp) (E : XK), Room k (A.deeper (envOfC qual (defScope st) s.heap.objs.size f cdv)) → ∃ t, PSs (cxOf CX0 P wd K mg base N qual (defScope st) f cdv A outer s H E).nox (defBody st) t ∧
      ∀ w s d ds Q, pre s d ds Q → SW K t (.pin w s d :: (ds.map (Sl.v .lf) ++ List.replicate (N.length - (ds.length + 1)) .un)) { nx := fun Γ => ∃ d', Γ[0]? = some (.pin w s d') ∧ Q .lf .none d', rt := fun s2 r Γ => ∃ d', Γ[0]? = some (.pin w s d') ∧ Q s2 r d' }) : FnOk P wd K mg base CX0 (k + 1) f fd ps (spM K pre) := by
  refine F.ok S (fun vs H G E ⟨w, us, s, d, ds, L, Q, e, l1, _, hp, _⟩ => by rw [e, List.length_cons, l1]; exact l s d ds Q hp) (fun cdv A outer s0 H vs G E hr ⟨w, us, s, d, ds, L, Q, e, l1, R, hp, kk⟩ => ?_)
  subst e
  obtain ⟨t, h1, h2⟩ := hb cdv A outer s0 H E hr
  have fin : ∀ {Γ' σ' H' L' s2 r v d'}, Γ'[0]? = some (.pin w s d') → Stt K Γ' σ' H' (.ow s2 v r :: L') → Rp K H' (.ow s2 v r :: .ow s w d' :: L') := fun {Γ' σ' H' L' s2 r v d'} h S' => by
    obtain ⟨I, E, R2⟩ := S'
    cases E with
    | nil => simp at h
    | un E => simp at h
    | v E => simp at h
    | fact E => simp at h
    | ob E l => simp at h
    | pin E =>
      simp at h
      obtain ⟨rfl, rfl, rfl⟩ := h
      exact (R2.perm (List.perm_middle.symm.trans ((List.Perm.swap _ _ _).append_left _))).dropL
  refine ⟨t, h1, h2 w s d ds Q hp (start N (w :: us)) H L _ ⟨.ow s w d :: each .lf us ds, .pin ((EnvR.start l1).uns (by rw [List.length_cons, l1, List.length_replicate])), R⟩ ⟨fun Γ' σ' H' ⟨d', h, q⟩ S' => ?_, fun s2 r Γ' σ' v H' ⟨d', h, q⟩ S' => kk _ _ _ _ _ q (fin h S'), fun _ _ _ q => q.elim, fun _ _ _ q => q.elim, fun _ _ => trivial⟩⟩
  exact kk _ _ _ _ _ q (fin h (S'.flat .non rfl))
/-- its first argument is the script -/
theorem okS {pre : List Int → List PyData → (Own → PyData → Prop) → Prop} {x qual : Str} {st : Stmt} {f : Addr} {fd : FuncData} {N ps : List Str} {k : Nat} (F : Fun K x qual st f fd) (S : FnScope N ps (defScope st)) (l : ∀ ns ds Q, pre ns ds Q → ds.length + 1 = ps.length)
    (hb : ∀ (cdv : Value) (A : Around) (outer : List Env) (s : Shared) (H : Hp) (E : XK), Room k (A.deeper (envOfC qual (defScope st) s.heap.objs.size f cdv)) → ∃ t, PSs (cxOf CX0 P wd K mg base N qual (defScope st) f cdv A outer s H E).nox (defBody st) t ∧
      ∀ a ns ds Q, pre ns ds Q → SW K t (.fact (.ref a) (fun H => SqL K H a (ns.map V.int)) :: (ds.map (Sl.v .lf) ++ List.replicate (N.length - (ds.length + 1)) .un)) { nx := fun _ => Q .lf .none, rt := fun s d _ => Q s d }) : FnOk P wd K mg base CX0 (k + 1) f fd ps (spS K pre) := by
  refine F.ok S (fun vs H G E ⟨a, ns, us, ds, L, Q, e, l1, _, hp, _⟩ => by rw [e, List.length_cons, l1]; exact l ns ds Q hp) (fun cdv A outer s0 H vs G E hr ⟨a, ns, us, ds, L, Q, e, l1, R, hp, kk⟩ => ?_)
  subst e
  obtain ⟨t, h1, h2⟩ := hb cdv A outer s0 H E hr
  refine ⟨t, h1, h2 a ns ds Q hp (start N (.ref a :: us)) H L _ ⟨.ps _ :: each .lf us ds, .fact ((EnvR.start l1).uns (by rw [List.length_cons, l1, List.length_replicate])), R⟩ ⟨fun Γ' σ' H' q S' => ?_, fun s d Γ' σ' v H' q S' => kk s d v H' q (stt_out S'), fun _ _ _ q => q.elim, fun _ _ _ q => q.elim, fun _ _ => trivial⟩⟩
  exact kk _ _ _ _ q (stt_out (S'.flat .non rfl))
/-- the law -/
def spL (K : PySem.W.Frag) : Sp := fun vs H Q _ => ∃ (a : Addr) (ns : List Int), vs = [.ref a] ∧ SqL K H a (ns.map V.int) ∧ ns.length ≤ 63 ∧ ∀ H', Q (.bl true) H'
theorem okL {x qual : Str} {st : Stmt} {f : Addr} {fd : FuncData} {N ps : List Str} {k : Nat} (F : Fun K x qual st f fd) (S : FnScope N ps (defScope st)) (l : 1 = ps.length)
    (hb : ∀ (cdv : Value) (A : Around) (outer : List Env) (s : Shared) (H : Hp) (E : XK), Room k (A.deeper (envOfC qual (defScope st) s.heap.objs.size f cdv)) → ∃ t, PSs (cxOf CX0 P wd K mg base N qual (defScope st) f cdv A outer s H E).nox (defBody st) t ∧
      ∀ a (ns : List Int), ns.length ≤ 63 → SW K t (.fact (.ref a) (fun H => SqL K H a (ns.map V.int)) :: List.replicate (N.length - 1) .un) { nx := fun _ => False, rt := fun _ d _ => d = .bool true }) : FnOk P wd K mg base CX0 (k + 1) f fd ps (spL K) := by
  refine F.ok S (fun vs H G E ⟨a, ns, e, _⟩ => by rw [e]; exact l) (fun cdv A outer s0 H vs G E hr ⟨a, ns, e, hS, l1, kk⟩ => ?_)
  subst e
  obtain ⟨t, h1, h2⟩ := hb cdv A outer s0 H E hr
  refine ⟨t, h1, h2 a ns l1 (start N [.ref a]) H [] _ ⟨[.ps _], .fact (EnvR.uns .nil (by rw [List.length_replicate]; rfl)), Rp.arg0 hS⟩ ⟨fun Γ' σ' H' q S' => q.elim, fun s d Γ' σ' v H' q S' => ?_, fun _ _ _ q => q.elim, fun _ _ _ q => q.elim, fun _ _ => trivial⟩⟩
  subst q
  have R := stt_out S'
  obtain rfl := sh_bl R
  exact kk H'
/-- a def by boxes, its code object known -/
theorem okVc {pre : List PyData → (Own → PyData → Prop) → Prop} {x qual : Str} {st : Stmt} {f : Addr} {fd : FuncData} {N ps : List Str} {k : Nat} (F : Fun K x qual st f fd) (S : FnScope N ps (defScope st)) (l : ∀ ds Q, pre ds Q → ds.length = ps.length)
    (hb : ∀ (cdv : Value), PySem.W.codeIn K cdv qual = true → ∀ (A : Around) (outer : List Env) (s : Shared) (H : Hp) (E : XK), Room k (A.deeper (envOfC qual (defScope st) s.heap.objs.size f cdv)) → ∃ t, PSs (cxOf CX0 P wd K mg base N qual (defScope st) f cdv A outer s H E).nox (defBody st) t ∧
      ∀ ds Q, pre ds Q → SW K t (ds.map (Sl.v .lf) ++ List.replicate (N.length - ds.length) .un) { nx := fun _ => Q .lf .none, rt := fun s d _ => Q s d }) : FnOk P wd K mg base CX0 (k + 1) f fd ps (spV K pre) := by
  have ⟨_, _, _, _, _, _, cdv, _, _, e, lk, hcd⟩ := F.ex
  subst e
  refine fn_of lk hcd S (fun vs H G E ⟨ds, L, Q, l1, _, hp, _⟩ => l1.trans (l ds Q hp)) fun A outer s H vs G E hr ⟨ds, L, Q, l1, R, hp, kk⟩ => ?_
  obtain ⟨t, h1, h2⟩ := hb cdv hcd A outer s H E hr
  refine ⟨t, h1.nox, h2 ds Q hp (start N vs) H L _ ⟨each .lf vs ds, (EnvR.start l1).uns (by rw [l1, List.length_replicate]), R⟩ ⟨fun Γ' σ' H' q S' => ?_, fun s d Γ' σ' v H' q S' => kk s d v H' q (stt_out S'), fun _ _ _ q => q.elim, fun _ _ _ q => q.elim, fun _ _ => trivial⟩⟩
  exact kk _ _ _ _ q (stt_out (S'.flat .non rfl))
end
/-! ### boxes: operations on data -/
section
variable {K : PySem.W.Frag} {Γ Γ1 : Ev} {σ : L2.St} {H H' : Hp} {L L' I : List It} {s s' s1 : Own} {d d' e : PyData} {ds es : List PyData} {w x y v : V} {n m : Nat} {b b0 : Sl} {te ta tb tc ti tj : TE} {tt tu : TT} {tr tr2 : TA} {i j : Int} {Q : Own → PyData → Prop} {QE : Own → PyData → Ev → Prop} {P : Po}
theorem OW_II {g : Int → Int → Int} (q : Q .lf (.int (g i j))) : OW K (rI0 fun i j => .int (g i j)) s (.int i) s' (.int j) Q := fun H L G x y R k => by
  obtain rfl := sh_int R
  obtain rfl := sh_int R.tail
  exact ⟨i, j, rfl, rfl, k _ _ _ _ q (R.tail.tail.int _)⟩
theorem OW_IB {g : Int → Int → Bool} (q : Q .lf (.bool (g i j))) : OW K (rI0 fun i j => .bl (g i j)) s (.int i) s' (.int j) Q := fun H L G x y R k => by
  obtain rfl := sh_int R
  obtain rfl := sh_int R.tail
  exact ⟨i, j, rfl, rfl, k _ _ _ _ q (R.tail.tail.bl _)⟩
theorem OW_CI {C : Int → Int → Prop} {g : Int → Int → Int} (c : C i j) (q : Q .lf (.int (g i j))) : OW K (rI C fun i j => .int (g i j)) s (.int i) s' (.int j) Q := fun H L G x y R k => by
  obtain rfl := sh_int R
  obtain rfl := sh_int R.tail
  exact ⟨i, j, rfl, rfl, c, k _ _ _ _ q (R.tail.tail.int _)⟩
theorem OW_eqI (q : Q .lf (.bool (decide (i = j)))) : OW K rEq s (.int i) s' (.int j) Q := fun H L G x y R k => by
  obtain rfl := sh_int R
  obtain rfl := sh_int R.tail
  exact g_eqI (k _ _ _ _ q (R.tail.tail.bl _))
theorem OW_neI (q : Q .lf (.bool (!decide (i = j)))) : OW K rNe s (.int i) s' (.int j) Q := fun H L G x y R k => by
  obtain rfl := sh_int R
  obtain rfl := sh_int R.tail
  exact g_neI (k _ _ _ _ q (R.tail.tail.bl _))
theorem OW_eqB {a b : Bool} (q : Q .lf (.bool (decide (a = b)))) : OW K rEq s (.bool a) s' (.bool b) Q := fun H L G x y R k => by
  obtain rfl := sh_bl R
  obtain rfl := sh_bl R.tail
  exact g_eqB (k _ _ _ _ q (R.tail.tail.bl _))
theorem OW_neB {a b : Bool} (q : Q .lf (.bool (!decide (a = b)))) : OW K rNe s (.bool a) s' (.bool b) Q := fun H L G x y R k => by
  obtain rfl := sh_bl R
  obtain rfl := sh_bl R.tail
  exact g_neB (k _ _ _ _ q (R.tail.tail.bl _))
theorem OW_eqS {a b : Str} (q : Q .lf (.bool (decide (a = b)))) : OW K rEq s (.str a) s' (.str b) Q := fun H L G x y R k => by
  obtain rfl := sh_str R
  obtain rfl := sh_str R.tail
  exact ⟨rfl, by
    have e : decide (V.str a = V.str b) = decide (a = b) := by simp
    rw [e]; exact k _ _ _ _ q (R.tail.tail.bl _)⟩
theorem OW_neS {a b : Str} (q : Q .lf (.bool (!decide (a = b)))) : OW K rNe s (.str a) s' (.str b) Q := fun H L G x y R k => by
  obtain rfl := sh_str R
  obtain rfl := sh_str R.tail
  exact ⟨rfl, by
    have e : decide (V.str a = V.str b) = decide (a = b) := by simp
    rw [e]; exact k _ _ _ _ q (R.tail.tail.bl _)⟩
theorem OW_addS {a b : Str} (z : a.length + b.length ≤ sizeLine) (q : Q .lf (.str (a ++ b))) : OW K rAddS s (.str a) s' (.str b) Q := fun H L G x y R k => by
  obtain rfl := sh_str R
  obtain rfl := sh_str R.tail
  exact ⟨a, b, rfl, rfl, z, k _ _ _ _ q (R.tail.tail.str _)⟩
/-- is it None -/
class NnC (d : PyData) (b : outParam Bool) : Prop where pf : ∀ (K : PySem.W.Frag) (H : Hp) (x : V), Dq K H x d → decide (x = .non) = b
instance : NnC .none true := ⟨fun K H x h => by cases h; rfl⟩
instance : NnC (.int i) false := ⟨fun K H x h => by cases h; rfl⟩
instance {c : Bool} : NnC (.bool c) false := ⟨fun K H x h => by cases h; rfl⟩
instance {z : Str} : NnC (.str z) false := ⟨fun K H x h => by cases h; rfl⟩
instance : NnC (.list ds) false := ⟨fun K H x h => by cases h; rfl⟩
instance : NnC (.tuple ds) false := ⟨fun K H x h => by cases h; rfl⟩
theorem OM_isN {b : Bool} [h : NnC d b] (q : Q .lf (.bool b)) : OM K rIsN d .none Q := fun H L G x y s s' R m1 m2 k => by
  have h2 := R.dpOf m2
  cases h2
  exact ⟨rfl, by rw [h.pf K H x (R.dpOf m1)]; exact k _ _ _ _ q (R.bl _)⟩
theorem OM_notN {b : Bool} [h : NnC d b] (q : Q .lf (.bool (!b))) : OM K rNotN d .none Q := fun H L G x y s s' R m1 m2 k => by
  have h2 := R.dpOf m2
  cases h2
  exact ⟨rfl, by rw [h.pf K H x (R.dpOf m1)]; exact k _ _ _ _ q (R.bl _)⟩
/-! comparing data -/
class EqF {α : Type} [DecidableEq α] (f : α → PyData) : Prop where
  sh : ∀ x, Sh 20 (f x)
  eq : ∀ x y, PyData.eqv (f x) (f y) = decide (x = y)
instance : EqF PyData.int := ⟨fun _ => Sh.int, fun x y => by
  show (decide (x = y)) = decide (x = y)
  rfl⟩
instance : EqF FD := ⟨fun _ => Sh.fd.mono (by decide), FD_eqv⟩
instance : EqF IL := ⟨fun _ => Sh.il.mono (by decide), IL_eqv⟩
instance : EqF CD := ⟨fun _ => Sh.cd.mono (by decide), CD_eqv⟩
class EqC (d e : PyData) (b : outParam Bool) : Prop where
  s1 : SeqAt.shaped d = true
  s2 : SeqAt.shaped e = true
  eq : PyData.eqv d e = b
instance (priority := 900) {x y : Rat} : EqC (FD x) (FD y) (decide (x = y)) := ⟨Sh.fd.ok, Sh.fd.ok, FD_eqv x y⟩
theorem sh_of {α : Type} [DecidableEq α] {f : α → PyData} [h : EqF f] (xs : List α) : SeqAt.shaped (.list (xs.map f)) = true := Sh.ok (n := 21) (Sh.lst fun d hd => by
  obtain ⟨x, _, rfl⟩ := List.mem_map.mp hd
  exact h.sh x)
instance (priority := 800) {α : Type} [DecidableEq α] {f : α → PyData} [h : EqF f] {xs ys : List α} : EqC (.list (xs.map f)) (.list (ys.map f)) (decide (xs = ys)) := ⟨sh_of xs, sh_of ys, LM_eqv f h.eq xs ys⟩
instance (priority := 900) {α : Type} [DecidableEq α] {f : α → PyData} [h : EqF f] {xs : List α} : EqC (.list (xs.map f)) (.list []) (decide (xs = [])) := ⟨sh_of xs, rfl, LM_eqv f h.eq xs []⟩
theorem eqv_FL (x y : List Rat) : PyData.eqv (FL x) (FL y) = decide (x = y) := LM_eqv FD FD_eqv x y
instance : EqF FL := ⟨fun _ => Sh.fl.mono (by decide), eqv_FL⟩
theorem eqv_LD (x y : List (List Int)) : PyData.eqv (LD x) (LD y) = decide (x = y) := LM_eqv IL IL_eqv x y
instance : EqF LD := ⟨fun _ => Sh.ld.mono (by decide), eqv_LD⟩
theorem eqv_TD (x y : List (List Rat)) : PyData.eqv (TD x) (TD y) = decide (x = y) := LM_eqv FL eqv_FL x y
instance (priority := 950) {x y : List (List Rat)} : EqC (TD x) (TD y) (decide (x = y)) := ⟨Sh.td.ok, Sh.td.ok, eqv_TD x y⟩
instance (priority := 950) {x y : List (List Int × Rat)} : EqC (WD x) (WD y) (decide (x = y)) := ⟨Sh.wd.ok, Sh.wd.ok, LM_eqv CD CD_eqv x y⟩
instance (priority := 950) {x y : List (List Int)} : EqC (LD x) (LD y) (decide (x = y)) := ⟨Sh.ld.ok, Sh.ld.ok, eqv_LD x y⟩
instance (priority := 950) {x y : List Int} : EqC (IL x) (IL y) (decide (x = y)) := ⟨Sh.il.ok, Sh.il.ok, IL_eqv x y⟩
instance (priority := 850) {a b c d : Int} : EqC (.tuple [.int a, .int b]) (.tuple [.int c, .int d]) (decide (a = c ∧ b = d)) := ⟨rfl, rfl, by
  show (decide (a = c) && (decide (b = d) && true)) = decide (a = c ∧ b = d)
  by_cases h1 : a = c <;> by_cases h2 : b = d <;> simp [h1, h2]⟩
theorem OM_eqD {b : Bool} [h : EqC d e b] (q : Q .lf (.bool b)) : OM K (rEqD K) d e Q := fun H L G x y s s' R m1 m2 k => g_eqR R m1 m2 h.s1 h.s2 (by rw [h.eq]; exact k _ _ _ _ q (R.bl _))
theorem OM_neD {b : Bool} [h : EqC d e b] (q : Q .lf (.bool (!b))) : OM K (rNeD K) d e Q := fun H L G x y s s' R m1 m2 k => g_neR R m1 m2 h.s1 h.s2 (by rw [h.eq]; exact k _ _ _ _ q (R.bl _))
theorem OM_eqX {b : Bool} (h1 : SeqAt.shaped d = true) (h2 : SeqAt.shaped e = true) (h : PyData.eqv d e = b) (q : Q .lf (.bool b)) : OM K (rEqD K) d e Q := fun H L G x y s s' R m1 m2 k => g_eqR R m1 m2 h1 h2 (by rw [h]; exact k _ _ _ _ q (R.bl _))
theorem OM_neX {b : Bool} (h1 : SeqAt.shaped d = true) (h2 : SeqAt.shaped e = true) (h : PyData.eqv d e = b) (q : Q .lf (.bool (!b))) : OM K (rNeD K) d e Q := fun H L G x y s s' R m1 m2 k => g_neR R m1 m2 h1 h2 (by rw [h]; exact k _ _ _ _ q (R.bl _))
/-! membership -/
theorem OM_in {ns : List Int} (q : Q .lf (.bool (decide (i ∈ ns)))) : OM K (rIn K false) (.int i) (IL ns) Q := fun H L G x y s s' R m1 m2 k => by
  have h1 := R.dpOf m1
  cases h1
  have h2 := R.dpOf m2
  obtain ⟨a, xs, rfl, _, _⟩ := h2.lstI
  exact g_inR R m2 (k _ _ _ _ q (R.bl _))
theorem OM_ni {ns : List Int} (q : Q .lf (.bool (!decide (i ∈ ns)))) : OM K (rIn K true) (.int i) (IL ns) Q := fun H L G x y s s' R m1 m2 k => by
  have h1 := R.dpOf m1
  cases h1
  have h2 := R.dpOf m2
  obtain ⟨a, xs, rfl, _, _⟩ := h2.lstI
  exact g_niR R m2 (k _ _ _ _ q (R.bl _))
theorem dq_ints {xs : List V} : ∀ {ns : List Int}, DqAll K H xs (ns.map PyData.int) → xs = ns.map V.int := fun {ns} h => by
  induction ns generalizing xs with
  | nil => cases h; rfl
  | cons i ns ih =>
    cases h with
    | cons h1 h2 =>
      cases h1
      rw [ih h2]; rfl
theorem OM_inT {ns : List Int} (q : Q .lf (.bool (decide (i ∈ ns)))) : OM K (rIn K false) (.int i) (.tuple (ns.map PyData.int)) Q := fun H L G x y s s' R m1 m2 k => by
  have h1 := R.dpOf m1
  cases h1
  obtain ⟨a, xs, rfl, h3, h4⟩ := (R.dpOf m2).tupI
  rw [dq_ints h4] at h3
  exact ⟨a, _, rfl, .inr h3, rfl, flat_ints, by rw [inV_int]; exact k _ _ _ _ q (R.bl _)⟩
theorem OM_niT {ns : List Int} (q : Q .lf (.bool (!decide (i ∈ ns)))) : OM K (rIn K true) (.int i) (.tuple (ns.map PyData.int)) Q := fun H L G x y s s' R m1 m2 k => by
  have h1 := R.dpOf m1
  cases h1
  obtain ⟨a, xs, rfl, h3, h4⟩ := (R.dpOf m2).tupI
  rw [dq_ints h4] at h3
  exact ⟨a, _, rfl, .inr h3, rfl, flat_ints, by rw [inV_int]; exact k _ _ _ _ q (R.bl _)⟩
theorem OM_inD {α : Type} [DecidableEq α] {f : α → PyData} [h : EqF f] {c : α} {cs : List α} {dec : Decidable (c ∈ cs)} (q : Q .lf (.bool (@decide (c ∈ cs) dec))) : OM K (rInD K) (f c) (.list (cs.map f)) Q := fun H L G x y s s' R m1 m2 k => g_inDR R m1 m2 ((h.sh c).ok (by decide)) (sh_of cs) (by rw [show ((cs.map f).any fun z => PyData.eqv z (f c)) = @decide (c ∈ cs) dec from (any_map_eqv f h.eq cs c).trans (decide_eq_decide.mpr Iff.rfl)]; exact k _ _ _ _ q (R.bl _))
theorem OM_niD {α : Type} [DecidableEq α] {f : α → PyData} [h : EqF f] {c : α} {cs : List α} {dec : Decidable (c ∈ cs)} (q : Q .lf (.bool (!@decide (c ∈ cs) dec))) : OM K (rNotInD K) (f c) (.list (cs.map f)) Q := fun H L G x y s s' R m1 m2 k => g_niDR R m1 m2 ((h.sh c).ok (by decide)) (sh_of cs) (by rw [show ((cs.map f).any fun z => PyData.eqv z (f c)) = @decide (c ∈ cs) dec from (any_map_eqv f h.eq cs c).trans (decide_eq_decide.mpr Iff.rfl)]; exact k _ _ _ _ q (R.bl _))
/-! places -/
theorem atI_len {xs : List V} {i : Int} (l : xs.length = ds.length) (h : atI ds i = some d) : ∃ (k : Nat) (v : V), atI xs i = some v ∧ xs[k]? = some v ∧ ds[k]? = some d := by
  unfold atI at h ⊢
  rw [l]
  cases e : ixN ds.length i with
  | none => rw [e] at h; cases h
  | some k =>
    rw [e] at h
    have h : ds[k]? = some d := h
    have hk := (List.getElem?_eq_some_iff.mp h).1
    exact ⟨k, xs[k]'(by omega), List.getElem?_eq_getElem (by omega), List.getElem?_eq_getElem (by omega), h⟩
theorem OW_ixL (h : atI ds i = some d) (q : Q .lf d) : OW K (rIxL K) s (.list ds) s' (.int i) Q := fun H L G x y R k => by
  obtain rfl := sh_int R.tail
  obtain ⟨a, xs, rfl, l, hs, R2⟩ := R.fz.sv mem_here
  obtain ⟨m, v, h1, h2, h3⟩ := atI_len l h
  exact ⟨a, xs, i, v, rfl, rfl, SqL.of hs, h1, k _ _ _ _ q ((R2.svAt mem_here h2 h3).wk (.take .here (.drop (.drop (.drop .refl)))))⟩
theorem OW_ixT (h : atI ds i = some d) (q : Q .lf d) : OW K (rIxT K) s (.tuple ds) s' (.int i) Q := fun H L G x y R k => by
  obtain rfl := sh_int R.tail
  obtain ⟨a, xs, rfl, l, hs, R2⟩ := R.fz.tv mem_here
  obtain ⟨m, v, h1, h2, h3⟩ := atI_len l h
  exact ⟨a, xs, i, v, rfl, rfl, hs, h1, k _ _ _ _ q ((R2.tvAt mem_here h2 h3).wk (.take .here (.drop (.drop (.drop .refl)))))⟩
/-- what stands at a place of a name's list, where its things are shared -/
theorem EW_ixO {s0 : Own} {d0 : PyData} (h : Γ[n]? = some b0) (hb : b0.bx = some (s0, d0)) (q : EW K ti Γ fun _ e Γ2 => AtB Γ2 n fun s d _ => ∃ ds i d', d = .list ds ∧ e = .int i ∧ atI ds i = some d' ∧ (s = .lf ∨ s = .li .lf) ∧ QE .lf d' Γ2) : EW K (tOp (rIxL K) (tVar n) ti) Γ QE := fun σ H L G S k => by
  obtain ⟨w, M0, hw, R0, _, _⟩ := S.focus h hb
  refine ⟨w, hw, q σ H L _ S fun s' e Γ2 y H2 ⟨b, s, d, h2, hb2, ds, i, d', e1, e2, e3, e4, q1⟩ S2 => ?_⟩
  subst e1 e2
  obtain rfl := S2.int'
  have S2 := S2.tail
  obtain ⟨w2, M, hw2, R, put, _⟩ := S2.focus h2 hb2
  rw [hw] at hw2; cases hw2
  rcases e4 with rfl | rfl
  · obtain ⟨a, xs, rfl, l, hs, R2⟩ := R.sv mem_here
    obtain ⟨m, v, h1, h2', h3⟩ := atI_len l e3
    refine ⟨a, xs, i, v, rfl, rfl, SqL.of hs, h1, k _ _ _ _ _ q1 (Stt.keep h2 hb2 put _ _ ?_)⟩
    exact ((R2.svAt mem_here h2' h3).wk (.take .here (.drop .refl))).swq
  · obtain ⟨a, xs, rfl, l, R1⟩ := R.take
    have ea := R1.topAt
    obtain ⟨m, v, h1, h2', h3⟩ := atI_len l e3
    obtain ⟨_, _, x, ev, e5, _, e6, R3⟩ := R.owAt mem_here h3
    cases ev
    rw [ea] at e5
    cases e5
    rw [h2'] at e6
    cases e6
    exact ⟨a, xs, i, v, rfl, rfl, SqL.of ea, h1, k _ _ _ _ _ q1 (Stt.keep h2 hb2 put _ _ R3.swq)⟩
/-- lists told by a place: what is asked, what stands there -/
class IxC (ds : List PyData) (i : Int) (c : outParam Prop) (r : outParam PyData) : Prop where pf : c → atI ds i = some r
theorem atI_toNat (h0 : 0 ≤ i) (h : ds[i.toNat]? = some d) : atI ds i = some d := by
  have := atI_nat h
  rwa [Int.toNat_of_nonneg h0] at this
def rowG {α : Type} (n : Nat) (f : Nat → α) : List α := (List.range n).map f
theorem rowG_len {α : Type} {n : Nat} {f : Nat → α} : (rowG n f).length = n := by unfold rowG; rw [List.length_map, List.length_range]
theorem rowG_at {α : Type} {n k : Nat} {f : Nat → α} (h : k < n) : (rowG n f)[k]? = some (f k) := by unfold rowG; rw [List.getElem?_map, List.getElem?_range h]; rfl
theorem tabG_at {α : Type} {n k : Nat} {g : Nat → Nat → α} (h : k < n) : (tabG n g)[k]? = some (rowG n (g k)) := by unfold tabG rowG; rw [List.getElem?_map, List.getElem?_range h]; rfl
instance (priority := 900) {α : Type} {g : Nat → Nat → α} {k : Nat} {F : List α → PyData} : IxC ((tabG n g).map F) ((k : Nat) : Int) (k < n) (F (rowG n (g k))) := ⟨fun h => atI_nat (by rw [List.getElem?_map, tabG_at h]; rfl)⟩
instance (priority := 850) {α : Type} {g : Nat → Nat → α} {F : List α → PyData} : IxC ((tabG n g).map F) i (0 ≤ i ∧ i.toNat < n) (F (rowG n (g i.toNat))) := ⟨fun h => atI_toNat h.1 (by rw [List.getElem?_map, tabG_at h.2]; rfl)⟩
instance (priority := 900) {α : Type} {f : Nat → α} {k : Nat} {F : α → PyData} : IxC ((rowG n f).map F) ((k : Nat) : Int) (k < n) (F (f k)) := ⟨fun h => atI_nat (by rw [List.getElem?_map, rowG_at h]; rfl)⟩
instance (priority := 850) {α : Type} {f : Nat → α} {F : α → PyData} : IxC ((rowG n f).map F) i (0 ≤ i ∧ i.toNat < n) (F (f i.toNat)) := ⟨fun h => atI_toNat h.1 (by rw [List.getElem?_map, rowG_at h.2]; rfl)⟩
theorem getD_at {α : Type} {xs : List α} {k : Nat} {x : α} (h : k < xs.length) : xs[k]? = some (xs.getD k x) := by rw [List.getD_eq_getElem?_getD, List.getElem?_eq_getElem h]; rfl
instance (priority := 700) {α : Type} [Inhabited α] {xs : List α} {k : Nat} {F : α → PyData} : IxC (xs.map F) ((k : Nat) : Int) (k < xs.length) (F (xs.getD k default)) := ⟨fun h => atI_nat (by rw [List.getElem?_map, getD_at h]; rfl)⟩
instance (priority := 650) {α : Type} [Inhabited α] {xs : List α} {F : α → PyData} : IxC (xs.map F) i (0 ≤ i ∧ i.toNat < xs.length) (F (xs.getD i.toNat default)) := ⟨fun h => atI_toNat h.1 (by rw [List.getElem?_map, getD_at h.2]; rfl)⟩
instance (priority := 720) {xs : List Int} {k : Nat} : IxC (xs.map PyData.int) ((k : Nat) : Int) (k < xs.length) (.int (xs.getD k 0)) := ⟨fun h => atI_nat (by rw [List.getElem?_map, getD_at (x := 0) h]; rfl)⟩
instance (priority := 670) {xs : List Int} : IxC (xs.map PyData.int) i (0 ≤ i ∧ i.toNat < xs.length) (.int (xs.getD i.toNat 0)) := ⟨fun h => atI_toNat h.1 (by rw [List.getElem?_map, getD_at (x := 0) h.2]; rfl)⟩
instance (priority := 720) {xs : List Rat} {k : Nat} : IxC (xs.map FD) ((k : Nat) : Int) (k < xs.length) (FD (xs.getD k 0)) := ⟨fun h => atI_nat (by rw [List.getElem?_map, getD_at (x := 0) h]; rfl)⟩
instance (priority := 670) {xs : List Rat} : IxC (xs.map FD) i (0 ≤ i ∧ i.toNat < xs.length) (FD (xs.getD i.toNat 0)) := ⟨fun h => atI_toNat h.1 (by rw [List.getElem?_map, getD_at (x := 0) h.2]; rfl)⟩
theorem OW_ixC {c : Prop} [h : IxC ds i c d] (hc : c) (q : Q .lf d) : OW K (rIxL K) s (.list ds) s' (.int i) Q := OW_ixL (h.pf hc) q
theorem ixO_i {F : PyData → Prop} (h : atI ds i = some d') (hs : s = .lf ∨ s = .li .lf) (q : F d') : ∃ ds' i' d', PyData.list ds = .list ds' ∧ PyData.int i = .int i' ∧ atI ds' i' = some d' ∧ (s = .lf ∨ s = .li .lf) ∧ F d' := ⟨ds, i, d', rfl, rfl, h, hs, q⟩
theorem ixO_c {c : Prop} [h : IxC ds i c d'] {F : PyData → Prop} (hc : c) (hs : s = .lf ∨ s = .li .lf) (q : F d') : ∃ ds' i' d', PyData.list ds = .list ds' ∧ PyData.int i = .int i' ∧ atI ds' i' = some d' ∧ (s = .lf ∨ s = .li .lf) ∧ F d' := ⟨ds, i, d', rfl, rfl, h.pf hc, hs, q⟩
/-! lists and tuples put together -/
theorem OW_cat (z : ds.length + es.length ≤ 100000) (q : Q (.li .lf) (.list (ds ++ es))) : OW K rCat s (.list ds) s' (.list es) Q := fun H L G x y R k => by
  have R := R.fz.flip.fz.flip
  obtain ⟨a, rfl⟩ := sh_lst R
  obtain ⟨b, rfl⟩ := sh_lst R.tail
  exact g_catS R mem_here (.tail _ mem_here) z fun c H' R2 => k _ _ _ _ q (R2.wk (.take .here (.drop (.drop .refl))))
theorem OW_catO (z : ds.length + es.length ≤ 100000) (q : Q (.li s) (.list (ds ++ es))) : OW K rCat (.li s) (.list ds) (.li s) (.list es) Q := fun H L G x y R k => by
  obtain ⟨a, rfl⟩ := sh_lst R
  obtain ⟨b, rfl⟩ := sh_lst R.tail
  exact g_catR R .here .here z fun c H' R2 => k _ _ _ _ q R2
theorem dqAll_app {xs ys : List V} : ∀ {ds : List PyData}, DqAll K H xs ds → DqAll K H ys es → DqAll K H (xs ++ ys) (ds ++ es)
  | _, .nil, h => h
  | _, .cons h1 h2, h => .cons h1 (dqAll_app h2 h)
theorem tvPut {a : Addr} {xs : List V} (R : Rp K H (.ps (Tv K a xs ds) :: L)) : Rp K H (.sh (.ref a) (.tuple ds) :: L) := ((R.imp (P' := fun H => Dq K H (.ref a) (.tuple ds)) (fun H h => .tup h.1 h.2) mono_dp).wk (.take .here (.drop .refl))).toSh
theorem OW_catA (z : ds.length + es.length ≤ 100000) (q : Q .lf (.tuple (ds ++ es))) : OW K (rCatA K) s (.tuple ds) s' (.tuple es) Q := fun H L G x y R k => by
  have R := R.fz.flip.fz.flip
  obtain ⟨a, xs, rfl, l1, h1, R1⟩ := R.tv mem_here
  obtain ⟨b, ys, rfl, l2, h2, R2⟩ := R1.tv (.tail _ (.tail _ mem_here))
  have R2 : Rp K H (.ps (Tv K b ys es) :: .ps (Tv K a xs ds) :: L) := R2.wk (.take .here (.take .here (.drop (.drop .refl))))
  refine ⟨a, b, xs, ys, rfl, rfl, h1, h2, sz_le (by omega), fun e => ?_, fun _ e => ?_, fun _ _ p np => ?_⟩
  · obtain rfl : ds = [] := List.eq_nil_of_length_eq_zero (by rw [← l1, e]; rfl)
    exact k _ _ _ _ q ((tvPut R2).wk (.take .here (.drop .refl)))
  · obtain rfl : es = [] := List.eq_nil_of_length_eq_zero (by rw [← l2, e]; rfl)
    rw [List.append_nil] at q
    exact k _ _ _ _ q (tvPut R2.tail)
  · have R3 := R2.both.imp (P' := fun H => DqAll K H (xs ++ ys) (ds ++ es)) (fun H h => dqAll_app h.2.2 h.1.2) (fun H H' sm h => dqAll_same sm _ _ h)
    have R4 := (R3.tup (xs := xs ++ ys) np).both.imp (P' := fun H => Dq K H (.ref p) (.tuple (ds ++ es))) (fun H h => .tup h.1 h.2) mono_dp
    exact k _ _ _ _ q (R4.toSh.wk (.take .here (.drop (.drop .refl))))
theorem dqAll_rep {xs : List V} (h : DqAll K H xs ds) : ∀ k : Nat, DqAll K H (List.replicate k xs).flatten (List.replicate k ds).flatten
  | 0 => .nil
  | k + 1 => by
    rw [List.replicate_succ, List.replicate_succ, List.flatten_cons, List.flatten_cons]
    exact dqAll_app h (dqAll_rep h k)
theorem Rp.svAll {a : Addr} {xs : List V} (R : Rp K H (.ps (fun H => DqAll K H xs ds) :: L)) : Rp K H (each .lf xs ds ++ L) := by
  obtain ⟨_, ps, h1, u, r⟩ := R.inv
  cases h1
  have k := Rf.psK (P := fun H => DqAll K H xs ds) r
  obtain ⟨qs, u2, r2, _⟩ := un_sh (K := K) (ps := ps) r.tail k.2
  exact ⟨_, u2.app u, r2⟩
theorem flatRep_len {α : Type} (xs : List α) (k : Nat) : (List.replicate k xs).flatten.length = xs.length * k := by
  induction k with
  | zero => simp
  | succ k ih => rw [List.replicate_succ, List.flatten_cons, List.length_append, ih, Nat.mul_succ]; omega
theorem OW_rep (h0 : -(2 ^ 63) ≤ i) (h1 : i < 2 ^ 63) (z : ds.length * i.toNat ≤ 100000) (q : Q (.li .lf) (.list (List.replicate i.toNat ds).flatten)) : OW K rRep s (.list ds) s' (.int i) Q := fun H L G x y R k => by
  obtain rfl := sh_int R.tail
  obtain ⟨a, xs, rfl, l, hs, R2⟩ := R.fz.sv mem_here
  have R3 : Rp K H (.ps (Sv K a xs ds) :: L) := R2.wk (.take .here (.drop (.drop .refl)))
  have R4 := R3.imp (P' := fun H => DqAll K H (List.replicate i.toNat xs).flatten (List.replicate i.toNat ds).flatten) (fun H h => dqAll_rep h.2 _) (fun H H' sm h => dqAll_same sm _ _ h)
  have R5 := (Rp.svAll (a := a) R4).perm List.perm_middle |>.tail
  exact ⟨a, i, xs, rfl, rfl, hs, h0, h1, sz_le (by rw [l]; exact z), fun p np => k _ _ _ _ q (Rp.mkL R5 (by rw [flatRep_len, flatRep_len, l]) np)⟩
/-! built-in calls -/
theorem CM_len (q : Q .lf (.int (ds.length : Nat))) : CM K (rLenSeq K) (.list ds) Q := fun H L G x s R m k => by
  obtain ⟨a, xs, rfl, _, _⟩ := (R.dpOf m).lstI
  exact g_lenS R m (k _ _ _ _ q (R.int _))
theorem CM_lenT (q : Q .lf (.int (ds.length : Nat))) : CM K (rLenSeq K) (.tuple ds) Q := fun H L G x s R m k => by
  obtain ⟨a, xs, rfl, _, _⟩ := (R.dpOf m).tupI
  exact g_lenTS R m (k _ _ _ _ q (R.int _))
theorem CM_lenS {z : Str} (h : z.length ≤ sizeLine) (q : Q .lf (.int z.length)) : CM K rLenStr (.str z) Q := fun H L G x s R m k => by
  have h1 := R.dpOf m
  cases h1
  exact ⟨z, rfl, h, k _ _ _ _ q (R.int _)⟩
theorem CM_abs (q : Q .lf (.int (if i < 0 then -i else i))) : CM K rAbs (.int i) Q := fun H L G x s R m k => by
  have h1 := R.dpOf m
  cases h1
  exact ⟨i, rfl, k _ _ _ _ q (R.int _)⟩
theorem CM_intI (q : Q .lf (.int i)) : CM K rInt1 (.int i) Q := fun H L G x s R m k => by
  have h1 := R.dpOf m
  cases h1
  exact g_intI (k _ _ _ _ q (R.int _))
theorem CM_intB {c : Bool} (q : Q .lf (.int (if c then 1 else 0))) : CM K rInt1 (.bool c) Q := fun H L G x s R m k => by
  have h1 := R.dpOf m
  cases h1
  exact g_intB (k _ _ _ _ q (R.int _))
theorem two_ints {vs : List V} (l : vs.length = 2) (R : Rp K H (zipI vs [(s, .int i), (s', .int j)] ++ L)) : vs = [.int i, .int j] ∧ Rp K H L := by
  match vs, l with
  | [x, y], _ =>
    have R : Rp K H (.ow s x (.int i) :: .ow s' y (.int j) :: L) := R
    obtain rfl := sh_int R
    obtain rfl := sh_int R.tail
    exact ⟨rfl, R.tail.tail⟩
theorem CW_max2 (q : Q .lf (.int (if j > i then j else i))) : CW K rMax2 [(s, .int i), (s', .int j)] Q := fun H L G vs l R k => by
  obtain ⟨e, R2⟩ := two_ints l R
  subst e
  clear R
  have R := R2
  exact g_max2 (k _ _ _ _ q (R.int _))
theorem CW_min2 (q : Q .lf (.int (if j < i then j else i))) : CW K rMin2 [(s, .int i), (s', .int j)] Q := fun H L G vs l R k => by
  obtain ⟨e, R2⟩ := two_ints l R
  subst e
  clear R
  have R := R2
  exact g_min2 (k _ _ _ _ q (R.int _))
theorem CW_max3 {s3 : Own} {m : Int} (q : Q .lf (.int (max (max i j) m))) : CW K rMax3 [(s, .int i), (s', .int j), (s3, .int m)] Q := fun H L G vs l R k => by
  match vs, l with
  | [x, y, z], _ =>
    have R : Rp K H (.ow s x (.int i) :: .ow s' y (.int j) :: .ow s3 z (.int m) :: L) := R
    obtain rfl := sh_int R
    obtain rfl := sh_int R.tail
    obtain rfl := sh_int R.tail.tail
    exact g_max3 (k _ _ _ _ q (R.tail.tail.tail.int _))
theorem CM_sum {ns : List Int} (q : Q .lf (.int ns.sum)) : CM K (rSum K) (IL ns) Q := fun H L G x s R m k => by
  obtain ⟨a, xs, rfl, _, _⟩ := (R.dpOf m).lstI
  exact ⟨a, ns, rfl, R.ilS m, k _ _ _ _ q (R.int _)⟩
theorem CM_min {ns : List Int} (h : 0 < ns.length) (q : ∀ z, z ∈ ns → (∀ y ∈ ns, z ≤ y) → Q .lf (.int z)) : CM K (rMin K) (IL ns) Q := fun H L G x s R m k => by
  obtain ⟨a, xs, rfl, _, _⟩ := (R.dpOf m).lstI
  exact ⟨a, ns, rfl, R.ilS m, h, fun z h1 h2 => k _ _ _ _ (q z h1 h2) (R.int _)⟩
theorem CM_max {ns : List Int} (h : 0 < ns.length) (q : ∀ z, z ∈ ns → (∀ y ∈ ns, y ≤ z) → Q .lf (.int z)) : CM K (rMax K) (IL ns) Q := fun H L G x s R m k => by
  obtain ⟨a, xs, rfl, _, _⟩ := (R.dpOf m).lstI
  exact ⟨a, ns, rfl, R.ilS m, h, fun z h1 h2 => k _ _ _ _ (q z h1 h2) (R.int _)⟩
theorem dq_bools {xs : List V} : ∀ {bs : List Bool}, DqAll K H xs (bs.map PyData.bool) → xs = bs.map V.bl := fun {bs} h => by
  induction bs generalizing xs with
  | nil => cases h; rfl
  | cons c bs ih =>
    cases h with
    | cons h1 h2 =>
      cases h1
      rw [ih h2]; rfl
theorem CM_all {bs : List Bool} (q : Q .lf (.bool (bs.all id))) : CM K (rAll K) (.list (bs.map PyData.bool)) Q := fun H L G x s R m k => by
  obtain ⟨a, xs, rfl, h1, h2⟩ := (R.dpOf m).lstI
  rw [dq_bools h2] at h1
  exact ⟨a, bs, rfl, SqL.of h1, k _ _ _ _ q (R.bl _)⟩
theorem CM_any {bs : List Bool} (q : Q .lf (.bool (bs.any id))) : CM K (rAny K) (.list (bs.map PyData.bool)) Q := fun H L G x s R m k => by
  obtain ⟨a, xs, rfl, h1, h2⟩ := (R.dpOf m).lstI
  rw [dq_bools h2] at h1
  exact ⟨a, bs, rfl, SqL.of h1, k _ _ _ _ q (R.bl _)⟩
theorem CM_sortI {ns : List Int} (q : ∀ ns', ns'.Perm ns → ns'.Pairwise (· ≤ ·) → Q (.li .lf) (IL ns')) : CM K (rSortedI K) (IL ns) Q := fun H L G x s R m k => by
  obtain ⟨a, xs, rfl, _, _⟩ := (R.dpOf m).lstI
  exact g_sortI R m fun c H' ns' h1 h2 R2 => k _ _ _ _ (q ns' h1 h2) R2
theorem CW_sortD (hal : PySem.W.AllAlike ds) (hs : PySem.W.Sortable ds) (hd : ∀ d ∈ ds, d.depth ≤ 50) (q : ∀ ds', ds'.Perm ds → ds'.Pairwise (fun a b => PySem.W.dataLe false id a b = true) → Q (.li .lf) (.list ds')) : CW K (rSortedD K) [(s, .list ds)] Q := fun H L G vs l R k => by
  match vs, l with
  | [x], _ =>
    have R : Rp K H (.ow s x (.list ds) :: L) := R
    have R := R.fz
    obtain ⟨a, rfl⟩ := sh_lst R
    exact g_sortS R mem_here hal hs hd fun c H' ds' h1 h2 R2 => k _ _ _ _ (q ds' h1 h2) (R2.wk (.take .here (.drop .refl)))
theorem CW_list (q : Q (.li .lf) (.list ds)) : CW K (rListOf K) [(s, .list ds)] Q := fun H L G vs l R k => by
  match vs, l with
  | [x], _ =>
    have R : Rp K H (.ow s x (.list ds) :: L) := R
    have R := R.fz
    obtain ⟨a, rfl⟩ := sh_lst R
    exact g_listS R mem_here fun c H' R2 => k _ _ _ _ q (R2.wk (.take .here (.drop .refl)))
theorem CW_listT (q : Q (.li .lf) (.list ds)) : CW K (rListOf K) [(s, .tuple ds)] Q := fun H L G vs l R k => by
  match vs, l with
  | [x], _ =>
    have R : Rp K H (.ow s x (.tuple ds) :: L) := R
    obtain ⟨a, xs, rfl, l1, h1, R1⟩ := R.fz.tv mem_here
    have R3 : Rp K H (.ps (Tv K a xs ds) :: L) := R1.wk (.take .here (.drop .refl))
    have R4 := R3.imp (P' := fun H => DqAll K H xs ds) (fun H h => h.2) (fun H H' sm h => dqAll_same sm _ _ h)
    have R5 := (Rp.svAll (a := a) R4).perm List.perm_middle |>.tail
    exact ⟨a, xs, rfl, .inr h1, fun p np => k _ _ _ _ q (Rp.mkL R5 l1 np)⟩
/-! isinstance -/
class IsiC (d : PyData) (T : String) (b : outParam Bool) : Prop where pf : ∀ (K : PySem.W.Frag) (H : Hp) (x : V), Dq K H x d → ∃ t, TyX K H x t ∧ PySem.W.kitOne K t (.type T) = some b
theorem EW_isi {T : String} (q : EW K te Γ fun _ d Γ1 => ∃ b, IsiC d T b ∧ QE .lf (.bool b) Γ1) : EW K (tCB (rIsi K) (tCons te (tCons (tC (.ty T)) tNil))) Γ QE := fun σ H L G S k => q σ H L _ S fun s d Γ1 v H1 ⟨b, hb, q1⟩ S1 => by
  obtain ⟨I, E, R⟩ := S1
  obtain ⟨t, h1, h2⟩ := hb.pf K H1 v R.mid.dp
  exact g_isi (.ty _) h1 h2 (k _ _ _ _ _ q1 (Stt.flat ⟨I, E, Rp.dim R.mid |>.perm (List.perm_middle) |>.tail⟩ (.bl _) rfl))
theorem isi_i {F : Bool → Prop} {T : String} {b : Bool} [h : IsiC d T b] (q : F b) : ∃ b, IsiC d T b ∧ F b := ⟨b, h, q⟩
instance : IsiC (.int i) "int" true := ⟨fun K H x hx => by cases hx; exact ⟨_, .base (.int _), kit_ty (by decide +kernel)⟩⟩
instance : IsiC (.int i) "bool" false := ⟨fun K H x hx => by cases hx; exact ⟨_, .base (.int _), kit_ty (by decide +kernel)⟩⟩
instance : IsiC (.int i) "str" false := ⟨fun K H x hx => by cases hx; exact ⟨_, .base (.int _), kit_ty (by decide +kernel)⟩⟩
instance : IsiC (.int i) "list" false := ⟨fun K H x hx => by cases hx; exact ⟨_, .base (.int _), kit_ty (by decide +kernel)⟩⟩
instance : IsiC (.int i) "tuple" false := ⟨fun K H x hx => by cases hx; exact ⟨_, .base (.int _), kit_ty (by decide +kernel)⟩⟩
instance {c : Bool} : IsiC (.bool c) "int" true := ⟨fun K H x hx => by cases hx; exact ⟨_, .base (.bl _), kit_ty (by decide +kernel)⟩⟩
instance {c : Bool} : IsiC (.bool c) "bool" true := ⟨fun K H x hx => by cases hx; exact ⟨_, .base (.bl _), kit_ty (by decide +kernel)⟩⟩
instance {c : Bool} : IsiC (.bool c) "str" false := ⟨fun K H x hx => by cases hx; exact ⟨_, .base (.bl _), kit_ty (by decide +kernel)⟩⟩
instance {c : Bool} : IsiC (.bool c) "list" false := ⟨fun K H x hx => by cases hx; exact ⟨_, .base (.bl _), kit_ty (by decide +kernel)⟩⟩
instance {c : Bool} : IsiC (.bool c) "tuple" false := ⟨fun K H x hx => by cases hx; exact ⟨_, .base (.bl _), kit_ty (by decide +kernel)⟩⟩
instance {z : Str} : IsiC (.str z) "int" false := ⟨fun K H x hx => by cases hx; exact ⟨_, .base (.str _), kit_ty (by decide +kernel)⟩⟩
instance {z : Str} : IsiC (.str z) "bool" false := ⟨fun K H x hx => by cases hx; exact ⟨_, .base (.str _), kit_ty (by decide +kernel)⟩⟩
instance {z : Str} : IsiC (.str z) "str" true := ⟨fun K H x hx => by cases hx; exact ⟨_, .base (.str _), kit_ty (by decide +kernel)⟩⟩
instance {z : Str} : IsiC (.str z) "list" false := ⟨fun K H x hx => by cases hx; exact ⟨_, .base (.str _), kit_ty (by decide +kernel)⟩⟩
instance {z : Str} : IsiC (.str z) "tuple" false := ⟨fun K H x hx => by cases hx; exact ⟨_, .base (.str _), kit_ty (by decide +kernel)⟩⟩
instance : IsiC (.list ds) "int" false := ⟨fun K H x hx => by obtain ⟨a, xs, rfl, h1, _⟩ := hx.lstI; exact ⟨_, tyX_lst (SqL.of h1), kit_ty (by decide +kernel)⟩⟩
instance : IsiC (.list ds) "bool" false := ⟨fun K H x hx => by obtain ⟨a, xs, rfl, h1, _⟩ := hx.lstI; exact ⟨_, tyX_lst (SqL.of h1), kit_ty (by decide +kernel)⟩⟩
instance : IsiC (.list ds) "str" false := ⟨fun K H x hx => by obtain ⟨a, xs, rfl, h1, _⟩ := hx.lstI; exact ⟨_, tyX_lst (SqL.of h1), kit_ty (by decide +kernel)⟩⟩
instance : IsiC (.list ds) "list" true := ⟨fun K H x hx => by obtain ⟨a, xs, rfl, h1, _⟩ := hx.lstI; exact ⟨_, tyX_lst (SqL.of h1), kit_ty (by decide +kernel)⟩⟩
instance : IsiC (.list ds) "tuple" false := ⟨fun K H x hx => by obtain ⟨a, xs, rfl, h1, _⟩ := hx.lstI; exact ⟨_, tyX_lst (SqL.of h1), kit_ty (by decide +kernel)⟩⟩
instance : IsiC (.tuple ds) "int" false := ⟨fun K H x hx => by obtain ⟨a, xs, rfl, h1, _⟩ := hx.tupI; exact ⟨_, tyX_tup h1, kit_ty (by decide +kernel)⟩⟩
instance : IsiC (.tuple ds) "bool" false := ⟨fun K H x hx => by obtain ⟨a, xs, rfl, h1, _⟩ := hx.tupI; exact ⟨_, tyX_tup h1, kit_ty (by decide +kernel)⟩⟩
instance : IsiC (.tuple ds) "str" false := ⟨fun K H x hx => by obtain ⟨a, xs, rfl, h1, _⟩ := hx.tupI; exact ⟨_, tyX_tup h1, kit_ty (by decide +kernel)⟩⟩
instance : IsiC (.tuple ds) "list" false := ⟨fun K H x hx => by obtain ⟨a, xs, rfl, h1, _⟩ := hx.tupI; exact ⟨_, tyX_tup h1, kit_ty (by decide +kernel)⟩⟩
instance : IsiC (.tuple ds) "tuple" true := ⟨fun K H x hx => by obtain ⟨a, xs, rfl, h1, _⟩ := hx.tupI; exact ⟨_, tyX_tup h1, kit_ty (by decide +kernel)⟩⟩
end
/-! ### boxes: steps -/
section
variable {K : PySem.W.Frag} {Γ Γ1 : Ev} {s s' s1 s2 s3 : Own} {d d' e d1 d2 d3 d4 d5 d6 : PyData} {ds es : List PyData} {n m : Nat} {te ta tb tc ti tj : TE} {tt tu : TT} {tr tr2 : TA} {i j : Int} {Q : Own → PyData → Prop} {QE : Own → PyData → Ev → Prop} {QT : Bool → Ev → Prop} {QA : List (Own × PyData) → Ev → Prop} {P : Po} {t u : L2.TS} {g : TG} {wi : TI} {r r' : R2} {rc : List V → Hp → VK → Prop} {vs : List Nat} {bs : List (Own × PyData)} {b : Bool}
def SndB (bs : List (Own × PyData)) (F : List PyData → Prop) : Prop := bs.length ≤ 100000 ∧ F (bs.map Prod.snd)
class SndC (bs : List (Own × PyData)) (ds : outParam (List PyData)) : Prop where
  e : bs.map Prod.snd = ds
  l : bs.length ≤ 100000
instance : SndC [] [] := ⟨rfl, by decide⟩
instance : SndC [(s, d)] [d] := ⟨rfl, by show 1 ≤ 100000; decide⟩
instance : SndC [(s1, d1), (s2, d2)] [d1, d2] := ⟨rfl, by show 2 ≤ 100000; decide⟩
instance : SndC [(s1, d1), (s2, d2), (s3, d3)] [d1, d2, d3] := ⟨rfl, by show 3 ≤ 100000; decide⟩
instance {s4 : Own} : SndC [(s1, d1), (s2, d2), (s3, d3), (s4, d4)] [d1, d2, d3, d4] := ⟨rfl, by show 4 ≤ 100000; decide⟩
instance {s4 s5 : Own} : SndC [(s1, d1), (s2, d2), (s3, d3), (s4, d4), (s5, d5)] [d1, d2, d3, d4, d5] := ⟨rfl, by show 5 ≤ 100000; decide⟩
instance {s4 s5 s6 : Own} : SndC [(s1, d1), (s2, d2), (s3, d3), (s4, d4), (s5, d5), (s6, d6)] [d1, d2, d3, d4, d5, d6] := ⟨rfl, by show 6 ≤ 100000; decide⟩
theorem SndB_i {F : List PyData → Prop} [h : SndC bs ds] (q : F ds) : SndB bs F := ⟨h.l, by rw [h.e]; exact q⟩
instance {F : List PyData → Prop} [h : SndC bs ds] : St1 (SndB bs F) (F ds) := ⟨SndB_i⟩
/-- a tuple display's shape -/
def TupB (bs : List (Own × PyData)) (F : Own → PyData → Prop) : Prop := ∃ s d, F s d ∧ ((s = .lf ∧ d = .tuple (bs.map Prod.snd) ∧ bs.length ≤ 100000) ∨ (∃ s1 s2 d1 d2, bs = [(s1, d1), (s2, d2)] ∧ s = .t2 s1 s2 ∧ d = .tuple [d1, d2]) ∨ ∃ s1 s2 s3 d1 d2 d3, bs = [(s1, d1), (s2, d2), (s3, d3)] ∧ s = .t3 s1 s2 s3 ∧ d = .tuple [d1, d2, d3])
theorem EW_tupB (q : AW K tr Γ fun bs Γ1 => TupB bs fun s d => QE s d Γ1) : EW K (tTup tr) Γ QE := fun σ H L G S k => q σ H L _ S fun bs Γ1 vs H1 ⟨s, d, q1, h⟩ l S1 => by
  rcases h with ⟨rfl, rfl, z⟩ | ⟨s1, s2, d1, d2, rfl, rfl, rfl⟩ | ⟨s1, s2, s3, d1, d2, d3, rfl, rfl, rfl⟩
  · refine ⟨sz_le (by rw [l]; exact z), fun p np => ?_⟩
    obtain ⟨M, R, back⟩ := S1.lift (A := zipI vs bs)
    exact k _ _ _ _ _ q1 (back _ [.sh (.ref p) _] (Rp.tupL (Rp.fzZ l R) (by rw [l, List.length_map]) np))
  · match vs, l with
    | [x, y], _ =>
    obtain ⟨M, R, back⟩ := S1.lift (A := zipI [x, y] [(s1, d1), (s2, d2)])
    exact ⟨two_le, fun p np => k _ _ _ _ _ q1 (back _ [.ow (.t2 s1 s2) (.ref p) _] (Rp.mk2 R np))⟩
  · match vs, l with
    | [x, y, z], _ =>
    obtain ⟨M, R, back⟩ := S1.lift (A := zipI [x, y, z] [(s1, d1), (s2, d2), (s3, d3)])
    exact ⟨sz_le (by show 3 ≤ 100000; decide), fun p np => k _ _ _ _ _ q1 (back _ [.ow (.t3 s1 s2 s3) (.ref p) _] (Rp.mk3 R np))⟩
theorem TupB_f {F : Own → PyData → Prop} [h : SndC bs ds] (q : F .lf (.tuple ds)) : TupB bs F := ⟨.lf, _, q, .inl ⟨rfl, by rw [h.e], h.l⟩⟩
theorem TupB_2 {F : Own → PyData → Prop} (q : F (.t2 s1 s2) (.tuple [d1, d2])) : TupB [(s1, d1), (s2, d2)] F := ⟨_, _, q, .inr (.inl ⟨_, _, _, _, rfl, rfl, rfl⟩)⟩
theorem TupB_3 {F : Own → PyData → Prop} (q : F (.t3 s1 s2 s3) (.tuple [d1, d2, d3])) : TupB [(s1, d1), (s2, d2), (s3, d3)] F := ⟨_, _, q, .inr (.inr ⟨_, _, _, _, _, _, rfl, rfl, rfl⟩)⟩
instance (priority := 500) {F : Own → PyData → Prop} [h : SndC bs ds] : St1 (TupB bs F) (F .lf (.tuple ds)) := ⟨TupB_f⟩
instance (priority := 600) {F : Own → PyData → Prop} : St1 (TupB [(s1, d1), (s2, d2)] F) (F (.t2 s1 s2) (.tuple [d1, d2])) := ⟨TupB_2⟩
instance (priority := 700) {F : Own → PyData → Prop} : St1 (TupB [(.lf, d1), (.lf, d2)] F) (F .lf (.tuple [d1, d2])) := ⟨TupB_f⟩
instance (priority := 600) {F : Own → PyData → Prop} : St1 (TupB [(s1, d1), (s2, d2), (s3, d3)] F) (F (.t3 s1 s2 s3) (.tuple [d1, d2, d3])) := ⟨TupB_3⟩
instance (priority := 700) {F : Own → PyData → Prop} : St1 (TupB [(.lf, d1), (.lf, d2), (.lf, d3)] F) (F .lf (.tuple [d1, d2, d3])) := ⟨TupB_f⟩
/-- a list display's shape -/
def LstB (bs : List (Own × PyData)) (F : Own → PyData → Prop) : Prop := ∃ s, bs.length ≤ 100000 ∧ ((∀ b ∈ bs, b.1 = s) ∨ s = .lf) ∧ F (.li s) (.list (bs.map Prod.snd))
theorem EW_lstB (q : AW K tr Γ fun bs Γ1 => LstB bs fun s d => QE s d Γ1) : EW K (tLst tr) Γ QE := fun σ H L G S k => q σ H L _ S fun bs Γ1 vs H1 ⟨s, z, hs, q1⟩ l S1 => ⟨sz_le (by rw [l]; exact z), fun p np => by
  obtain ⟨M, R, back⟩ := S1.lift (A := zipI vs bs)
  rcases hs with hs | rfl
  · rw [zipI_each l hs] at R
    exact k _ _ _ _ _ q1 (back _ [.ow (.li s) (.ref p) _] (Rp.mkL R (by rw [l, List.length_map]) np))
  · exact k _ _ _ _ _ q1 (back _ [.ow (.li .lf) (.ref p) _] (Rp.mkL (Rp.fzZ l R) (by rw [l, List.length_map]) np))⟩
theorem LstB_f {F : Own → PyData → Prop} [h : SndC bs ds] (q : F (.li .lf) (.list ds)) : LstB bs F := ⟨.lf, h.l, .inr rfl, by rw [h.e]; exact q⟩
theorem LstB_1 {F : Own → PyData → Prop} (q : F (.li s) (.list [d])) : LstB [(s, d)] F := ⟨s, by show 1 ≤ 100000; decide, .inl (fun b hb => by cases List.mem_singleton.mp hb; rfl), q⟩
theorem LstB_0 {F : Own → PyData → Prop} (s : Own) (q : F (.li s) (.list [])) : LstB [] F := ⟨s, by decide, .inl (fun b hb => by cases hb), q⟩
instance (priority := 500) {F : Own → PyData → Prop} [h : SndC bs ds] : St1 (LstB bs F) (F (.li .lf) (.list ds)) := ⟨LstB_f⟩
instance (priority := 700) {F : Own → PyData → Prop} : St1 (LstB [(s, d)] F) (F (.li s) (.list [d])) := ⟨LstB_1⟩
/-! what stands at a place -/
def IxB (s : Own) (d e : PyData) (F : PyData → Prop) : Prop := ∃ ds i d', d = .list ds ∧ e = .int i ∧ atI ds i = some d' ∧ (s = .lf ∨ s = .li .lf) ∧ F d'
theorem IxB_r {F : PyData → Prop} (h : atI ds i = some d') (hs : s = .lf ∨ s = .li .lf) (q : F d') : IxB s (.list ds) (.int i) F := ⟨ds, i, d', rfl, rfl, h, hs, q⟩
theorem IxB_c {c : Prop} [h : IxC ds i c d'] {F : PyData → Prop} (hc : c) (hs : s = .lf ∨ s = .li .lf) (q : F d') : IxB s (.list ds) (.int i) F := ⟨ds, i, d', rfl, rfl, h.pf hc, hs, q⟩
theorem OW_ixB (q : IxB .lf d e fun d' => Q .lf d') : OW K (rIxL K) s d s' e Q := by
  obtain ⟨ds, i, d', rfl, rfl, h, _, q⟩ := q
  exact OW_ixL h q
def IxTB (d e : PyData) (F : PyData → Prop) : Prop := ∃ ds i d', d = .tuple ds ∧ e = .int i ∧ atI ds i = some d' ∧ F d'
theorem IxTB_r {F : PyData → Prop} (h : atI ds i = some d') (q : F d') : IxTB (.tuple ds) (.int i) F := ⟨ds, i, d', rfl, rfl, h, q⟩
theorem IxTB_c {c : Prop} [h : IxC ds i c d'] {F : PyData → Prop} (hc : c) (q : F d') : IxTB (.tuple ds) (.int i) F := ⟨ds, i, d', rfl, rfl, h.pf hc, q⟩
theorem OW_ixTB (q : IxTB d e fun d' => Q .lf d') : OW K (rIxT K) s d s' e Q := by
  obtain ⟨ds, i, d', rfl, rfl, h, q⟩ := q
  exact OW_ixT h q
theorem EW_ixOB (q : AtB Γ n fun _ _ _ => EW K ti Γ fun _ e Γ2 => AtB Γ2 n fun s d _ => IxB s d e fun d' => QE .lf d' Γ2) : EW K (tOp (rIxL K) (tVar n) ti) Γ QE := by
  obtain ⟨b, s, d, h, hb, q⟩ := q
  exact EW_ixO h hb q
theorem EW_opVB (q : AtB Γ n fun _ _ _ => EW K tb Γ fun s' e Γ2 => AtB Γ2 n fun s d _ => OM K r d e fun s2 d2 => QE s2 d2 Γ2) : EW K (tOp r (tVar n) tb) Γ QE := by
  obtain ⟨b, s, d, h, hb, q⟩ := q
  exact EW_opV h hb q
theorem EW_appB (q : AtB Γ n fun _ d _ => ∃ es, d = .list es ∧ EW K te Γ fun s d Γ1 => AppB Γ1 n s d fun Γ2 => QE .lf .none Γ2) : EW K (tBM K "list" rAppend (tVar n) (tCons te tNil)) Γ QE := by
  obtain ⟨b, s, d, h, hb, es, rfl, q⟩ := q
  exact EW_app h hb q
theorem EW_extB (q : AtB Γ n fun _ d _ => ∃ es, d = .list es ∧ EW K te Γ fun s d Γ1 => ExtB Γ1 n s d fun Γ2 => QE .lf .none Γ2) : EW K (tBM K "list" rExtend (tVar n) (tCons te tNil)) Γ QE := by
  obtain ⟨b, s, d, h, hb, es, rfl, q⟩ := q
  exact EW_ext h hb q
theorem EW_callB {pre : List PyData → (Own → PyData → Prop) → Prop} {E : XK} (q : AW K tr Γ fun bs Γ1 => SndB bs fun ds => pre ds fun s d => QE s d Γ1) : EW K (tCall (spV K pre) [] E tr) Γ QE := EW_call fun σ H L G S k => q σ H L G S fun bs Γ' vs H' q' => k bs Γ' vs H' q'.2
theorem EW_callMB {pre : Own → PyData → List PyData → (Own → PyData → PyData → Prop) → Prop} {E : XK} (q : AtB Γ n fun _ _ _ => AW K tr Γ fun bs Γ1 => SndB bs fun ds => AtB Γ1 n fun s d b => pre s d ds fun s2 r d2 => QE s2 r (Γ1.set n (b.to s d2))) : EW K (tCall (spM K pre) [] E (tCons (tVar n) tr)) Γ QE := by
  obtain ⟨b, s, d, h, hb, q⟩ := q
  exact EW_callM h hb fun σ H L G S k => q σ H L G S fun bs Γ' vs H' q' => k bs Γ' vs H' q'.2
theorem SW_par (q : AW K tr Γ fun bs Γ1 => ∃ s1 d1 s2 d2, bs = [(s1, d1), (s2, d2)] ∧ P.nx ((Γ1.set n (.v s1 d1)).set m (.v s2 d2))) : SW K (tPar n m tr) Γ P := fun σ H L D S k => q σ H L _ S fun bs Γ1 vs H1 ⟨s1, d1, s2, d2, e, q1⟩ l S1 => by
  subst e
  match vs, l with
  | [x, y], _ =>
    have S1 : Stt K Γ1 σ H1 (.ow s1 x d1 :: .ow s2 y d2 :: L) := S1
    exact ⟨x, y, rfl, k.nx _ _ _ q1 ((S1.bind n).bind m)⟩
theorem SW_augI {gf : Int → Int → Int} (q : AtB Γ n fun _ d _ => ∃ i, d = .int i ∧ EW K te Γ fun _ e Γ1 => ∃ j, e = .int j ∧ P.nx (Γ1.set n (.v .lf (.int (gf i j))))) : SW K (tAug n te (ipI gf)) Γ P := fun σ H L D S k => by
  obtain ⟨b, s, d, h, hb, i, rfl, q⟩ := q
  obtain ⟨w, M, hw, R, put, _⟩ := S.focus h hb
  obtain rfl := sh_int R
  refine ⟨.int i, hw, q σ H L _ S fun s' e Γ1 y H1 ⟨j, e1, q1⟩ S1 => ?_⟩
  subst e1
  obtain rfl := S1.int'
  exact ⟨i, j, rfl, rfl, k.nx _ _ _ q1 ((S1.tail.flat (.int _) rfl).bind n)⟩
/-! targets of several names -/
theorem GW_tup {n : Nat} {gs : TGs} {QV : Ev → Prop} (h : d = .tuple ds) (l : ds.length = n) (q : ∀ (σ : L2.St) (H : Hp) (L : List It) (us : List V) (G : L2.St → Hp → Prop), us.length = ds.length → Stt K Γ σ H (each .lf us ds ++ L) → (∀ Γ' σ' H', QV Γ' → Stt K Γ' σ' H' L → G σ' H') → gs us σ H G) : GW K (gTup K n gs) s d Γ QV := fun σ H L v G S k => by
  subst h
  obtain ⟨M, R, back⟩ := S.lift (A := [.ow s v (.tuple ds)])
  obtain ⟨a, xs, rfl, l1, h1, R1⟩ := R.fz.tv mem_here
  have R3 : Rp K H (.ps (Tv K a xs ds) :: M) := R1.wk (.take .here (.drop .refl))
  have R4 := R3.imp (P' := fun H => DqAll K H xs ds) (fun H h => h.2) (fun H H' sm h => dqAll_same sm _ _ h)
  have R5 := (Rp.svAll (a := a) R4).perm List.perm_middle |>.tail
  exact ⟨a, xs, rfl, h1, by rw [l1]; exact l, q σ H L xs G l1 (back H _ R5) k⟩
/-- names for a tuple's things -/
def GsB (K : PySem.W.Frag) (gs : TGs) (ds : List PyData) (Γ : Ev) (QV : Ev → Prop) : Prop := ∀ (σ : L2.St) (H : Hp) (L : List It) (us : List V) (G : L2.St → Hp → Prop), us.length = ds.length → Stt K Γ σ H (each .lf us ds ++ L) → (∀ Γ' σ' H', QV Γ' → Stt K Γ' σ' H' L → G σ' H') → gs us σ H G
theorem GsB_nil {QV : Ev → Prop} (q : QV Γ) : GsB K gNil [] Γ QV := fun σ H L us G l S k => by
  match us, l with
  | [], _ => exact ⟨rfl, k _ _ _ q S⟩
theorem GsB_cons {gs : TGs} {QV : Ev → Prop} (q : GW K g .lf d Γ fun Γ1 => GsB K gs ds Γ1 QV) : GsB K (gCons g gs) (d :: ds) Γ QV := fun σ H L us G l S k => by
  match us, l with
  | x :: us, l =>
    have S : Stt K Γ σ H (.sh x d :: (each .lf us ds ++ L)) := S
    exact ⟨x, us, rfl, q σ H (each .lf us ds ++ L) x _ S fun Γ' σ' H' q1 S1 => q1 σ' H' L us G (by simpa using l) S1 k⟩
theorem GW_tupB {n : Nat} {gs : TGs} {QV : Ev → Prop} (l : ds.length = n) (q : GsB K gs ds Γ QV) : GW K (gTup K n gs) s (.tuple ds) Γ QV := GW_tup rfl l q
theorem GW_unlB {n : Nat} {gs : TGs} {QV : Ev → Prop} (l : ds.length = n) (q : GsB K gs ds Γ QV) : GW K (gUnl K n gs) s (.list ds) Γ QV := fun σ H L v G S k => by
  obtain ⟨M, R, back⟩ := S.lift (A := [.ow s v (.list ds)])
  obtain ⟨a, xs, rfl, l1, h1, R1⟩ := R.fz.sv mem_here
  have R3 : Rp K H (.ps (Sv K a xs ds) :: M) := R1.wk (.take .here (.drop .refl))
  have R4 := R3.imp (P' := fun H => DqAll K H xs ds) (fun H h => h.2) (fun H H' sm h => dqAll_same sm _ _ h)
  have R5 := (Rp.svAll (a := a) R4).perm List.perm_middle |>.tail
  exact ⟨a, xs, rfl, SqL.of h1, by rw [l1]; exact l, q σ H L xs G l1 (back H _ R5) k⟩
/-- the same within a comprehension -/
def GsC (K : PySem.W.Frag) (gs : TGs) (ds : List PyData) (Γ : Ev) (vs : List Nat) (QV : Ev → Prop) : Prop := ∀ (σ : L2.St) (H : Hp) (L : List It) (us : List V) (G : L2.St → Hp → Prop), us.length = ds.length → Stt K Γ σ H (each .lf us ds ++ L) → (∀ Γ' σ' H', QV Γ' → wipe σ' vs = wipe σ vs → Stt K Γ' σ' H' L → G σ' H') → gs us σ H G
theorem GsC_nil {QV : Ev → Prop} (q : QV Γ) : GsC K gNil [] Γ vs QV := fun σ H L us G l S k => by
  match us, l with
  | [], _ => exact ⟨rfl, k _ _ _ q rfl S⟩
theorem GsC_cons {gs : TGs} {QV : Ev → Prop} (q : GC K g .lf d Γ vs fun Γ1 => GsC K gs ds Γ1 vs QV) : GsC K (gCons g gs) (d :: ds) Γ vs QV := fun σ H L us G l S k => by
  match us, l with
  | x :: us, l =>
    have S : Stt K Γ σ H (.sh x d :: (each .lf us ds ++ L)) := S
    exact ⟨x, us, rfl, q σ H (each .lf us ds ++ L) x _ S fun Γ' σ' H' q1 hw S1 => q1 σ' H' L us G (by simpa using l) S1 fun Γ2 σ2 H2 q2 hw2 S2 => k Γ2 σ2 H2 q2 (hw2.trans hw) S2⟩
theorem GC_tupB {n : Nat} {gs : TGs} {QV : Ev → Prop} (l : ds.length = n) (q : GsC K gs ds Γ vs QV) : GC K (gTup K n gs) s (.tuple ds) Γ vs QV := fun σ H L v G S k => by
  obtain ⟨M, R, back⟩ := S.lift (A := [.ow s v (.tuple ds)])
  obtain ⟨a, xs, rfl, l1, h1, R1⟩ := R.fz.tv mem_here
  have R3 : Rp K H (.ps (Tv K a xs ds) :: M) := R1.wk (.take .here (.drop .refl))
  have R4 := R3.imp (P' := fun H => DqAll K H xs ds) (fun H h => h.2) (fun H H' sm h => dqAll_same sm _ _ h)
  have R5 := (Rp.svAll (a := a) R4).perm List.perm_middle |>.tail
  exact ⟨a, xs, rfl, h1, by rw [l1]; exact l, q σ H L xs G l1 (back H _ R5) k⟩
/-! slices -/
def PW' (K : PySem.W.Frag) (to : L2.St → Hp → (Option Int → Hp → Prop) → Prop) (Γ : Ev) (Q : Option Int → Ev → Prop) : Prop := ∀ (σ : L2.St) (H : Hp) (L : List It) (G : Option Int → Hp → Prop), Stt K Γ σ H L → (∀ o Γ' H', Q o Γ' → Stt K Γ' σ H' L → G o H') → to σ H G
theorem PW'_no {QO : Option Int → Ev → Prop} (q : QO none Γ) : PW' K tNoPart Γ QO := fun σ H L G S k => k _ _ _ q S
theorem PW'_some {QO : Option Int → Ev → Prop} (q : EW K te Γ fun _ d Γ1 => ∃ i, d = .int i ∧ QO (some i) Γ1) : PW' K (tPart te) Γ QO := fun σ H L G S k => q σ H L _ S fun s d Γ1 v H1 ⟨i, e, q1⟩ S1 => by
  subst e
  obtain rfl := S1.int'
  exact ⟨i, rfl, k _ _ _ q1 S1.tail⟩
def cutG {α : Type} (xs : List α) (lo hi : Option Int) : List α := (xs.drop (HT.sIx xs.length 0 lo)).take (HT.sIx xs.length xs.length hi - HT.sIx xs.length 0 lo)
theorem cutG_map {α β : Type} (f : α → β) (xs : List α) (lo hi : Option Int) : cutG (xs.map f) lo hi = (cutG xs lo hi).map f := by
  unfold cutG
  rw [List.length_map, List.map_take, List.map_drop]
theorem cutG_no {α : Type} (xs : List α) : cutG xs none none = xs := by
  unfold cutG
  rw [HT.sIx_none, HT.sIx_none]
  simp
theorem cutG_to {α : Type} (xs : List α) (k : Nat) : cutG xs none (some (k : Int)) = xs.take k := by
  unfold cutG
  rw [HT.sIx_none, HT.sIx_nat, List.drop_zero, Nat.sub_zero]
  by_cases h : k ≤ xs.length
  · rw [Nat.min_eq_left h]
  · rw [Nat.min_eq_right (by omega), List.take_length, List.take_of_length_le (by omega)]
theorem cutG_from {α : Type} (xs : List α) (k : Nat) : cutG xs (some (k : Int)) none = xs.drop k := by
  unfold cutG
  rw [HT.sIx_none, HT.sIx_nat]
  by_cases h : k ≤ xs.length
  · rw [Nat.min_eq_left h, List.take_of_length_le (by rw [List.length_drop]; exact Nat.le_refl _)]
  · rw [Nat.min_eq_right (by omega), List.drop_of_length_le (Nat.le_refl _), List.drop_of_length_le (by omega), List.take_nil]
theorem cutG_both {α : Type} (xs : List α) (a b : Nat) : cutG xs (some (a : Int)) (some (b : Int)) = (xs.take b).drop a := by
  unfold cutG
  rw [HT.sIx_nat, HT.sIx_nat]
  by_cases h : a ≤ xs.length
  · rw [Nat.min_eq_left h, List.drop_take]
    by_cases h2 : b ≤ xs.length
    · rw [Nat.min_eq_left h2]
    · rw [Nat.min_eq_right (by omega), List.take_of_length_le (by rw [List.length_drop]; exact Nat.le_refl _), List.take_of_length_le (by rw [List.length_drop]; omega)]
  · rw [Nat.min_eq_right (show xs.length ≤ a by omega), List.drop_of_length_le (Nat.le_refl _), List.take_nil, List.drop_of_length_le (by rw [List.length_take]; omega)]
theorem EW_slL {tl th : L2.St → Hp → (Option Int → Hp → Prop) → Prop} (q : EW K te Γ fun _ d Γ1 => PW' K tl Γ1 fun l Γ2 => PW' K th Γ2 fun u Γ3 => ∃ ds, d = .list ds ∧ QE (.li .lf) (.list (cutG ds l u)) Γ3) : EW K (tSl (rSlL K) te tl th) Γ QE := fun σ H L G S k => q σ H L _ S fun s d Γ1 x H1 q1 S1 => q1 σ H1 _ _ S1 fun l Γ2 H2 q2 S2 => q2 σ H2 _ _ S2 fun u Γ3 H3 ⟨ds, e, q3⟩ S3 => by
  subst e
  obtain ⟨M, R, back⟩ := S3.lift (A := [.ow s x (.list ds)])
  obtain ⟨a, xs, rfl, l1, h1, R1⟩ := R.fz.sv mem_here
  have R3 : Rp K H3 (.ps (Sv K a xs ds) :: M) := R1.wk (.take .here (.drop .refl))
  have cut : ∀ {xs : List V} {ds : List PyData} {k j : Nat}, DqAll K H3 xs ds → DqAll K H3 xs ds := fun h => h
  have R4 := R3.imp (P' := fun H => DqAll K H (cutV xs l u) (cutG ds l u)) (fun H h => ?_) (fun H H' sm h => dqAll_same sm _ _ h)
  · have R5 := (Rp.svAll (a := a) R4).perm List.perm_middle |>.tail
    exact ⟨a, xs, rfl, SqL.of h1, fun p np => k _ _ _ _ _ q3 (back _ [.ow (.li .lf) (.ref p) _] (Rp.mkL R5 (by unfold cutV cutG; rw [List.length_take, List.length_take, List.length_drop, List.length_drop, l1]) np))⟩
  · have key1 : ∀ {xs : List V} {ds : List PyData} (k : Nat), DqAll K H xs ds → DqAll K H (xs.drop k) (ds.drop k) := fun {xs ds} k h => by
      induction k generalizing xs ds with
      | zero => exact h
      | succ k ih =>
        cases h with
        | nil => exact .nil
        | cons _ h2 => exact ih h2
    have key2 : ∀ {xs : List V} {ds : List PyData} (k : Nat), DqAll K H xs ds → DqAll K H (xs.take k) (ds.take k) := fun {xs ds} k h => by
      induction k generalizing xs ds with
      | zero => exact .nil
      | succ k ih =>
        cases h with
        | nil => exact .nil
        | cons h1 h2 => exact .cons h1 (ih h2)
    unfold cutV cutG
    rw [l1]
    exact key2 _ (key1 _ h.2)
/-! sets of ints, list(range(..)) -/
theorem EW_lenSet (q : EW K te Γ fun _ d Γ1 => ∃ ns : List Int, d = IL ns ∧ ns.length < 2000 ∧ QE .lf (.int ((nub ns).length : Nat)) Γ1) : EW K (tLenSet K te) Γ QE := fun σ H L G S k => q σ H L _ S fun s d Γ1 v H1 ⟨ns, e, z, q1⟩ S1 => by
  subst e
  obtain ⟨M, R, back⟩ := S1.lift (A := [.ow s v (IL ns)])
  obtain ⟨a, rfl⟩ := sh_lst R
  exact ⟨a, ns, rfl, R.ilS mem_here, z, k _ _ _ _ _ q1 (S1.tail.flat (.int _) rfl)⟩
theorem EW_sortSet (q : EW K te Γ fun _ d Γ1 => ∃ ns : List Int, d = IL ns ∧ ns.length < 64 ∧ QE (.li .lf) (IL (sortN ns)) Γ1) : EW K (tSortSet K te) Γ QE := fun σ H L G S k => q σ H L _ S fun s d Γ1 v H1 ⟨ns, e, z, q1⟩ S1 => by
  subst e
  obtain ⟨M, R, back⟩ := S1.lift (A := [.ow s v (IL ns)])
  obtain ⟨a, rfl⟩ := sh_lst R
  exact ⟨a, ns, rfl, R.ilS mem_here, z, fun p np => k _ _ _ _ _ q1 (back _ [.ow (.li .lf) (.ref p) _] (Rp.mkI R.tail np))⟩
theorem EW_len3 {k : Nat} (q : AtB Γ n fun _ d1 _ => AtB Γ m fun _ d2 _ => AtB Γ k fun _ d3 _ => ∃ x y z, d1 = .int x ∧ d2 = .int y ∧ d3 = .int z ∧ QE .lf (.int ((nub [x, y, z]).length : Nat)) Γ) : EW K (tLen3 n m k) Γ QE := fun σ H L G S kk => by
  obtain ⟨b, s, d, h, hb, b1, s1, d1, h1, hb1, b2, s2, d2, h2, hb2, x, y, z, rfl, rfl, rfl, q⟩ := q
  obtain ⟨w, M, hw, R, _, _⟩ := S.focus h hb
  obtain ⟨w1, M1, hw1, R1, _, _⟩ := S.focus h1 hb1
  obtain ⟨w2, M2, hw2, R2, _, _⟩ := S.focus h2 hb2
  obtain rfl := sh_int R
  obtain rfl := sh_int R1
  obtain rfl := sh_int R2
  exact ⟨x, y, z, hw, hw1, hw2, kk _ _ _ _ _ q (S.flat (.int _) rfl)⟩
/-- list(range(..)) -/
def RgW (K : PySem.W.Frag) (tg : L2.St → Hp → (Int → Int → Hp → Prop) → Prop) (Γ : Ev) (Q : Int → Int → Ev → Prop) : Prop := ∀ (σ : L2.St) (H : Hp) (L : List It) (G : Int → Int → Hp → Prop), Stt K Γ σ H L → (∀ i j Γ' H', Q i j Γ' → Stt K Γ' σ H' L → G i j H') → tg σ H G
theorem RgW_1 {QR : Int → Int → Ev → Prop} (q : EW K te Γ fun _ d Γ1 => ∃ j, d = .int j ∧ QR 0 j Γ1) : RgW K (tRg1 te) Γ QR := fun σ H L G S k => q σ H L _ S fun s d Γ1 v H1 ⟨i, e, q1⟩ S1 => by
  subst e
  obtain rfl := S1.int'
  exact ⟨i, rfl, k _ _ _ _ q1 S1.tail⟩
theorem RgW_2 {QR : Int → Int → Ev → Prop} (q : EW K ta Γ fun _ d Γ1 => EW K tb Γ1 fun _ e Γ2 => ∃ i j, d = .int i ∧ e = .int j ∧ QR i j Γ2) : RgW K (tRg2 ta tb) Γ QR := fun σ H L G S k => q σ H L _ S fun s d Γ1 v H1 q1 S1 => q1 σ H1 _ _ S1 fun s' e Γ2 u H2 ⟨i, j, e1, e2, q2⟩ S2 => by
  subst e1 e2
  obtain rfl := S2.int'
  obtain rfl := S2.tail.int'
  exact ⟨i, j, rfl, rfl, k _ _ _ _ q2 S2.tail.tail⟩
theorem EW_lstRg {tg : L2.St → Hp → (Int → Int → Hp → Prop) → Prop} (q : RgW K tg Γ fun i j Γ1 => (0 ≤ i ∧ i ≤ 16777216 ∧ 0 ≤ j ∧ j ≤ 16777216) ∧ QE (.li .lf) (IL (rg i (j - i).toNat)) Γ1) : EW K (tLstRg tg) Γ QE := fun σ H L G S k => q σ H L _ S fun i j Γ1 H1 ⟨h, q1⟩ S1 => by
  obtain ⟨I, E, R⟩ := S1
  exact g_lstRg R h fun c hc R2 => k _ _ _ _ _ q1 ⟨I, E, R2.dim⟩
end
/-! ### boxes: the steps as instances -/
section
variable {K : PySem.W.Frag} {Γ Γ1 : Ev} {s s' s1 s2 s3 : Own} {d d' e d1 d2 d3 : PyData} {ds es : List PyData} {n m k : Nat} {te ta tb tc ti tj : TE} {tt tu : TT} {tr tr2 : TA} {i j : Int} {Q : Own → PyData → Prop} {QE : Own → PyData → Ev → Prop} {QT : Bool → Ev → Prop} {QA : List (Own × PyData) → Ev → Prop} {QV : Ev → Prop} {QL : List PyData → Ev → Prop} {P : Po} {t u : L2.TS} {g : TG} {gs : TGs} {wi : TI} {r r' : R2} {rc : List V → Hp → VK → Prop} {vs : List Nat} {bs : List (Own × PyData)} {b c : Bool} {z : Str}
-- statements
instance : St1 (SW K (tSeq t u) Γ P) (SW K t Γ { P with nx := fun Γ1 => SW K u Γ1 P }) := ⟨SW_seq⟩
instance : St1 (SW K tNext Γ P) (P.nx Γ) := ⟨SW_next⟩
instance : St1 (SW K tBreak Γ P) (P.bk Γ) := ⟨SW_break⟩
instance : St1 (SW K tCont Γ P) (P.ct Γ) := ⟨SW_cont⟩
instance : St1 (SW K (tIfS tt t u) Γ P) (TW K tt Γ fun c Γ1 => if c = true then SW K t Γ1 P else SW K u Γ1 P) := ⟨SW_if⟩
instance (priority := 900) : St1 (SW K (tRet te) Γ P) (EW K te Γ P.rt) := ⟨SW_ret⟩
instance : St1 (SW K (tRet (tVar n)) Γ P) (AtB Γ n fun s d _ => P.rt s d (Γ.set n .un)) := ⟨fun ⟨_, _, _, h, hb, q⟩ => SW_retV h hb q⟩
instance : St1 (SW K tRetN Γ P) (P.rt .lf .none Γ) := ⟨SW_retN⟩
instance : St1 (SW K (tDrop te) Γ P) (EW K te Γ fun _ _ Γ1 => P.nx Γ1) := ⟨SW_drop⟩
instance : St1 (SW K (tAsg te g) Γ P) (EW K te Γ fun s d Γ1 => GW K g s d Γ1 P.nx) := ⟨SW_asg⟩
instance : St1 (SW K (tFor wi g t) Γ P) (IW K wi Γ fun ds Γ1 => ForB K ds g t Γ1 P) := ⟨SW_for⟩
instance : St1 (SW K (tPar n m tr) Γ P) (AW K tr Γ fun bs Γ1 => ∃ s1 d1 s2 d2, bs = [(s1, d1), (s2, d2)] ∧ P.nx ((Γ1.set n (.v s1 d1)).set m (.v s2 d2))) := ⟨SW_par⟩
instance {f : Own → PyData → Own → PyData → Prop} : St1 (∃ a b c d, [(s1, d1), (s2, d2)] = [(a, b), (c, d)] ∧ f a b c d) (f s1 d1 s2 d2) := ⟨fun q => ⟨_, _, _, _, rfl, q⟩⟩
instance {gf : Int → Int → Int} : St1 (SW K (tAug n te (ipI gf)) Γ P) (AtB Γ n fun _ d _ => ∃ i, d = .int i ∧ EW K te Γ fun _ e Γ1 => ∃ j, e = .int j ∧ P.nx (Γ1.set n (.v .lf (.int (gf i j))))) := ⟨SW_augI⟩
-- targets
instance : St1 (GW K (gName n) s d Γ QV) (QV (Γ.set n (.v s d))) := ⟨GW_name⟩
instance : St1 (GsB K gNil [] Γ QV) (QV Γ) := ⟨GsB_nil⟩
instance : St1 (GsB K (gCons g gs) (d :: ds) Γ QV) (GW K g .lf d Γ fun Γ1 => GsB K gs ds Γ1 QV) := ⟨GsB_cons⟩
instance : St1 (GsC K gNil [] Γ vs QV) (QV Γ) := ⟨GsC_nil⟩
instance : St1 (GsC K (gCons g gs) (d :: ds) Γ vs QV) (GC K g .lf d Γ vs fun Γ1 => GsC K gs ds Γ1 vs QV) := ⟨GsC_cons⟩
instance : St1 (GW K (gTup K 2 gs) s (.tuple [d1, d2]) Γ QV) (GsB K gs [d1, d2] Γ QV) := ⟨GW_tupB rfl⟩
instance : St1 (GW K (gTup K 3 gs) s (.tuple [d1, d2, d3]) Γ QV) (GsB K gs [d1, d2, d3] Γ QV) := ⟨GW_tupB rfl⟩
instance {d4 : PyData} : St1 (GW K (gTup K 4 gs) s (.tuple [d1, d2, d3, d4]) Γ QV) (GsB K gs [d1, d2, d3, d4] Γ QV) := ⟨GW_tupB rfl⟩
instance : St1 (GC K (gTup K 2 gs) s (.tuple [d1, d2]) Γ vs QV) (GsC K gs [d1, d2] Γ vs QV) := ⟨GC_tupB rfl⟩
instance : St1 (GC K (gTup K 3 gs) s (.tuple [d1, d2, d3]) Γ vs QV) (GsC K gs [d1, d2, d3] Γ vs QV) := ⟨GC_tupB rfl⟩
-- constants
instance : St1 (EW K (tC (.int i)) Γ QE) (QE .lf (.int i) Γ) := ⟨EW_int⟩
instance : St1 (EW K (tC (.bl b)) Γ QE) (QE .lf (.bool b) Γ) := ⟨EW_bl⟩
instance : St1 (EW K (tC (.str z)) Γ QE) (QE .lf (.str z) Γ) := ⟨EW_str⟩
instance : St1 (EW K (tC .non) Γ QE) (QE .lf .none Γ) := ⟨EW_non⟩
-- operations
instance (priority := 500) : St1 (EW K (tOp r ta tb) Γ QE) (EW K ta Γ fun s d Γ1 => EW K tb Γ1 fun s' e Γ2 => OW K r s d s' e fun s2 d2 => QE s2 d2 Γ2) := ⟨EW_op⟩
class RdC (r : R2) : Prop where
instance : RdC (rEqD K) := ⟨⟩
instance : RdC (rNeD K) := ⟨⟩
instance : RdC (rInD K) := ⟨⟩
instance : RdC (rNotInD K) := ⟨⟩
instance : RdC (rIn K b) := ⟨⟩
instance : RdC rIsN := ⟨⟩
instance : RdC rNotN := ⟨⟩
instance (priority := 700) [RdC r] : St1 (EW K (tOp r (tVar n) tb) Γ QE) (AtB Γ n fun _ _ _ => EW K tb Γ fun s' e Γ2 => AtB Γ2 n fun s d _ => OM K r d e fun s2 d2 => QE s2 d2 Γ2) := ⟨EW_opVB⟩
instance (priority := 600) [RdC r] : St1 (EW K (tOp r ta (tVar n)) Γ QE) (EW K ta Γ fun s d Γ1 => AtB Γ1 n fun s' e _ => OM K r d e fun s2 d2 => QE s2 d2 Γ1) := ⟨EW_opW⟩
instance (priority := 700) : St1 (EW K (tOp (rIxL K) (tVar n) ti) Γ QE) (AtB Γ n fun _ _ _ => EW K ti Γ fun _ e Γ2 => AtB Γ2 n fun s d _ => IxB s d e fun d' => QE .lf d' Γ2) := ⟨EW_ixOB⟩
instance : St1 (OW K (rIxL K) s d s' e Q) (IxB .lf d e fun d' => Q .lf d') := ⟨OW_ixB⟩
instance : St1 (OW K (rIxT K) s d s' e Q) (IxTB d e fun d' => Q .lf d') := ⟨OW_ixTB⟩
instance : St1 (OW K (rEqD K) s d s' e Q) (OM K (rEqD K) d e Q) := ⟨OM.ow⟩
instance : St1 (OW K (rNeD K) s d s' e Q) (OM K (rNeD K) d e Q) := ⟨OM.ow⟩
instance : St1 (OW K (rInD K) s d s' e Q) (OM K (rInD K) d e Q) := ⟨OM.ow⟩
instance : St1 (OW K (rNotInD K) s d s' e Q) (OM K (rNotInD K) d e Q) := ⟨OM.ow⟩
instance : St1 (OW K (rIn K b) s d s' e Q) (OM K (rIn K b) d e Q) := ⟨OM.ow⟩
instance : St1 (OW K rIsN s d s' e Q) (OM K rIsN d e Q) := ⟨OM.ow⟩
instance : St1 (OW K rNotN s d s' e Q) (OM K rNotN d e Q) := ⟨OM.ow⟩
instance [EqC d e b] : St1 (OM K (rEqD K) d e Q) (Q .lf (.bool b)) := ⟨OM_eqD⟩
instance [EqC d e b] : St1 (OM K (rNeD K) d e Q) (Q .lf (.bool (!b))) := ⟨OM_neD⟩
instance [NnC d b] : St1 (OM K rIsN d .none Q) (Q .lf (.bool b)) := ⟨OM_isN⟩
instance [NnC d b] : St1 (OM K rNotN d .none Q) (Q .lf (.bool (!b))) := ⟨OM_notN⟩
instance {ns : List Int} : St1 (OM K (rIn K false) (.int i) (IL ns) Q) (Q .lf (.bool (decide (i ∈ ns)))) := ⟨OM_in⟩
instance {ns : List Int} : St1 (OM K (rIn K true) (.int i) (IL ns) Q) (Q .lf (.bool (!decide (i ∈ ns)))) := ⟨OM_ni⟩
instance {ns : List Int} : St1 (OM K (rIn K false) (.int i) (.tuple (ns.map PyData.int)) Q) (Q .lf (.bool (decide (i ∈ ns)))) := ⟨OM_inT⟩
instance {ns : List Int} {cs : List (List Int)} : St1 (OM K (rInD K) (IL ns) (LD cs) Q) (Q .lf (.bool (decide (ns ∈ cs)))) := ⟨OM_inD (f := IL)⟩
instance {ns : List Int} {cs : List (List Int)} : St1 (OM K (rNotInD K) (IL ns) (LD cs) Q) (Q .lf (.bool (!decide (ns ∈ cs)))) := ⟨OM_niD (f := IL)⟩
instance {x : Rat} {xs : List Rat} : St1 (OM K (rInD K) (FD x) (FL xs) Q) (Q .lf (.bool (decide (x ∈ xs)))) := ⟨OM_inD (f := FD)⟩
instance {x : Rat} {xs : List Rat} : St1 (OM K (rNotInD K) (FD x) (FL xs) Q) (Q .lf (.bool (!decide (x ∈ xs)))) := ⟨OM_niD (f := FD)⟩
instance {gf : Int → Int → Int} : St1 (OW K (rI0 fun i j => .int (gf i j)) s (.int i) s' (.int j) Q) (Q .lf (.int (gf i j))) := ⟨OW_II⟩
instance {gf : Int → Int → Bool} : St1 (OW K (rI0 fun i j => .bl (gf i j)) s (.int i) s' (.int j) Q) (Q .lf (.bool (gf i j))) := ⟨OW_IB⟩
instance : St1 (OW K rEq s (.int i) s' (.int j) Q) (Q .lf (.bool (decide (i = j)))) := ⟨OW_eqI⟩
instance : St1 (OW K rNe s (.int i) s' (.int j) Q) (Q .lf (.bool (!decide (i = j)))) := ⟨OW_neI⟩
instance {a b : Bool} : St1 (OW K rEq s (.bool a) s' (.bool b) Q) (Q .lf (.bool (decide (a = b)))) := ⟨OW_eqB⟩
instance {a b : Bool} : St1 (OW K rNe s (.bool a) s' (.bool b) Q) (Q .lf (.bool (!decide (a = b)))) := ⟨OW_neB⟩
instance {a b : Str} : St1 (OW K rEq s (.str a) s' (.str b) Q) (Q .lf (.bool (decide (a = b)))) := ⟨OW_eqS⟩
instance {a b : Str} : St1 (OW K rNe s (.str a) s' (.str b) Q) (Q .lf (.bool (!decide (a = b)))) := ⟨OW_neS⟩
instance : St1 (EW K (tUn (rU fun i => .int (-i)) ta) Γ QE) (EW K ta Γ fun s d Γ1 => ∃ i, d = .int i ∧ QE .lf (.int (-i)) Γ1) := ⟨EW_neg⟩
-- arguments, displays
instance : St1 (AW K tNil Γ QA) (QA [] Γ) := ⟨AW_nil⟩
instance : St1 (AW K (tCons te tr) Γ QA) (EW K te Γ fun s d Γ1 => AW K tr Γ1 fun bs Γ2 => QA ((s, d) :: bs) Γ2) := ⟨AW_cons⟩
instance : St1 (EW K (tTup tr) Γ QE) (AW K tr Γ fun bs Γ1 => TupB bs fun s d => QE s d Γ1) := ⟨EW_tupB⟩
instance : St1 (EW K (tLst tr) Γ QE) (AW K tr Γ fun bs Γ1 => LstB bs fun s d => QE s d Γ1) := ⟨EW_lstB⟩
-- tests
instance : St1 (TW K (tTest te) Γ QT) (EW K te Γ fun _ d Γ1 => ∃ c, d = .bool c ∧ QT c Γ1) := ⟨TW_test⟩
instance : St1 (TW K (tB te) Γ QT) (EW K te Γ fun _ d Γ1 => ∃ c, d = .bool c ∧ QT c Γ1) := ⟨TW_tB⟩
instance : St1 (TW K (tNot tt) Γ QT) (TW K tt Γ fun c Γ1 => QT (!c) Γ1) := ⟨TW_not⟩
instance : St1 (TW K (tAnd tt tu) Γ QT) (TW K tt Γ fun c Γ1 => if c = true then TW K tu Γ1 QT else QT false Γ1) := ⟨TW_and⟩
instance : St1 (TW K (tOr tt tu) Γ QT) (TW K tt Γ fun c Γ1 => if c = true then QT true Γ1 else TW K tu Γ1 QT) := ⟨TW_or⟩
instance : St1 (TW K tYes Γ QT) (QT true Γ) := ⟨TW_yes⟩
instance : St1 (EW K (tAndV ta tb) Γ QE) (EW K ta Γ fun s d Γ1 => ∃ c, d = .bool c ∧ if c = true then EW K tb Γ1 QE else QE .lf (.bool false) Γ1) := ⟨EW_andV⟩
instance : St1 (EW K (tOrV ta tb) Γ QE) (EW K ta Γ fun s d Γ1 => ∃ c, d = .bool c ∧ if c = true then QE .lf (.bool true) Γ1 else EW K tb Γ1 QE) := ⟨EW_orV⟩
instance : St1 (EW K (tNotV ta) Γ QE) (EW K ta Γ fun s d Γ1 => ∃ c, d = .bool c ∧ QE .lf (.bool (!c)) Γ1) := ⟨EW_notV⟩
instance : St1 (EW K (tIf tt ta tb) Γ QE) (TW K tt Γ fun c Γ1 => if c = true then EW K ta Γ1 QE else EW K tb Γ1 QE) := ⟨EW_if⟩
instance : St1 (EW K (tChain r r' ta tb tc) Γ QE) (EW K ta Γ fun _ d Γ1 => EW K tb Γ1 fun _ e Γ2 => ∃ i j, d = .int i ∧ e = .int j ∧ OW K r .lf (.int i) .lf (.int j) fun _ d2 => ∃ c, d2 = .bool c ∧ if c = true then EW K tc Γ2 fun s3 f Γ3 => OW K r' .lf (.int j) s3 f fun s4 d4 => QE s4 d4 Γ3 else QE .lf (.bool false) Γ2) := ⟨EW_chain⟩
instance {F : Bool → Prop} : St1 (∃ c, PyData.bool b = .bool c ∧ F c) (F b) := ⟨fun q => ⟨_, rfl, q⟩⟩
instance {F : Int → Prop} : St1 (∃ c, PyData.int i = .int c ∧ F c) (F i) := ⟨fun q => ⟨_, rfl, q⟩⟩
instance {F : List PyData → Prop} : St1 (∃ c, PyData.list ds = .list c ∧ F c) (F ds) := ⟨fun q => ⟨_, rfl, q⟩⟩
instance {F : List PyData → Prop} : St1 (∃ c, PyData.tuple ds = .tuple c ∧ F c) (F ds) := ⟨fun q => ⟨_, rfl, q⟩⟩
instance {F : Int → Int → Prop} : St1 (∃ a b, PyData.int i = .int a ∧ PyData.int j = .int b ∧ F a b) (F i j) := ⟨fun q => ⟨_, _, rfl, rfl, q⟩⟩
instance {F : List Int → Prop} {ns : List Int} : St1 (∃ c, IL ns = IL c ∧ F c) (F ns) := ⟨fun q => ⟨_, rfl, q⟩⟩
instance {F : Int → Int → Int → Prop} {x y w : Int} : St1 (∃ a b c, PyData.int x = .int a ∧ PyData.int y = .int b ∧ PyData.int w = .int c ∧ F a b c) (F x y w) := ⟨fun q => ⟨_, _, _, rfl, rfl, rfl, q⟩⟩
-- iterators
instance : St1 (IW K (iList K te) Γ QL) (EW K te Γ fun _ d Γ1 => ∃ ds, d = .list ds ∧ QL ds Γ1) := ⟨IW_list⟩
instance : St1 (IW K (iTup K te) Γ QL) (EW K te Γ fun _ d Γ1 => ∃ ds, d = .tuple ds ∧ QL ds Γ1) := ⟨IW_tup⟩
instance : St1 (IW K (iZip K tr) Γ QL) (AW K tr Γ fun bs Γ1 => ∃ s s' ds es, bs = [(s, .list ds), (s', .list es)] ∧ QL (List.zipWith (fun x y => .tuple [x, y]) ds es) Γ1) := ⟨IW_zip⟩
instance {F : List PyData → List PyData → Prop} : St1 (∃ (a a' : Own) (c c' : List PyData), [(s, PyData.list ds), (s', PyData.list es)] = [(a, .list c), (a', .list c')] ∧ F c c') (F ds es) := ⟨fun q => ⟨_, _, _, _, rfl, q⟩⟩
instance : St1 (IW K (iEnum K tr) Γ QL) (AW K tr Γ fun bs Γ1 => ∃ s ds, bs = [(s, .list ds)] ∧ QL (enumD ds) Γ1) := ⟨IW_enum⟩
instance {F : List PyData → Prop} : St1 (∃ (a : Own) (c : List PyData), [(s, PyData.list ds)] = [(a, .list c)] ∧ F c) (F ds) := ⟨fun q => ⟨_, _, rfl, q⟩⟩
def Rg1B (i : Int) (F : Prop) : Prop := (-(2 ^ 62) ≤ i ∧ i < 2 ^ 62) ∧ F
def Rg2B (i j : Int) (F : Prop) : Prop := (-(2 ^ 62) ≤ i ∧ i < 2 ^ 62 ∧ -(2 ^ 62) ≤ j ∧ j < 2 ^ 62) ∧ F
def Rg1C (i : Int) (F : Nat → Prop) : Prop := (-(2 ^ 62) ≤ i ∧ i < 2 ^ 62) ∧ F i.toNat
theorem Rg1C_i {F : Nat → Prop} (h : -(2 ^ 62) ≤ i ∧ i < 2 ^ 62) (q : F i.toNat) : Rg1C i F := ⟨h, q⟩
theorem Rg1C_n {F : Nat → Prop} (h : n < 2 ^ 62) (q : F n) : Rg1C ((n : Nat) : Int) F := ⟨by omega, q⟩
theorem Rg1C_s {F : Nat → Prop} (h : n < 2 ^ 61) (q : F (n + 1)) : Rg1C (((n : Nat) : Int) + 1) F := ⟨by omega, q⟩
theorem IW_rng1C (q : AW K tr Γ fun bs Γ1 => ∃ s j, bs = [(s, .int j)] ∧ Rg1C j fun m => QL ((List.range m).map fun i : Nat => .int (i : Int)) Γ1) : IW K (iRng1 tr) Γ QL := IW_rng1 q
def Rg2C (i j : Int) (F : List PyData → Prop) : Prop := (-(2 ^ 62) ≤ i ∧ i < 2 ^ 62 ∧ -(2 ^ 62) ≤ j ∧ j < 2 ^ 62) ∧ F ((List.range (j - i).toNat).map fun k : Nat => .int (i + (k : Int)))
theorem Rg2C_i {F : List PyData → Prop} (h : -(2 ^ 62) ≤ i ∧ i < 2 ^ 62 ∧ -(2 ^ 62) ≤ j ∧ j < 2 ^ 62) (q : F ((List.range (j - i).toNat).map fun k : Nat => .int (i + (k : Int)))) : Rg2C i j F := ⟨h, q⟩
theorem Rg2C_of {F : List PyData → Prop} (a c : Nat) (e1 : i = (a : Int)) (e2 : j = (c : Int)) (h1 : a < 2 ^ 62) (h2 : c < 2 ^ 62) (q : F ((List.range (c - a)).map fun k : Nat => .int ((a + k : Nat) : Int))) : Rg2C i j F := by
  subst e1 e2
  refine ⟨by omega, ?_⟩
  rw [show ((c : Int) - (a : Int)).toNat = c - a by omega, show (fun k : Nat => PyData.int ((a : Int) + (k : Int))) = fun k : Nat => .int ((a + k : Nat) : Int) from funext fun k => by rw [Int.natCast_add]]
  exact q
theorem Rg2C_n {a : Nat} {F : List PyData → Prop} (h1 : a < 2 ^ 61) (h2 : n < 2 ^ 61) (q : F ((List.range (n - (a + 1))).map fun k : Nat => .int ((a + 1 + k : Nat) : Int))) : Rg2C ((a : Nat) + 1) ((n : Nat) : Int) F := Rg2C_of (a + 1) n (by omega) rfl (by omega) (by omega) q
theorem Rg2C_1 {F : List PyData → Prop} (h2 : n < 2 ^ 61) (q : F ((List.range (n - 1)).map fun k : Nat => .int ((1 + k : Nat) : Int))) : Rg2C 1 ((n : Nat) : Int) F := Rg2C_of 1 n (by omega) rfl (by omega) (by omega) q
theorem IW_rng2C (q : AW K tr Γ fun bs Γ1 => ∃ s s' i j, bs = [(s, .int i), (s', .int j)] ∧ Rg2C i j fun ds => QL ds Γ1) : IW K (iRng2 tr) Γ QL := IW_rng2 q
theorem IW_rng1B (q : AW K tr Γ fun bs Γ1 => ∃ s j, bs = [(s, .int j)] ∧ Rg1B j (QL ((List.range j.toNat).map fun i : Nat => .int (i : Int)) Γ1)) : IW K (iRng1 tr) Γ QL := IW_rng1 q
theorem IW_rng2B (q : AW K tr Γ fun bs Γ1 => ∃ s s' i j, bs = [(s, .int i), (s', .int j)] ∧ Rg2B i j (QL ((List.range (j - i).toNat).map fun k : Nat => .int (i + (k : Int))) Γ1)) : IW K (iRng2 tr) Γ QL := IW_rng2 q
instance : St1 (IW K (iRng1 tr) Γ QL) (AW K tr Γ fun bs Γ1 => ∃ s j, bs = [(s, .int j)] ∧ Rg1C j fun m => QL ((List.range m).map fun i : Nat => .int (i : Int)) Γ1) := ⟨IW_rng1C⟩
instance : St1 (IW K (iRng2 tr) Γ QL) (AW K tr Γ fun bs Γ1 => ∃ s s' i j, bs = [(s, .int i), (s', .int j)] ∧ Rg2C i j fun ds => QL ds Γ1) := ⟨IW_rng2C⟩
instance {F : Int → Prop} : St1 (∃ (a : Own) (c : Int), [(s, PyData.int i)] = [(a, .int c)] ∧ F c) (F i) := ⟨fun q => ⟨_, _, rfl, q⟩⟩
instance {F : Int → Int → Prop} : St1 (∃ (a a' : Own) (c c' : Int), [(s, PyData.int i), (s', .int j)] = [(a, .int c), (a', .int c')] ∧ F c c') (F i j) := ⟨fun q => ⟨_, _, _, _, rfl, q⟩⟩
-- comprehensions
instance : St1 (EW K (tLc wi g tt te vs) Γ QE) (IW K wi Γ fun ds Γ1 => LcB K ds g tt te vs Γ1 QE) := ⟨EW_lc⟩
-- changes
instance : St1 (EW K (tBM K "list" rAppend (tVar n) (tCons te tNil)) Γ QE) (AtB Γ n fun _ d _ => ∃ es, d = .list es ∧ EW K te Γ fun s d Γ1 => AppB Γ1 n s d fun Γ2 => QE .lf .none Γ2) := ⟨EW_appB⟩
instance : St1 (EW K (tBM K "list" rExtend (tVar n) (tCons te tNil)) Γ QE) (AtB Γ n fun _ d _ => ∃ es, d = .list es ∧ EW K te Γ fun s d Γ1 => ExtB Γ1 n s d fun Γ2 => QE .lf .none Γ2) := ⟨EW_extB⟩
instance : St1 (EW K (tBM0 K "list" rPop (tVar n)) Γ QE) (AtB Γ n fun s d b => ∃ s1 ds e, s = .li s1 ∧ d = .list (ds ++ [e]) ∧ QE s1 e (Γ.set n (b.to (.li s1) (.list ds)))) := ⟨EW_pop⟩
-- calls
instance {pre : List PyData → (Own → PyData → Prop) → Prop} {E : XK} : St1 (EW K (tCall (spV K pre) [] E tr) Γ QE) (AW K tr Γ fun bs Γ1 => SndB bs fun ds => pre ds fun s d => QE s d Γ1) := ⟨EW_callB⟩
instance {pre : Own → PyData → List PyData → (Own → PyData → PyData → Prop) → Prop} {E : XK} : St1 (EW K (tCall (spM K pre) [] E (tCons (tVar n) tr)) Γ QE) (AtB Γ n fun _ _ _ => AW K tr Γ fun bs Γ1 => SndB bs fun ds => AtB Γ1 n fun s d b => pre s d ds fun s2 r d2 => QE s2 r (Γ1.set n (b.to s d2))) := ⟨EW_callMB⟩
-- built-in calls
instance (priority := 500) : St1 (EW K (tCB rc tr) Γ QE) (AW K tr Γ fun bs Γ1 => CW K rc bs fun s d => QE s d Γ1) := ⟨EW_cb⟩
class RcC (rc : List V → Hp → VK → Prop) : Prop where
instance : RcC (rLenSeq K) := ⟨⟩
instance : RcC rLenStr := ⟨⟩
instance : RcC rAbs := ⟨⟩
instance : RcC rInt1 := ⟨⟩
instance : RcC (rSum K) := ⟨⟩
instance : RcC (rMin K) := ⟨⟩
instance : RcC (rMax K) := ⟨⟩
instance : RcC (rAll K) := ⟨⟩
instance : RcC (rAny K) := ⟨⟩
instance : RcC (rSortedI K) := ⟨⟩
instance (priority := 700) [RcC rc] : St1 (EW K (tCB rc (tCons (tVar n) tNil)) Γ QE) (AtB Γ n fun s d _ => CM K rc d fun s2 d2 => QE s2 d2 Γ) := ⟨EW_cbV⟩
instance (priority := 600) [RcC rc] : St1 (CW K rc [(s, d)] Q) (CM K rc d Q) := ⟨CM.cw⟩
instance (priority := 500) : St1 (CM K (rLenSeq K) (.list ds) Q) (Q .lf (.int (ds.length : Nat))) := ⟨CM_len⟩
instance (priority := 500) : St1 (CM K (rLenSeq K) (.tuple ds) Q) (Q .lf (.int (ds.length : Nat))) := ⟨CM_lenT⟩
instance (priority := 600) {α : Type} {f : α → PyData} {xs : List α} : St1 (CM K (rLenSeq K) (.list (xs.map f)) Q) (Q .lf (.int (xs.length : Nat))) := ⟨fun q => CM_len (by rw [List.length_map]; exact q)⟩
instance (priority := 700) {α : Type} {f : List α → PyData} {gg : Nat → Nat → α} : St1 (CM K (rLenSeq K) (.list ((tabG n gg).map f)) Q) (Q .lf (.int (n : Nat))) := ⟨fun q => CM_len (by rw [List.length_map, tabG_len]; exact q)⟩
instance (priority := 700) {α : Type} {f : α → PyData} {gg : Nat → α} : St1 (CM K (rLenSeq K) (.list ((rowG n gg).map f)) Q) (Q .lf (.int (n : Nat))) := ⟨fun q => CM_len (by rw [List.length_map, rowG_len]; exact q)⟩
instance : St1 (CM K rAbs (.int i) Q) (Q .lf (.int (if i < 0 then -i else i))) := ⟨CM_abs⟩
instance : St1 (CM K rInt1 (.int i) Q) (Q .lf (.int i)) := ⟨CM_intI⟩
instance : St1 (CM K rInt1 (.bool b) Q) (Q .lf (.int (if b then 1 else 0))) := ⟨CM_intB⟩
instance {ns : List Int} : St1 (CM K (rSum K) (IL ns) Q) (Q .lf (.int ns.sum)) := ⟨CM_sum⟩
instance : St1 (CW K rMax2 [(s, .int i), (s', .int j)] Q) (Q .lf (.int (if j > i then j else i))) := ⟨CW_max2⟩
instance : St1 (CW K rMin2 [(s, .int i), (s', .int j)] Q) (Q .lf (.int (if j < i then j else i))) := ⟨CW_min2⟩
instance {m : Int} {s3 : Own} : St1 (CW K rMax3 [(s, .int i), (s', .int j), (s3, .int m)] Q) (Q .lf (.int (max (max i j) m))) := ⟨CW_max3⟩
instance {xs : List Bool} : St1 (CM K (rAll K) (.list (xs.map PyData.bool)) Q) (Q .lf (.bool (xs.all id))) := ⟨CM_all⟩
instance {xs : List Bool} : St1 (CM K (rAny K) (.list (xs.map PyData.bool)) Q) (Q .lf (.bool (xs.any id))) := ⟨CM_any⟩
instance : St1 (CW K (rListOf K) [(s, .list ds)] Q) (Q (.li .lf) (.list ds)) := ⟨CW_list⟩
instance : St1 (CW K (rListOf K) [(s, .tuple ds)] Q) (Q (.li .lf) (.list ds)) := ⟨CW_listT⟩
instance {F : Bool → Prop} {T : String} [IsiC d T b] : St1 (∃ b, IsiC d T b ∧ F b) (F b) := ⟨isi_i⟩
instance (priority := 800) {T : String} : St1 (EW K (tCB (rIsi K) (tCons te (tCons (tC (.ty T)) tNil))) Γ QE) (EW K te Γ fun _ d Γ1 => ∃ b, IsiC d T b ∧ QE .lf (.bool b) Γ1) := ⟨EW_isi⟩
-- slices, sets
instance {QO : Option Int → Ev → Prop} : St1 (PW' K tNoPart Γ QO) (QO none Γ) := ⟨PW'_no⟩
instance {QO : Option Int → Ev → Prop} : St1 (PW' K (tPart te) Γ QO) (EW K te Γ fun _ d Γ1 => ∃ i, d = .int i ∧ QO (some i) Γ1) := ⟨PW'_some⟩
instance {tl th : L2.St → Hp → (Option Int → Hp → Prop) → Prop} : St1 (EW K (tSl (rSlL K) te tl th) Γ QE) (EW K te Γ fun _ d Γ1 => PW' K tl Γ1 fun l Γ2 => PW' K th Γ2 fun u Γ3 => ∃ ds, d = .list ds ∧ QE (.li .lf) (.list (cutG ds l u)) Γ3) := ⟨EW_slL⟩
instance : St1 (EW K (tLenSet K te) Γ QE) (EW K te Γ fun _ d Γ1 => ∃ ns : List Int, d = IL ns ∧ ns.length < 2000 ∧ QE .lf (.int ((nub ns).length : Nat)) Γ1) := ⟨EW_lenSet⟩
instance : St1 (EW K (tSortSet K te) Γ QE) (EW K te Γ fun _ d Γ1 => ∃ ns : List Int, d = IL ns ∧ ns.length < 64 ∧ QE (.li .lf) (IL (sortN ns)) Γ1) := ⟨EW_sortSet⟩
instance : St1 (EW K (tLen3 n m k) Γ QE) (AtB Γ n fun _ d1 _ => AtB Γ m fun _ d2 _ => AtB Γ k fun _ d3 _ => ∃ x y z, d1 = .int x ∧ d2 = .int y ∧ d3 = .int z ∧ QE .lf (.int ((nub [x, y, z]).length : Nat)) Γ) := ⟨EW_len3⟩
instance {tg : L2.St → Hp → (Int → Int → Hp → Prop) → Prop} : St1 (EW K (tLstRg tg) Γ QE) (RgW K tg Γ fun i j Γ1 => (0 ≤ i ∧ i ≤ 16777216 ∧ 0 ≤ j ∧ j ≤ 16777216) ∧ QE (.li .lf) (IL (rg i (j - i).toNat)) Γ1) := ⟨EW_lstRg⟩
instance {QR : Int → Int → Ev → Prop} : St1 (RgW K (tRg1 te) Γ QR) (EW K te Γ fun _ d Γ1 => ∃ j, d = .int j ∧ QR 0 j Γ1) := ⟨RgW_1⟩
instance {QR : Int → Int → Ev → Prop} : St1 (RgW K (tRg2 ta tb) Γ QR) (EW K ta Γ fun _ d Γ1 => EW K tb Γ1 fun _ e Γ2 => ∃ i j, d = .int i ∧ e = .int j ∧ QR i j Γ2) := ⟨RgW_2⟩
end
/-! ### boxes: steps with side conditions -/
section
variable {K : PySem.W.Frag} {Γ Γ1 : Ev} {s s' s1 s2 s3 : Own} {d d' e d1 d2 d3 : PyData} {ds es fs : List PyData} {n m k : Nat} {te ta tb tc ti tj : TE} {i j : Int} {Q : Own → PyData → Prop} {QE : Own → PyData → Ev → Prop} {b b0 : Sl}
theorem Rg1B_i {F : Prop} (h : -(2 ^ 62) ≤ i ∧ i < 2 ^ 62) (q : F) : Rg1B i F := ⟨h, q⟩
theorem Rg2B_i {F : Prop} (h : -(2 ^ 62) ≤ i ∧ i < 2 ^ 62 ∧ -(2 ^ 62) ≤ j ∧ j < 2 ^ 62) (q : F) : Rg2B i j F := ⟨h, q⟩
/-- two lists put together -/
class CatC (ds es : List PyData) (fs : outParam (List PyData)) : Prop where pf : ds ++ es = fs
instance (priority := 500) : CatC ds es (ds ++ es) := ⟨rfl⟩
instance (priority := 900) {α : Type} {f : α → PyData} {xs ys : List α} : CatC (xs.map f) (ys.map f) ((xs ++ ys).map f) := ⟨List.map_append.symm⟩
instance (priority := 950) {α : Type} {f : α → PyData} {xs : List α} {x : α} : CatC (xs.map f) [f x] ((xs ++ [x]).map f) := ⟨by rw [List.map_append]; rfl⟩
instance (priority := 940) {α : Type} {f : α → PyData} {xs : List α} {x : α} : CatC [f x] (xs.map f) ((x :: xs).map f) := ⟨rfl⟩
theorem AppB_c {F : Ev → Prop} (h : Γ[n]? = some b) (hb : b.bx = some (.li s1, .list ds)) (c : CatC ds [d] fs) (hs : s = s1 ∨ s1 = .lf) (z : ds.length < 100000) (q : F (Γ.set n (b.to (.li s1) (.list fs)))) : AppB Γ n s d F := AppB_i h hb hs z (by rw [c.pf]; exact q)
theorem ExtB_c {F : Ev → Prop} (h : Γ[n]? = some b) (hb : b.bx = some (.li s1, .list ds)) (c : CatC ds es fs) (hs : s = .li s1 ∨ s1 = .lf) (z : ds.length + es.length ≤ 100000) (q : F (Γ.set n (b.to (.li s1) (.list fs)))) : ExtB Γ n s (.list es) F := ExtB_i h hb hs z (by rw [c.pf]; exact q)
theorem OW_catC [c : CatC ds es fs] (z : ds.length + es.length ≤ 100000) (q : Q (.li .lf) (.list fs)) : OW K rCat s (.list ds) s' (.list es) Q := OW_cat z (by rw [c.pf]; exact q)
theorem OW_catAC [c : CatC ds es fs] (z : ds.length + es.length ≤ 100000) (q : Q .lf (.tuple fs)) : OW K (rCatA K) s (.tuple ds) s' (.tuple es) Q := OW_catA z (by rw [c.pf]; exact q)
theorem OW_mul (c : CMulW i j) (q : Q .lf (.int (i * j))) : OW K (rI CMulW fun i j => .int (i * j)) s (.int i) s' (.int j) Q := OW_CI c q
theorem OW_mulA (c : CMulA i j) (q : Q .lf (.int (i * j))) : OW K (rI CMulA fun i j => .int (i * j)) s (.int i) s' (.int j) Q := OW_CI c q
theorem OW_div (c : CDivW i j) (q : Q .lf (.int (i / j))) : OW K (rI CDivW fun i j => .int (i / j)) s (.int i) s' (.int j) Q := OW_CI c q
theorem OW_divV (c : CDivV i j) (q : Q .lf (.int (i.fdiv j))) : OW K (rI CDivV fun i j => .int (i.fdiv j)) s (.int i) s' (.int j) Q := OW_CI c q
theorem OW_mod (c : 0 < j) (q : Q .lf (.int (i % j))) : OW K (rI (fun _ j => 0 < j) fun i j => .int (i % j)) s (.int i) s' (.int j) Q := OW_CI c q
theorem OW_modN (c : j ≠ 0) (q : Q .lf (.int (i.fmod j))) : OW K (rI (fun _ j => j ≠ 0) fun i j => .int (i.fmod j)) s (.int i) s' (.int j) Q := OW_CI c q
theorem OW_pow {z : Int} (c : CPow i j) (e : i ^ j.toNat = z) (q : Q .lf (.int z)) : OW K (rI CPow fun i j => .int (i ^ j.toNat)) s (.int i) s' (.int j) Q := OW_CI (g := fun i j => i ^ j.toNat) c (by show Q .lf (.int (i ^ j.toNat)); rw [e]; exact q)
theorem OW_shl (c : CPow i j) (q : Q .lf (.int (i * 2 ^ j.toNat))) : OW K (rI CPow fun i j => .int (i * 2 ^ j.toNat)) s (.int i) s' (.int j) Q := OW_CI (g := fun i j => i * 2 ^ j.toNat) c q
theorem OW_shr (c : 0 ≤ j) (q : Q .lf (.int (i / 2 ^ j.toNat))) : OW K (rI (fun _ j => 0 ≤ j) fun i j => .int (i / 2 ^ j.toNat)) s (.int i) s' (.int j) Q := OW_CI (C := fun _ j => 0 ≤ j) (g := fun i j => i / 2 ^ j.toNat) c q
theorem CDivW.lit (h0 : 0 < j) (h : j < 2 ^ 1000) : CDivW i j := wide_div (b := 1001) h0 (by
  have : j.natAbs = j.toNat := by omega
  have h2 : (j.toNat : Int) = j := Int.toNat_of_nonneg (by omega)
  have : (j.natAbs : Int) < 2 ^ 1001 := by
    rw [this, h2]
    exact Int.lt_trans h (by decide +kernel)
  exact_mod_cast this) (by decide) (by decide)
/-! the script -/
def SameS (K : PySem.W.Frag) (Γ : Ev) (n : Nat) (a : Addr) (ns : List Int) (B : Prop) : Prop := Γ[n]? = some (.fact (.ref a) fun H => SqL K H a (ns.map V.int)) ∧ B
theorem SameS_i {a : Addr} {ns : List Int} {B : Prop} (h : Γ[n]? = some (.fact (.ref a) fun H => SqL K H a (ns.map V.int))) (q : B) : SameS K Γ n a ns B := ⟨h, q⟩
theorem EW_callSB {pre : List Int → List PyData → (Own → PyData → Prop) → Prop} {E : XK} {tr : TA} {a : Addr} {ns : List Int} (h : Γ[n]? = some (.fact (.ref a) fun H => SqL K H a (ns.map V.int))) (q : AW K tr Γ fun bs Γ1 => SndB bs fun ds => SameS K Γ1 n a ns (pre ns ds fun s d => QE s d Γ1)) : EW K (tCall (spS K pre) [] E (tCons (tVar n) tr)) Γ QE := EW_callS h fun σ H L G S k => q σ H L G S fun bs Γ' vs H' q' => k bs Γ' vs H' ⟨q'.1, q'.2.1, q'.2.2⟩
def IxSB (K : PySem.W.Frag) (Γ : Ev) (n : Nat) (a : Addr) (ns : List Int) (e : PyData) (F : PyData → Prop) : Prop := ∃ i, e = .int i ∧ Γ[n]? = some (.fact (.ref a) fun H => SqL K H a (ns.map V.int)) ∧ 0 ≤ i ∧ i < ns.length ∧ F (.int (ns.getD i.toNat 0))
theorem IxSB_i {a : Addr} {ns : List Int} {F : PyData → Prop} (h : Γ[n]? = some (.fact (.ref a) fun H => SqL K H a (ns.map V.int))) (c : 0 ≤ i ∧ i < ns.length) (q : F (.int (ns.getD i.toNat 0))) : IxSB K Γ n a ns (.int i) F := ⟨i, rfl, h, c.1, c.2, q⟩
theorem EW_ixScrB {a : Addr} {ns : List Int} (h : Γ[n]? = some (.fact (.ref a) fun H => SqL K H a (ns.map V.int))) (q : EW K ti Γ fun _ e Γ1 => IxSB K Γ1 n a ns e fun d => QE .lf d Γ1) : EW K (tOp (rIxL K) (tVar n) ti) Γ QE := EW_ixScr h q
end
/-! ### boxes: cells of tables, pops, displays indexed -/
section
variable {K : PySem.W.Frag} {Γ Γ1 : Ev} {σ : L2.St} {H H' : Hp} {L : List It} {s s' s1 s2 s3 : Own} {d d' e d1 d2 d3 : PyData} {ds es fs : List PyData} {n m k : Nat} {te ta tb tc ti tj : TE} {i j : Int} {Q : Own → PyData → Prop} {QE : Own → PyData → Ev → Prop} {b b0 : Sl} {w v x y : V}
theorem IxB_any {F : PyData → Prop} (h0 : 0 ≤ i) (h1 : i < ds.length) (hp : ∀ d ∈ ds, F d) (hs : s = .lf ∨ s = .li .lf) : IxB s (.list ds) (.int i) F := by
  have hk : i.toNat < ds.length := by omega
  exact ⟨ds, i, ds[i.toNat], rfl, rfl, atI_toNat h0 (List.getElem?_eq_getElem hk), hs, hp _ (List.getElem_mem hk)⟩
def NoLB (s : Own) (d : PyData) (B : Prop) : Prop := lfree s d ∧ B
theorem NoLB_i {B : Prop} (h : lfree s d) (q : B) : NoLB s d B := ⟨h, q⟩
theorem EW_borB (q : EW K te (Γ.map Sl.fz) fun s d _ => NoLB s d (QE s d Γ)) : EW K te Γ QE := EW_bor (q.mono fun _ _ _ h => h)
/-- a cell of a name's table of one's own -/
theorem EW_ix2B (h : Γ[n]? = some b) (hb : b.bx = some (.li (.li s1), d)) (q : EW K (tOp (rIxL K) (tOp (rIxL K) (tVar n) ti) tj) (Γ.map Sl.fz) fun s d _ => NoLB s d (QE s d Γ)) : EW K (tOp (rIxL K) (tOp (rIxL K) (tVar n) ti) tj) Γ QE := EW_borB q
/-- an expression that tells an int and does nothing else -/
def Pu (K : PySem.W.Frag) (te : TE) (Γ : Ev) (i : Int) : Prop := ∀ (σ : L2.St) (H : Hp) (L : List It) (G : VK), Stt K Γ σ H L → G (.int i) H → te σ H G
theorem Pu_var (h : Γ[n]? = some b) (hb : b.bx = some (s, .int i)) : Pu K (tVar n) Γ i := fun σ H L G S k => by
  obtain ⟨w, M, hw, R, _, _⟩ := S.focus h hb
  obtain rfl := sh_int R
  exact ⟨_, hw, k⟩
theorem Pu_c : Pu K (tC (.int i)) Γ i := fun σ H L G S k => k
theorem Pu_op {g : Int → Int → Int} (h1 : Pu K ta Γ i) (h2 : Pu K tb Γ j) : Pu K (tOp (rI0 fun i j => .int (g i j)) ta tb) Γ (g i j) := fun σ H L G S k => h1 σ H L _ S (h2 σ H L _ S ⟨i, j, rfl, rfl, k⟩)
/-- x[i][j] = .. -/
theorem GW_set2 {QV : Ev → Prop} (h : Γ[n]? = some b) (hb : b.bx = some (.li (.li .lf), .list ds)) (p1 : Pu K ti Γ (k : Int)) (p2 : Pu K tj Γ (m : Int)) (h1 : ds[k]? = some (.list es)) (h2 : m < es.length) (q : QV (Γ.set n (b.to (.li (.li .lf)) (.list (ds.set k (.list (es.set m d))))))) : GW K (gSub (tOp (rIxL K) (tVar n) ti) tj rSetL) s d Γ QV := fun σ H L v G S kk => by
  obtain ⟨w, M, hw, R, put, _⟩ := S.focus h hb
  obtain ⟨a, rfl⟩ := sh_lst R
  obtain ⟨_, xs, ea, l, R1⟩ := R.take
  cases ea
  have hk := (List.getElem?_eq_some_iff.mp h1).1
  have hx : xs[k]? = some xs[k] := List.getElem?_eq_getElem (by omega)
  obtain ⟨C, R2, back⟩ := R1.focus2 hx h1
  have hat : H a = some (.lst xs) := R1.topAt
  obtain ⟨r, er⟩ := sh_lst R2
  have R3 : Rp K H (.ow (.li .lf) (.ref r) (.list es) :: .sh v d :: .top a xs :: (C ++ (M ++ L))) := by
    rw [er] at R2
    have R2' : Rp K H (.ow s v d :: .ow (.li .lf) (.ref r) (.list es) :: .top a xs :: (C ++ (M ++ L))) := R2.perm (by
      refine List.Perm.trans ?_ (List.Perm.refl _)
      rw [show (.ow (.li .lf) (.ref r) (.list es) :: .top a xs :: (C ++ (M ++ .ow s v d :: L)) : List It) = (.ow (.li .lf) (.ref r) (.list es) :: .top a xs :: (C ++ M)) ++ .ow s v d :: L by simp]
      refine List.perm_middle.trans ?_
      simp)
    exact R2'.fz.flip
  obtain ⟨ys, er2, ly, R4⟩ := R3.setOw (k := m) h2
  refine ⟨.ref a, hw, p1 σ H _ _ S ⟨a, xs, (k : Int), .ref r, rfl, rfl, SqL.of hat, by rw [← er]; exact atI_nat hx, p2 σ H _ _ S ⟨r, ys, m, m, rfl, rfl, er2, ?_, kk _ _ _ q (put _ _ _ _ ?_)⟩⟩⟩
  · unfold ixN
    rw [if_pos (by omega), if_pos (by omega)]; rfl
  · have R5 := back _ xs (.ref r) _ _ R4
    have e2 : xs.set k (.ref r) = xs := by rw [← er]; exact set_self hx
    rw [e2] at R5
    exact R5.put (by rw [List.length_set]; exact l)
theorem GW_set2T {α : Type} {F : α → PyData} {z : α} {N : Nat} {g : Nat → Nat → α} {QV : Ev → Prop} (h : Γ[n]? = some b) (hb : b.bx = some (.li (.li .lf), .list ((tabG N g).map fun r => .list (r.map F)))) (p1 : Pu K ti Γ (k : Int)) (p2 : Pu K tj Γ (m : Int)) (h1 : k < N) (h2 : m < N) (q : QV (Γ.set n (b.to (.li (.li .lf)) (.list ((tabG N fun a b => if a = k ∧ b = m then z else g a b).map fun r => .list (r.map F)))))) : GW K (gSub (tOp (rIxL K) (tVar n) ti) tj rSetL) s (F z) Γ QV := by
  refine GW_set2 h hb p1 p2 (es := (rowG N (g k)).map F) (by rw [List.getElem?_map, tabG_at h1]; rfl) (by rw [List.length_map, rowG_len]; exact h2) ?_
  have e := tabG_set (g := g) h1 h2 z
  rw [← e, List.map_set, List.map_set, tabG_row h1] at q
  exact q
/-- pop(i) -/
theorem EW_popAt (h : Γ[n]? = some b0) (hb : b0.bx = some (s', d')) (q : EW K ti Γ fun _ e Γ2 => ∃ k : Nat, e = .int (k : Int) ∧ AtB Γ2 n fun s d b => ∃ s1 ds z, s = .li s1 ∧ d = .list ds ∧ ds[k]? = some z ∧ ds.length ≤ 100000 ∧ QE s1 z (Γ2.set n (b.to (.li s1) (.list (ds.eraseIdx k))))) (hd : ∃ ds, d' = .list ds) : EW K (tBM K "list" rPopAt (tVar n) (tCons ti tNil)) Γ QE := fun σ H L G S kk => by
  obtain ⟨w, M0, hw, R0, _, _⟩ := S.focus h hb
  obtain ⟨ds0, rfl⟩ := hd
  obtain ⟨a, rfl, ty⟩ := list_tyV R0
  refine ⟨.ref a, hw, ty, q σ H L _ S fun s2 e Γ2 y H2 ⟨k, e1, b, s3, d3, h2, hb2, s1, ds, z, e2, e3, hz, sz, q2⟩ S2 => ?_⟩
  subst e1 e2 e3
  obtain rfl := S2.int'
  obtain ⟨w2, M, hw2, R, put, _⟩ := S2.tail.focus h2 hb2
  rw [hw] at hw2; cases hw2
  obtain ⟨_, xs, ea, l, R1⟩ := R.take
  cases ea
  have hk := (List.getElem?_eq_some_iff.mp hz).1
  obtain ⟨x0, hx⟩ : ∃ x0, xs[k]? = some x0 := ⟨_, List.getElem?_eq_getElem (by omega)⟩
  have hkx : k < xs.length := by omega
  have e1 : each s1 xs ds = each s1 (xs.take k) (ds.take k) ++ .ow s1 x0 z :: each s1 (xs.drop (k + 1)) (ds.drop (k + 1)) := by
    have ex0 : xs = xs.take k ++ x0 :: xs.drop (k + 1) := by
      have := (List.getElem?_eq_some_iff.mp hx).2
      rw [← this, ← List.drop_eq_getElem_cons hkx, List.take_append_drop]
    have ed0 : ds = ds.take k ++ z :: ds.drop (k + 1) := by
      have := (List.getElem?_eq_some_iff.mp hz).2
      rw [← this, ← List.drop_eq_getElem_cons hk, List.take_append_drop]
    have e0 := each_app (s := s1) (xs := xs.take k) (ds := ds.take k) (ys := x0 :: xs.drop (k + 1)) (es := z :: ds.drop (k + 1)) (by rw [List.length_take, List.length_take]; omega)
    rw [← ex0, ← ed0] at e0
    rw [e0]; rfl
  have e2 : each s1 (xs.eraseIdx k) (ds.eraseIdx k) = each s1 (xs.take k) (ds.take k) ++ each s1 (xs.drop (k + 1)) (ds.drop (k + 1)) := by
    rw [List.eraseIdx_eq_take_drop_succ, List.eraseIdx_eq_take_drop_succ, each_app (by rw [List.length_take, List.length_take]; omega)]
  have R2 := R1.mut (ys := xs.eraseIdx k)
  rw [e1] at R2
  have R3 : Rp K (upd H2 a (.lst (xs.eraseIdx k))) (.top a (xs.eraseIdx k) :: (each s1 (xs.eraseIdx k) (ds.eraseIdx k) ++ (.ow s1 x0 z :: (M ++ L)))) := by
    rw [e2]
    refine R2.perm (List.Perm.cons _ ?_)
    rw [List.append_assoc, List.append_assoc]
    refine List.Perm.append_left _ ?_
    simp only [List.cons_append]
    exact List.perm_middle.symm
  have R4 := R3.put (by rw [List.length_eraseIdx_of_lt (by omega), List.length_eraseIdx_of_lt hk, l])
  refine ⟨a, xs, (k : Int), k, x0, rfl, rfl, R1.topAt, by omega, ?_, ?_, hx, kk _ _ _ _ _ q2 (put _ _ _ _ (R4.perm (List.Perm.cons _ List.perm_middle.symm)))⟩
  · have : ds.length ≤ 100000 := sz
    omega
  · have hki : (k : Int) < (xs.length : Int) := by omega
    unfold seqIndex?
    simp only [show ¬ ((k : Int) < 0) by omega, if_false, show decide ((0 : Int) ≤ (k : Int)) = true from decide_eq_true (by omega), show decide ((k : Int) < (xs.length : Int)) = true from decide_eq_true hki, Bool.and_true, if_true, Int.toNat_natCast]
/-! so many times -/
class RepC (ds : List PyData) (k : Nat) (fs : outParam (List PyData)) : Prop where
  pf : (List.replicate k ds).flatten = fs
instance (priority := 500) : RepC ds k (List.replicate k ds).flatten := ⟨rfl⟩
theorem flat_one {α : Type} (x : α) (k : Nat) : (List.replicate k [x]).flatten = List.replicate k x := by
  induction k with
  | zero => rfl
  | succ k ih => rw [List.replicate_succ, List.flatten_cons, ih, List.replicate_succ]; rfl
instance (priority := 600) : RepC [d] k (List.replicate k d) := ⟨flat_one d k⟩
theorem rep_rowG {α : Type} (F : α → PyData) (x : α) (k : Nat) : List.replicate k (F x) = (rowG k fun _ => x).map F := by
  unfold rowG
  rw [List.map_map]
  induction k with
  | zero => rfl
  | succ k ih => rw [List.range_succ, List.map_append, List.replicate_succ', ih]; rfl
instance (priority := 700) {z : Int} : RepC [.int z] k ((rowG k fun _ => z).map PyData.int) := ⟨(flat_one _ _).trans (rep_rowG PyData.int z k)⟩
instance (priority := 700) {z : Rat} : RepC [FD z] k ((rowG k fun _ => z).map FD) := ⟨(flat_one _ _).trans (rep_rowG FD z k)⟩
theorem OW_repC [c : RepC ds k fs] (h1 : k < 2 ^ 63) (z : ds.length * k ≤ 100000) (q : Q (.li .lf) (.list fs)) : OW K rRep s (.list ds) s' (.int ((k : Nat) : Int)) Q := OW_rep (by omega) (by omega) (by rw [Int.toNat_natCast]; exact z) (by rw [Int.toNat_natCast, c.pf]; exact q)
/-- what a name holds is forgotten -/
theorem SW_un {t : L2.TS} {P : Po} (n : Nat) (q : SW K t (Γ.set n .un) P) : SW K t Γ P := fun σ H L D ⟨I, E, R⟩ k => by
  obtain ⟨I', h1, h2⟩ := E.drop n
  exact q σ H L D ⟨I', h1, h2 _ _ _ R⟩ k
theorem EW_un' (n : Nat) (q : EW K te (Γ.set n .un) QE) : EW K te Γ QE := fun σ H L D ⟨I, E, R⟩ k => by
  obtain ⟨I', h1, h2⟩ := E.drop n
  exact q σ H L D ⟨I', h1, h2 _ _ _ R⟩ k
theorem perm2 {α : Type} {x y a b : α} (h : [x, y].Perm [a, b]) : x = a ∧ y = b ∨ x = b ∧ y = a := by
  have hx : x ∈ [a, b] := h.mem_iff.mp List.mem_cons_self
  simp only [List.mem_cons, List.not_mem_nil, or_false] at hx
  rcases hx with rfl | rfl
  · have := h.cons_inv
    rw [List.perm_singleton] at this
    exact .inl ⟨rfl, (List.cons.inj this).1⟩
  · have := (h.trans (List.Perm.swap _ _ _)).cons_inv
    rw [List.perm_singleton] at this
    exact .inr ⟨rfl, (List.cons.inj this).1⟩
theorem perm3 {α : Type} {x y z a b c : α} (h : [x, y, z].Perm [a, b, c]) : x = a ∧ (y = b ∧ z = c ∨ y = c ∧ z = b) ∨ x = b ∧ (y = a ∧ z = c ∨ y = c ∧ z = a) ∨ x = c ∧ (y = a ∧ z = b ∨ y = b ∧ z = a) := by
  have hx : x ∈ [a, b, c] := h.mem_iff.mp List.mem_cons_self
  simp only [List.mem_cons, List.not_mem_nil, or_false] at hx
  rcases hx with rfl | rfl | rfl
  · exact .inl ⟨rfl, perm2 h.cons_inv⟩
  · exact .inr (.inl ⟨rfl, perm2 (h.trans (List.Perm.swap _ _ _)).cons_inv⟩)
  · exact .inr (.inr ⟨rfl, perm2 (h.trans (((List.Perm.swap _ _ _).cons _).trans (List.Perm.swap _ _ _))).cons_inv⟩)
theorem Rp.dupE : ∀ {vs : List V} {ds : List PyData} {L : List It}, Rp K H (each .lf vs ds ++ L) → Rp K H (each .lf vs ds ++ (each .lf vs ds ++ L))
  | [], _, _, R => by cases ‹List PyData› <;> exact R
  | _ :: _, [], _, R => R
  | v :: vs, d :: ds, L, R => by
    have R1 : Rp K H (.sh v d :: (each .lf vs ds ++ L)) := R
    have R2 : Rp K H (each .lf vs ds ++ .sh v d :: .sh v d :: L) := (R1.dup.perm ((List.perm_middle.symm.cons _).trans List.perm_middle.symm))
    have R3 := Rp.dupE R2
    refine R3.perm ?_
    show (each .lf vs ds ++ (each .lf vs ds ++ .sh v d :: .sh v d :: L)).Perm (.sh v d :: (each .lf vs ds ++ (.sh v d :: (each .lf vs ds ++ L))))
    refine (List.Perm.append_left _ (List.perm_middle.trans (List.perm_middle.cons _))).trans ?_
    exact List.perm_middle
/-- list(x) of a list of shared things -/
theorem EW_listO (h : Γ[n]? = some b) (hb : b.bx = some (.li .lf, .list ds)) (q : QE (.li .lf) (.list ds) Γ) : EW K (tCB (rListOf K) (tCons (tVar n) tNil)) Γ QE := fun σ H L G S k => by
  obtain ⟨w, M, hw, R, put, _⟩ := S.focus h hb
  obtain ⟨a, xs, rfl, l, R1⟩ := R.take
  have ea := R1.topAt
  have R2 : Rp K H (each .lf xs ds ++ (.top a xs :: (M ++ L))) := R1.perm List.perm_middle.symm
  have R3 := Rp.dupE R2
  refine ⟨.ref a, hw, a, xs, rfl, .inl (SqL.of ea), fun p np => ?_⟩
  have R4 : Rp K (upd H p (.lst xs)) (.ow (.li .lf) (.ref p) (.list ds) :: (each .lf xs ds ++ (.top a xs :: (M ++ L)))) := Rp.mkL R3 l np
  have R5 : Rp K (upd H p (.lst xs)) (.top a xs :: (each .lf xs ds ++ (.ow (.li .lf) (.ref p) (.list ds) :: (M ++ L)))) := R4.perm (by
    refine (List.Perm.cons _ List.perm_middle).trans ((List.Perm.swap _ _ _).trans (List.Perm.cons _ List.perm_middle.symm))
    )
  exact k _ _ _ _ _ q (Stt.keep h hb put _ _ ((R5.put l).perm (List.Perm.cons _ List.perm_middle.symm)))
theorem atI_last {α : Type} {xs : List α} {x : α} : atI (xs ++ [x]) (-1) = some x := by
  unfold atI ixN
  rw [if_neg (by omega), if_pos (by rw [List.length_append]; simp only [List.length_cons, List.length_nil]; omega)]
  show (xs ++ [x])[((-1 : Int) + ((xs ++ [x]).length : Nat)).toNat]? = some x
  rw [List.length_append, show ((-1 : Int) + ((xs.length + [x].length : Nat) : Int)).toNat = xs.length by simp only [List.length_cons, List.length_nil]; omega]
  simp
instance {α : Type} {F : α → PyData} {xs : List α} {x : α} : IxC ((xs ++ [x]).map F) (-1) True (F x) := ⟨fun _ => by rw [List.map_append]; exact atI_last⟩
end
/-! ### boxes: zip of lists and of tuples -/
section
variable {X : Cx} {K : PySem.W.Frag}
theorem k_zipA {e e2 : Expr} {ta : TA} {p pos tpos : Pos} {elts : List Expr} {kk : Nat} (hg : Gl X "zip") (hm : X.mg "zip" = none) (ha : PA X [e, e2] ta)
    (hs : starEach [e, e2] X.env = (false, eval e X.env) :: starEach [e2] X.env := by rfl) (hpl : (backTo pos (starEach [e2] X.env)).any (·.1) = false := by rfl) (h : X.K = K := by rfl) :
    PI X (.Tuple elts kk tpos) (.Call (.Name "zip" p) [e, e2] [] pos) (RZ.iZipA K ta) := by subst h; exact RZ.pi_zipA hg hm ha hs hpl
end
section
variable {K : PySem.W.Frag} {Γ : Ev} {tr : TA} {QL : List PyData → Ev → Prop} {ds es : List PyData} {s s' : Own}
def Zt (K : PySem.W.Frag) (a b : Addr) (xs ys : List V) (ds es : List PyData) (H : Hp) : Prop := Tv K a xs ds H ∧ Tv K b ys es H
theorem walks_zipT {a b : Addr} {xs ys : List V} (l : xs.length = ds.length) (l2 : ys.length = es.length) : Walks K (RZ.ItzT K a b) (List.zipWith (fun x y => .tuple [x, y]) ds es) (Zt K a b xs ys ds es) := ⟨fun H h => ⟨xs, ys, h.1.1, h.2.1, by rw [List.length_zipWith]; omega⟩, fun i d H h hd => by
    have hi := (List.getElem?_eq_some_iff.mp hd).1
    rw [List.length_zipWith] at hi
    exact ⟨xs, ys, xs[i]'(by omega), ys[i]'(by omega), h.1.1, h.2.1, List.getElem?_eq_getElem (by omega), List.getElem?_eq_getElem (by omega)⟩,
  fun i d H v H' M hd R hy => by
    obtain ⟨T, x, y, rfl, nT, rfl, hx, hy⟩ := hy
    have h0 := R.psAt
    rw [List.getElem?_zipWith] at hd
    cases h1 : ds[i]? with
    | none => rw [h1] at hd; cases hd
    | some d1 =>
      cases h2 : es[i]? with
      | none => rw [h1, h2] at hd; cases hd
      | some d2 =>
        rw [h1, h2] at hd
        cases hd
        have R1 : Rp K H (.ps (Tv K a xs ds) :: .ps (Zt K a b xs ys ds es) :: M) := R.imp (fun H h => h.1) tv_mono
        have R2 : Rp K H (.ps (Tv K b ys es) :: .ps (Zt K a b xs ys ds es) :: .ps (Tv K a xs ds) :: M) := R1.flip.imp (fun H h => h.2) tv_mono
        have R3 := (R2.tvAt mem_here (hy ys h0.2.1) h2).tvAt (.tail _ (.tail _ (.tail _ mem_here))) (hx xs h0.1.1) h1
        exact (Rp.mk2 R3 nT).fz.wk (.take .here (.drop (.take .here (.drop .refl))))⟩
theorem IW_zipA (q : AW K tr Γ fun bs Γ1 => ∃ s s' ds es, (bs = [(s, .list ds), (s', .list es)] ∨ bs = [(s, .tuple ds), (s', .tuple es)]) ∧ QL (List.zipWith (fun x y => .tuple [x, y]) ds es) Γ1) : IW K (RZ.iZipA K tr) Γ QL := fun σ H L R S k => q σ H L _ S fun bs Γ1 vs H1 ⟨s, s', ds, es, e, q1⟩ l S1 => by
  rcases e with e | e
  · subst e
    match vs, l with
    | [x, y], _ =>
      have S1 : Stt K Γ1 σ H1 (.ow s x (.list ds) :: .ow s' y (.list es) :: L) := S1
      obtain ⟨M, R1, back⟩ := S1.lift (A := [.ow s x (.list ds), .ow s' y (.list es)])
      have R2 := R1.fz.flip.fz
      obtain ⟨b, ys, rfl, l2, h2, R3⟩ := R2.sv mem_here
      obtain ⟨a, xs, rfl, l1, h1, R4⟩ := R3.sv (.tail _ (.tail _ mem_here))
      have R5 : Rp K H1 (.ps (Sv K a xs ds) :: .ps (Sv K b ys es) :: M) := R4.wk (.take .here (.take .here (.drop (.drop .refl))))
      exact ⟨a, b, xs, ys, rfl, .inl ⟨SqL.of h1, SqL.of h2, k _ Γ1 _ _ H1 q1 (walks_zip l1 l2) (back H1 [.ps (Zv K a b xs ys ds es)] R5.both)⟩⟩
  · subst e
    match vs, l with
    | [x, y], _ =>
      have S1 : Stt K Γ1 σ H1 (.ow s x (.tuple ds) :: .ow s' y (.tuple es) :: L) := S1
      obtain ⟨M, R1, back⟩ := S1.lift (A := [.ow s x (.tuple ds), .ow s' y (.tuple es)])
      have R2 := R1.fz.flip.fz
      obtain ⟨b, ys, rfl, l2, h2, R3⟩ := R2.tv mem_here
      obtain ⟨a, xs, rfl, l1, h1, R4⟩ := R3.tv (.tail _ (.tail _ mem_here))
      have R5 : Rp K H1 (.ps (Tv K a xs ds) :: .ps (Tv K b ys es) :: M) := R4.wk (.take .here (.take .here (.drop (.drop .refl))))
      exact ⟨a, b, xs, ys, rfl, .inr ⟨h1, h2, k _ Γ1 _ _ H1 q1 (walks_zipT l1 l2) (back H1 [.ps (Zt K a b xs ys ds es)] R5.both)⟩⟩
instance : St1 (IW K (RZ.iZipA K tr) Γ QL) (AW K tr Γ fun bs Γ1 => ∃ s s' ds es, (bs = [(s, .list ds), (s', .list es)] ∨ bs = [(s, .tuple ds), (s', .tuple es)]) ∧ QL (List.zipWith (fun x y => .tuple [x, y]) ds es) Γ1) := ⟨IW_zipA⟩
instance {F : List PyData → List PyData → Prop} : St1 (∃ (a a' : Own) (c c' : List PyData), ([(s, PyData.list ds), (s', PyData.list es)] = [(a, .list c), (a', .list c')] ∨ [(s, PyData.list ds), (s', PyData.list es)] = [(a, .tuple c), (a', .tuple c')]) ∧ F c c') (F ds es) := ⟨fun q => ⟨_, _, _, _, .inl rfl, q⟩⟩
instance {F : List PyData → List PyData → Prop} : St1 (∃ (a a' : Own) (c c' : List PyData), ([(s, PyData.tuple ds), (s', PyData.tuple es)] = [(a, .list c), (a', .list c')] ∨ [(s, PyData.tuple ds), (s', PyData.tuple es)] = [(a, .tuple c), (a', .tuple c')]) ∧ F c c') (F ds es) := ⟨fun q => ⟨_, _, _, _, .inr rfl, q⟩⟩
end
/-! range with a step of -1 -/
section
variable {K : PySem.W.Frag} {Γ : Ev} {tr : TA} {QL : List PyData → Ev → Prop} {i j : Int}
def Rg3C (i j c : Int) (F : List PyData → Prop) : Prop := c = -1 ∧ (-(2 ^ 62) ≤ i ∧ i < 2 ^ 62 ∧ -(2 ^ 62) ≤ j ∧ j < 2 ^ 62) ∧ F ((List.range (i - j).toNat).map fun k : Nat => .int (i - (k : Int)))
theorem Rg3C_i {F : List PyData → Prop} (h : -(2 ^ 62) ≤ i ∧ i < 2 ^ 62 ∧ -(2 ^ 62) ≤ j ∧ j < 2 ^ 62) (q : F ((List.range (i - j).toNat).map fun k : Nat => .int (i - (k : Int)))) : Rg3C i j (-1) F := ⟨rfl, h, q⟩
theorem walks_rngD {lo : Int} {n : Nat} {f : Nat → PyData} (hf : ∀ i : Nat, f i = .int (lo - i)) : Walks K (Itc lo (-1) n) ((List.range n).map f) (fun _ => True) := ⟨fun H _ => by
    rw [List.length_map, List.length_range]; exact Nat.le_refl _, fun i d H _ h => (rangeD_at h).1,
  fun i d H v H' M h R hy => by
    obtain ⟨rfl, rfl⟩ := hy
    rw [(rangeD_at h).2, hf, show lo + (i : Int) * -1 = lo - (i : Int) by omega]
    exact R.int _⟩
theorem IW_rng3C (q : AW K tr Γ fun bs Γ1 => ∃ s s' s2 i j c, bs = [(s, .int i), (s', .int j), (s2, .int c)] ∧ Rg3C i j c fun ds => QL ds Γ1) : IW K (iRng3 tr) Γ QL := fun σ H L R S k => q σ H L _ S fun bs Γ1 vs H1 ⟨s, s', s2, i, j, c, e, e2, h, q1⟩ l S1 => by
  subst e e2
  match vs, l with
  | [x, y, u], _ =>
    have S1 : Stt K Γ1 σ H1 (.ow s x (.int i) :: .ow s' y (.int j) :: .ow s2 u (.int (-1)) :: L) := S1
    obtain rfl := S1.int'
    obtain rfl := S1.tail.int'
    obtain rfl := S1.tail.tail.int'
    exact ⟨i, j, -1, _, rfl, RgC.neg h.1 h.2.1 h.2.2.1 h.2.2.2, k _ Γ1 _ _ H1 q1 (walks_rngD fun i => rfl) S1.tail.tail.tail.ps1⟩
instance : St1 (IW K (iRng3 tr) Γ QL) (AW K tr Γ fun bs Γ1 => ∃ s s' s2 i j c, bs = [(s, .int i), (s', .int j), (s2, .int c)] ∧ Rg3C i j c fun ds => QL ds Γ1) := ⟨IW_rng3C⟩
instance {s s' s2 : Own} {x y u : Int} {F : Int → Int → Int → Prop} : St1 (∃ (a a' a2 : Own) (c c' c2 : Int), [(s, PyData.int x), (s', .int y), (s2, .int u)] = [(a, .int c), (a', .int c'), (a2, .int c2)] ∧ F c c' c2) (F x y u) := ⟨fun q => ⟨_, _, _, _, _, _, rfl, q⟩⟩
end
/-! ### boxes: texts among texts, lists turned about -/
section
variable {K : PySem.W.Frag} {Γ Γ1 : Ev} {te : TE} {s s' : Own} {d d' e : PyData} {ds es : List PyData} {n k : Nat} {Q : Own → PyData → Prop} {QE : Own → PyData → Ev → Prop}
theorem inV_str {i : Str} {ns : List Str} : inV (.str i) (ns.map V.str) = decide (i ∈ ns) := by
  unfold inV
  induction ns with
  | nil => rfl
  | cons n ns ih =>
    rw [List.map_cons, List.any_cons, ih, Bool.eq_iff_iff]
    simp only [eqV, Bool.or_eq_true, beq_iff_eq, decide_eq_true_eq, List.mem_cons]
    constructor <;> rintro (h | h) <;> first | exact .inl h.symm | exact .inr h
theorem flat_strs {ns : List Str} : (ns.map V.str).all flatV = true := by
  rw [List.all_map]; exact List.all_eq_true.mpr fun _ _ => rfl
theorem dq_strs {H : Hp} {xs : List V} : ∀ {ns : List Str}, DqAll K H xs (ns.map PyData.str) → xs = ns.map V.str := fun {ns} h => by
  induction ns generalizing xs with
  | nil => cases h; rfl
  | cons i ns ih =>
    cases h with
    | cons h1 h2 =>
      cases h1
      rw [ih h2]; rfl
theorem OM_inTS {i : Str} {ns : List Str} (q : Q .lf (.bool (decide (i ∈ ns)))) : OM K (rIn K false) (.str i) (.tuple (ns.map PyData.str)) Q := fun H L G x y s s' R m1 m2 k => by
  have h1 := R.dpOf m1
  cases h1
  obtain ⟨a, xs, rfl, h3, h4⟩ := (R.dpOf m2).tupI
  rw [dq_strs h4] at h3
  exact ⟨a, _, rfl, .inr h3, rfl, flat_strs, by rw [inV_str]; exact k _ _ _ _ q (R.bl _)⟩
theorem OM_niTS {i : Str} {ns : List Str} (q : Q .lf (.bool (!decide (i ∈ ns)))) : OM K (rIn K true) (.str i) (.tuple (ns.map PyData.str)) Q := fun H L G x y s s' R m1 m2 k => by
  have h1 := R.dpOf m1
  cases h1
  obtain ⟨a, xs, rfl, h3, h4⟩ := (R.dpOf m2).tupI
  rw [dq_strs h4] at h3
  exact ⟨a, _, rfl, .inr h3, rfl, flat_strs, by rw [inV_str]; exact k _ _ _ _ q (R.bl _)⟩
theorem OM_inLS {i : Str} {ns : List Str} (q : Q .lf (.bool (decide (i ∈ ns)))) : OM K (rIn K false) (.str i) (.list (ns.map PyData.str)) Q := fun H L G x y s s' R m1 m2 k => by
  have h1 := R.dpOf m1
  cases h1
  obtain ⟨a, xs, rfl, h3, h4⟩ := (R.dpOf m2).lstI
  rw [dq_strs h4] at h3
  exact ⟨a, _, rfl, .inl (SqL.of h3), rfl, flat_strs, by rw [inV_str]; exact k _ _ _ _ q (R.bl _)⟩
theorem OM_niLS {i : Str} {ns : List Str} (q : Q .lf (.bool (!decide (i ∈ ns)))) : OM K (rIn K true) (.str i) (.list (ns.map PyData.str)) Q := fun H L G x y s s' R m1 m2 k => by
  have h1 := R.dpOf m1
  cases h1
  obtain ⟨a, xs, rfl, h3, h4⟩ := (R.dpOf m2).lstI
  rw [dq_strs h4] at h3
  exact ⟨a, _, rfl, .inl (SqL.of h3), rfl, flat_strs, by rw [inV_str]; exact k _ _ _ _ q (R.bl _)⟩
instance {i a b : Str} : St1 (OM K (rIn K false) (.str i) (.tuple [.str a, .str b]) Q) (Q .lf (.bool (decide (i ∈ [a, b])))) := ⟨OM_inTS (ns := [a, b])⟩
instance {i a b : Str} : St1 (OM K (rIn K true) (.str i) (.tuple [.str a, .str b]) Q) (Q .lf (.bool (!decide (i ∈ [a, b])))) := ⟨OM_niTS (ns := [a, b])⟩
instance {i a b c : Str} : St1 (OM K (rIn K false) (.str i) (.tuple [.str a, .str b, .str c]) Q) (Q .lf (.bool (decide (i ∈ [a, b, c])))) := ⟨OM_inTS (ns := [a, b, c])⟩
instance {i a b c : Str} : St1 (OM K (rIn K true) (.str i) (.tuple [.str a, .str b, .str c]) Q) (Q .lf (.bool (!decide (i ∈ [a, b, c])))) := ⟨OM_niTS (ns := [a, b, c])⟩
instance (priority := 900) {i : Str} {ns : List Str} : St1 (OM K (rIn K false) (.str i) (.list (ns.map PyData.str)) Q) (Q .lf (.bool (decide (i ∈ ns)))) := ⟨OM_inLS⟩
instance (priority := 900) {i : Str} {ns : List Str} : St1 (OM K (rIn K true) (.str i) (.list (ns.map PyData.str)) Q) (Q .lf (.bool (!decide (i ∈ ns)))) := ⟨OM_niLS⟩
theorem eqv_str (x y : Str) : PyData.eqv (.str x) (.str y) = decide (x = y) := by
  show (x == y) = decide (x = y)
  rw [Bool.eq_iff_iff, beq_iff_eq, decide_eq_true_eq]
theorem Sh.str {x : Str} {n : Nat} (h : PyData.canLay0 (.str x) = true) : Sh n (.str x) := ⟨h, Nat.zero_le _⟩
theorem OM_eqLS {xs ys : List Str} (h1 : ∀ x ∈ xs, PyData.canLay0 (.str x) = true) (h2 : ∀ x ∈ ys, PyData.canLay0 (.str x) = true) (q : Q .lf (.bool (decide (xs = ys)))) : OM K (rEqD K) (.list (xs.map PyData.str)) (.list (ys.map PyData.str)) Q := OM_eqX
  (Sh.ok (n := 1) (Sh.lst fun d hd => by obtain ⟨x, hx, rfl⟩ := List.mem_map.mp hd; exact Sh.str (h1 x hx)))
  (Sh.ok (n := 1) (Sh.lst fun d hd => by obtain ⟨x, hx, rfl⟩ := List.mem_map.mp hd; exact Sh.str (h2 x hx))) (LM_eqv PyData.str eqv_str xs ys) q
theorem OM_eqS1 {x : Str} {d1 d2 : PyData} {b : Bool} (h1 : PyData.canLay0 (.str x) = true) (h2 : SeqAt.shaped (.tuple [.str x, d1]) = true) (h3 : SeqAt.shaped (.tuple [.str x, d2]) = true) (e : PyData.eqv d1 d2 = b) (q : Q .lf (.bool b)) : OM K (rEqD K) (.tuple [.str x, d1]) (.tuple [.str x, d2]) Q := OM_eqX h2 h3 (by
  rw [← e]
  show (PyData.eqv (.str x) (.str x) && (PyData.eqv d1 d2 && true)) = PyData.eqv d1 d2
  rw [eqv_str, decide_eq_true rfl, Bool.true_and, Bool.and_true]) q
instance (priority := 700) {z : Str} : RepC [.str z] k ((List.replicate k z).map PyData.str) := ⟨(flat_one _ _).trans (by rw [List.map_replicate])⟩
/-- a list of ints turned about -/
theorem EW_revL (q : EW K te Γ fun _ d Γ1 => ∃ ns : List Int, d = IL ns ∧ QE (.li .lf) (IL ns.reverse) Γ1) : EW K (tRevL K te) Γ QE := fun σ H L G S k => q σ H _ _ S fun s d Γ1 x H1 ⟨ns, e, q1⟩ S1 => by
  subst e
  obtain ⟨M, R, back⟩ := S1.lift (A := [.ow s x (IL ns)])
  obtain ⟨a, xs, rfl, h1, h2⟩ := (R.dpOf mem_here).lstI
  rw [dq_ints h2] at h1
  have R2 : Rp K H1 M := R.tail
  exact ⟨a, _, rfl, SqL.of h1, fun p np => k _ _ _ _ _ q1 (back _ [.ow (.li .lf) (.ref p) _] (by rw [← List.map_reverse]; exact R2.mkI np))⟩
instance : St1 (EW K (tRevL K te) Γ QE) (EW K te Γ fun _ d Γ1 => ∃ ns : List Int, d = IL ns ∧ QE (.li .lf) (IL ns.reverse) Γ1) := ⟨EW_revL⟩
end
/-! ### list.index over ints; orders of points -/
theorem k_index {K : PySem.W.Frag} {X : Cx} (h : X.K = K := by rfl) : MtR X "list.index" (rIndex K) := by subst h; exact mt_index
theorem k_re {K : PySem.W.Frag} {X : Cx} {e : Expr} {T : String} {r : V → List V → Hp → VK → Prop} {to : TE} {t : TA} (h : X.K = K) (p : PE X e (tBM X.K T r to t)) : PE X e (tBM K T r to t) := by subst h; exact p
theorem eqV_int (a b : Int) : eqV (.int a) (.int b) = decide (a = b) := by
  by_cases h : a = b
  · subst h; simp [eqV]
  · simp [eqV, h]
theorem g_indexI {K : PySem.W.Frag} {H : Hp} {Q : VK} {L : List Fc.It} {s : Own} {a : Addr} {ns : List Int} {z : Int} (R : Rp K H L) (m : Fc.It.ow s (.ref a) (IL ns) ∈ L) (h : z ∈ ns) (q : Q (.int ((ns.idxOf z : Nat) : Int)) H) : rIndex K (.ref a) [.int z] H Q := by
  have hl := List.idxOf_lt_length_of_mem h
  refine ⟨a, ns.map V.int, .int z, ns.idxOf z, .int z, rfl, rfl, R.ilS m, rfl, flat_ints, ?_, by rw [eqV_int, decide_eq_true rfl], fun k z' hk hz' => ?_, q⟩
  · rw [List.getElem?_map, List.getElem?_eq_getElem hl, List.getElem_idxOf]; rfl
  · rw [List.getElem?_map] at hz'
    have hk2 : k < ns.length := by omega
    rw [List.getElem?_eq_getElem hk2] at hz'
    cases hz'
    rw [eqV_int]
    refine decide_eq_false fun e => ?_
    have := List.not_of_lt_findIdx (p := (· == z)) (xs := ns) (i := k) hk
    simp at this
    exact this e
theorem idxOf_getD {ns : List Int} {z : Int} (h : z ∈ ns) : ns.getD (ns.idxOf z) 0 = z := by
  have hl := List.idxOf_lt_length_of_mem h
  rw [List.getD_eq_getElem?_getD, List.getElem?_eq_getElem hl, List.getElem_idxOf]; rfl
theorem perm_pts {n : Nat} {ps : List Int} (h : ps.Perm (rg 0 n)) (hn : 1 ≤ n) : PtsOk n ps := by
  refine ⟨fun e => ?_, h.nodup_iff.mpr ((rg_rise n).imp fun h => by omega), fun p hp => ?_⟩
  · have := h.length_eq
    rw [e, rg_len] at this
    simp at this; omega
  · have := rg_mem.mp (h.mem_iff.mp hp)
    unfold isPt
    rw [decide_eq_true this.1, decide_eq_true this.2]; rfl
theorem take_pts {n k : Nat} {ps : List Int} (h : PtsOk n ps) (hk : 1 ≤ k) : PtsOk n (ps.take k) := by
  refine ⟨fun e => ?_, h.2.1.sublist (List.take_sublist k ps), fun p hp => h.2.2 p (List.mem_of_mem_take hp)⟩
  have := congrArg List.length e
  rw [List.length_take, List.length_nil] at this
  have l0 : ps.length ≠ 0 := fun e => h.1 (List.eq_nil_of_length_eq_zero e)
  omega
theorem pt_in {n : Nat} {ps : List Int} (h : PtsOk n ps) {p : Int} (hp : p ∈ ps) : 0 ≤ p ∧ p < n := by
  have := h.2.2 p hp
  unfold isPt at this
  simp only [Bool.and_eq_true, decide_eq_true_eq] at this
  exact this
theorem getD_mem {ps : List Int} {k : Nat} (h : k < ps.length) : ps.getD k 0 ∈ ps := by
  rw [List.getD_eq_getElem?_getD, List.getElem?_eq_getElem h]
  exact List.getElem_mem h
/-- points of points -/
theorem sub_pts {n : Nat} {ps fs : List Int} (h : PtsOk n ps) (h2 : PtsOk ps.length fs) : PtsOk n (fs.map fun p => ps.getD p.toNat 0) := by
  refine ⟨fun e => h2.1 (List.map_eq_nil_iff.mp e), ?_, fun p hp => ?_⟩
  · have inj : ∀ a ∈ fs, ∀ b ∈ fs, ps.getD a.toNat 0 = ps.getD b.toNat 0 → a = b := fun a ha b hb e => by
      have a1 := pt_in h2 ha
      have b1 := pt_in h2 hb
      have la : a.toNat < ps.length := by omega
      have lb : b.toNat < ps.length := by omega
      rw [List.getD_eq_getElem?_getD, List.getD_eq_getElem?_getD, List.getElem?_eq_getElem la, List.getElem?_eq_getElem lb] at e
      have e : ps[a.toNat] = ps[b.toNat] := e
      have pw := List.pairwise_iff_getElem.mp h.2.1
      rcases Nat.lt_trichotomy a.toNat b.toNat with c | c | c
      · exact (pw _ _ la lb c e).elim
      · omega
      · exact (pw _ _ lb la c e.symm).elim
    have nd := h2.2.1
    clear h2
    induction fs with
    | nil => exact .nil
    | cons x fs ih =>
      have ⟨n1, n2⟩ := List.nodup_cons.mp nd
      rw [List.map_cons]
      refine List.nodup_cons.mpr ⟨fun hm => ?_, ih (fun a ha b hb => inj a (.tail _ ha) b (.tail _ hb)) n2⟩
      obtain ⟨y, hy, e⟩ := List.mem_map.mp hm
      exact n1 (inj y (.tail _ hy) x (.head _) e ▸ hy)
  · obtain ⟨q, hq, rfl⟩ := List.mem_map.mp hp
    have := pt_in h2 hq
    exact h.2.2 _ (getD_mem (by omega))
/-- where each point stands -/
def backL (n : Nat) (ps : List Int) : List Int := (List.range n).map fun p : Nat => ((ps.idxOf (p : Int) : Nat) : Int)
theorem back_at {n : Nat} {ps : List Int} (h : ps.Perm (rg 0 n)) {i : Nat} (hi : i < n) : (backL n ps).getD i 0 = ((ps.idxOf (i : Int) : Nat) : Int) ∧ ps.getD ((backL n ps).getD i 0).toNat 0 = (i : Int) := by
  have e : (backL n ps).getD i 0 = ((ps.idxOf (i : Int) : Nat) : Int) := by
    unfold backL
    exact rowF_at hi
  refine ⟨e, ?_⟩
  rw [e, Int.toNat_natCast]
  exact idxOf_getD (h.mem_iff.mpr (rg_mem.mpr (by omega)))
theorem back_pts {n : Nat} {ps : List Int} (h : ps.Perm (rg 0 n)) (hn : 1 ≤ n) : PtsOk n (backL n ps) := by
  have hl : ps.length = n := by rw [h.length_eq, rg_len]
  have mem : ∀ i, i < n → (i : Int) ∈ ps := fun i hi => h.mem_iff.mpr (rg_mem.mpr (by omega))
  refine ⟨fun e => ?_, ?_, fun p hp => ?_⟩
  · have := congrArg List.length e
    unfold backL at this
    simp at this; omega
  · unfold backL
    refine List.Pairwise.map _ ?_ (List.nodup_range.imp_of_mem (fun {a b} ha hb hab => (⟨List.mem_range.mp ha, List.mem_range.mp hb, hab⟩ : a < n ∧ b < n ∧ a ≠ b)))
    rintro a b ⟨ha, hb, hab⟩ e
    have e2 : ps.idxOf (a : Int) = ps.idxOf (b : Int) := by omega
    have e3 := idxOf_getD (mem a ha)
    rw [e2, idxOf_getD (mem b hb)] at e3
    omega
  · unfold backL at hp
    obtain ⟨i, hi, rfl⟩ := List.mem_map.mp hp
    have := List.idxOf_lt_length_of_mem (mem i (List.mem_range.mp hi))
    unfold isPt
    rw [decide_eq_true (by omega), decide_eq_true (by omega)]; rfl
/-! ### boxes: lists compared, a place asked, slices backwards -/
section
variable {X : Cx} {K : PySem.W.Frag}
def rOrd (K : PySem.W.Frag) (f : PyData → PyData → Bool) : R2 := fun x y H Q => ∃ d e, Dp K H x d ∧ Dp K H y e ∧ PySem.W.alike d e = true ∧ d ≠ .none ∧ d.depth ≤ 60 ∧ Q (.bl (f d e)) H
def gtData (d e : PyData) : Bool := PySem.W.dataLt e d
def geData (d e : PyData) : Bool := !PySem.W.dataLt d e
def leData (d e : PyData) : Bool := !PySem.W.dataLt e d
theorem k_ltD (hu : X.A.units + 65 < cLine) (h : X.K = K := by rfl) : OpR X (compareOp .Lt) (rOrd K PySem.W.dataLt) := by
  subst h
  intro pins s σ H x y v u Q I rx ry h
  obtain ⟨d, e, hd, he, al, hn, dp, q⟩ := h
  obtain ⟨as, r1⟩ := Dp.reads I d x v hd rx
  obtain ⟨bs, r2⟩ := Dp.reads I e y u he ry
  exact PySem.W.lt_data r1 r2 al hn (by have := Nat.min_le_left d.depth e.depth; omega) ⟨.bl _, H, I, rfl, q⟩
theorem k_gtD (hu : X.A.units + 65 < cLine) (h : X.K = K := by rfl) : OpR X (compareOp .Gt) (rOrd K gtData) := by
  subst h
  intro pins s σ H x y v u Q I rx ry h
  obtain ⟨d, e, hd, he, al, hn, dp, q⟩ := h
  obtain ⟨as, r1⟩ := Dp.reads I d x v hd rx
  obtain ⟨bs, r2⟩ := Dp.reads I e y u he ry
  exact PySem.W.gt_data r1 r2 al hn (by have := Nat.min_le_left d.depth e.depth; omega) ⟨.bl _, H, I, rfl, q⟩
theorem k_geD (hu : X.A.units + 65 < cLine) (h : X.K = K := by rfl) : OpR X (compareOp .GtE) (rOrd K geData) := by
  subst h
  intro pins s σ H x y v u Q I rx ry h
  obtain ⟨d, e, hd, he, al, hn, dp, q⟩ := h
  obtain ⟨as, r1⟩ := Dp.reads I d x v hd rx
  obtain ⟨bs, r2⟩ := Dp.reads I e y u he ry
  exact PySem.W.ge_data r1 r2 al hn (by have := Nat.min_le_left d.depth e.depth; omega) ⟨.bl _, H, I, rfl, q⟩
theorem k_leD (hu : X.A.units + 65 < cLine) (h : X.K = K := by rfl) : OpR X (compareOp .LtE) (rOrd K leData) := by
  subst h
  intro pins s σ H x y v u Q I rx ry h
  obtain ⟨d, e, hd, he, al, hn, dp, q⟩ := h
  obtain ⟨as, r1⟩ := Dp.reads I d x v hd rx
  obtain ⟨bs, r2⟩ := Dp.reads I e y u he ry
  exact PySem.W.le_data r1 r2 al hn (by have := Nat.min_le_left d.depth e.depth; omega) ⟨.bl _, H, I, rfl, q⟩
/-! xs[:0:-1] -/
theorem rvt_pick (items : Array Value) : slicePick items none (some 0) (some (-1)) = items.toList.tail.reverse.toArray := by
  unfold slicePick
  by_cases c : items.size = 0
  · have e : items = #[] := Array.eq_empty_of_size_eq_zero c
    subst e
    rfl
  · have hb : sliceBounds none (some 0) (some (-1)) items.size = ((items.size : Int) - 1, 0, -1) := by
      unfold sliceBounds
      simp only [Option.getD_some]
      rw [if_neg (by decide), if_neg (by omega), if_neg (by decide)]
      congr 2
      omega
    rw [hb]
    show ((sliceRange ((items.size : Int) - 1) 0 (-1)).filterMap (items[·]?)).toArray = _
    have hr : sliceRange ((items.size : Int) - 1) 0 (-1) = ((List.range (items.size - 1)).map fun k => 1 + k).reverse := by
      unfold sliceRange
      have h1 : ¬ ((-1 : Int) > 0) := by decide
      have hc : (if (-1 : Int) > 0 then (if ((items.size : Int) - 1) < 0 then (0 - ((items.size : Int) - 1) + -1 - 1) / -1 else 0) else (if ((items.size : Int) - 1) > 0 then (((items.size : Int) - 1) - 0 - -1 - 1) / (- -1) else 0)).toNat = items.size - 1 := by
        rw [if_neg h1]
        by_cases c2 : ((items.size : Int) - 1) > 0
        · rw [if_pos c2, show (- -1 : Int) = 1 by decide, Int.ediv_one]; omega
        · rw [if_neg c2]; omega
      show (List.range (if (-1 : Int) > 0 then (if ((items.size : Int) - 1) < 0 then (0 - ((items.size : Int) - 1) + -1 - 1) / -1 else 0) else (if ((items.size : Int) - 1) > 0 then (((items.size : Int) - 1) - 0 - -1 - 1) / (- -1) else 0)).toNat).map _ = _
      rw [hc]
      apply List.ext_getElem
      · simp
      · intro i h1 h2
        rw [List.length_map, List.length_range] at h1
        rw [List.getElem_map, List.getElem_reverse, List.getElem_map, List.getElem_range, List.getElem_range, List.length_map, List.length_range]
        omega
    rw [hr, List.filterMap_reverse]
    have h := pick_run items 1 (items.size - 1)
    rw [h]
    congr 2
    rw [← List.drop_one, List.take_of_length_le (by rw [List.length_drop, Array.length_toList]; omega)]
def tRevT (K : PySem.W.Frag) (te : TE) : TE := fun σ H Q => te σ H fun x H1 => ∃ a xs, x = .ref a ∧ SqL K H1 a xs ∧ ∀ p, H1 p = none → Q (.ref p) (upd H1 p (.lst xs.tail.reverse))
theorem pe_revT {te : TE} {e : Expr} {k k0 : Nat} {p0 p1 p2 p3 pos : Pos} (he : PE X e te) : PE X (.Subscript e (.Slice none (some (.Constant (.int 0) k0 p0)) (some (.UnaryOp .USub (.Constant (.int 1) k p1) p2)) p3) pos) (tRevT X.K te) := by
  refine ⟨fun pins s σ H Q I h => ?_⟩
  refine Subscript_ (thn (he.run pins s σ H _ I h) fun v s1 ⟨x, H1, I1, r1, q1⟩ => ?_)
  obtain ⟨a, xs, ex, hx, q⟩ := q1
  subst ex
  cases r1
  have hst : PO X (some (.UnaryOp .USub (.Constant (.int 1) k p1) p2)) (tPart (tUn (rU fun i => .int (-i)) (tC (.int 1)))) := po_some (pe_un un_neg pe_int)
  have hz0 : PO X (some (.Constant (.int 0) k0 p0)) (tPart (tC (.int 0))) := po_some pe_int
  refine wpAny_Slice (thn (po_none.run pins s1 σ H1 (fun o H2 => o = none ∧ H2 = H1) I1 ⟨rfl, rfl⟩) fun vl s2 ⟨l, H2, I2, pl, el, e2⟩ => ?_)
  subst el e2
  refine thn (hz0.run pins s2 σ H2 (fun o H3 => o = some 0 ∧ H3 = H2) I2 ⟨0, rfl, rfl, rfl⟩) fun vu s3 ⟨u, H3, I3, pu, eu, e3⟩ => ?_
  subst eu e3
  refine thn (hst.run pins s3 σ H3 (fun o H4 => o = some (-1) ∧ H4 = H3) I3 ⟨1, rfl, -1, rfl, rfl, rfl⟩) fun vs s4 ⟨o, H4, I4, ps, eo, e4⟩ => ?_
  subst eo e4
  have I5 : Inv X pins σ H4 { s4 with heap := s4.heap.push { cls := .type "slice", data := .fields #[vl, vu, vs] } } := I4.kept (t' := s4.toks) fun b ob q => Heap.get?_push_of_some _ q
  obtain ⟨its, r, ht, hz⟩ := I5.list hx
  have hlen := r.length
  show wpAny (model X.prog X.w) X.A (subscriptTail e (.Slice none (some (.Constant (.int 0) k0 p0)) (some (.UnaryOp .USub (.Constant (.int 1) k p1) p2)) p3) (.ref a) (.ref s4.heap.objs.size)) (EP X pins σ Q) X.xe { s4 with heap := s4.heap.push { cls := .type "slice", data := .fields #[vl, vu, vs] } }
  refine tail_any (ops := [.ref a, .ref s4.heap.objs.size]) ht.isList.typeIs (PySem.slot_list_getitem.lookup) ?_ (by with_unfolding_all rfl)
  refine wpAny_getItem_list_slice ht.isList (Heap.IsSliceOf.new _ vl vu vs) pl pu ps (by decide) ?_ (by rw [List.size_toArray]; omega)
  rw [rvt_pick]
  refine ⟨.ref _, _, I5.laid (t' := s4.toks) (o := .lst xs.tail.reverse) (fun b ob q => Heap.get?_push_of_some _ q) (Nat.le_refl _) ?_, rfl, q _ (I5.hok.fresh (Nat.le_refl _))⟩
  refine ⟨by rw [List.length_reverse, List.length_tail]; omega, _, 0, ?_, Heap.get?_push_size _ rfl⟩
  have r2 : Vals xs.tail its.tail := by cases r with
    | nil => exact .nil
    | cons _ t => exact t
  exact r2.reverse
theorem k_revT {te : TE} {e : Expr} {k k0 : Nat} {p0 p1 p2 p3 pos : Pos} (he : PE X e te) (h : X.K = K := by rfl) : PE X (.Subscript e (.Slice none (some (.Constant (.int 0) k0 p0)) (some (.UnaryOp .USub (.Constant (.int 1) k p1) p2)) p3) pos) (tRevT K te) := by subst h; exact pe_revT he
end
section
variable {K : PySem.W.Frag} {Γ Γ1 : Ev} {te ta tb : TE} {s s' : Own} {d d' e : PyData} {ds es : List PyData} {n k : Nat} {b : Sl} {Q : Own → PyData → Prop} {QE : Own → PyData → Ev → Prop} {f : PyData → PyData → Bool}
theorem EW_revT (q : EW K te Γ fun _ d Γ1 => ∃ ns : List Int, d = IL ns ∧ QE (.li .lf) (IL ns.tail.reverse) Γ1) : EW K (tRevT K te) Γ QE := fun σ H L G S k => q σ H _ _ S fun s d Γ1 x H1 ⟨ns, e, q1⟩ S1 => by
  subst e
  obtain ⟨M, R, back⟩ := S1.lift (A := [.ow s x (IL ns)])
  obtain ⟨a, xs, rfl, h1, h2⟩ := (R.dpOf mem_here).lstI
  rw [dq_ints h2] at h1
  have R2 : Rp K H1 M := R.tail
  exact ⟨a, _, rfl, SqL.of h1, fun p np => k _ _ _ _ _ q1 (back _ [.ow (.li .lf) (.ref p) _] (by rw [← List.map_tail, ← List.map_reverse]; exact R2.mkI np))⟩
instance : St1 (EW K (tRevT K te) Γ QE) (EW K te Γ fun _ d Γ1 => ∃ ns : List Int, d = IL ns ∧ QE (.li .lf) (IL ns.tail.reverse) Γ1) := ⟨EW_revT⟩
theorem dataLt_il (a b : List Int) : PySem.W.dataLt (IL a) (IL b) = decide (a < b) := by
  have h := congrFun (congrFun (PySem.W.dataLe_rows (fun x : List Int => x)) b) a
  have h2 : (!PySem.W.dataLt (IL a) (IL b)) = decide (b ≤ a) := h
  rw [← Bool.not_not (PySem.W.dataLt (IL a) (IL b)), h2]
  by_cases c : a < b
  · rw [decide_eq_true c, decide_eq_false (List.not_le.mpr c)]; rfl
  · rw [decide_eq_false c, decide_eq_true (List.not_lt.mp c)]; rfl
theorem OM_ordI {x y : List Int} (q : Q .lf (.bool (f (IL x) (IL y)))) : OM K (rOrd K f) (IL x) (IL y) Q := fun H L G u v s s' R m1 m2 k =>
  ⟨IL x, IL y, dq_dp _ _ (R.dpOf m1), dq_dp _ _ (R.dpOf m2), PySem.W.alike_ints x y, nofun, Nat.le_trans Sh.il.2 (by decide), k _ _ _ _ q (R.bl _)⟩
instance : RdC (rOrd K f) := ⟨⟩
instance : St1 (OW K (rOrd K f) s d s' e Q) (OM K (rOrd K f) d e Q) := ⟨OM.ow⟩
instance {x y : List Int} : St1 (OM K (rOrd K PySem.W.dataLt) (IL x) (IL y) Q) (Q .lf (.bool (decide (x < y)))) := ⟨fun q => OM_ordI (by rw [dataLt_il]; exact q)⟩
instance {x y : List Int} : St1 (OM K (rOrd K gtData) (IL x) (IL y) Q) (Q .lf (.bool (decide (y < x)))) := ⟨fun q => OM_ordI (by unfold gtData; rw [dataLt_il]; exact q)⟩
instance {x y : List Int} : St1 (OM K (rOrd K geData) (IL x) (IL y) Q) (Q .lf (.bool (!decide (x < y)))) := ⟨fun q => OM_ordI (by unfold geData; rw [dataLt_il]; exact q)⟩
instance {x y : List Int} : St1 (OM K (rOrd K leData) (IL x) (IL y) Q) (Q .lf (.bool (!decide (y < x)))) := ⟨fun q => OM_ordI (by unfold leData; rw [dataLt_il]; exact q)⟩
/-- the place of a number in a name's list -/
theorem EW_index (q : AtB Γ n fun _ d _ => ∃ ns : List Int, d = IL ns ∧ EW K te Γ fun _ e Γ1 => AtB Γ1 n fun _ d' _ => d' = IL ns ∧ ∃ z, e = .int z ∧ z ∈ ns ∧ QE .lf (.int ((ns.idxOf z : Nat) : Int)) Γ1) : EW K (tBM K "list" (rIndex K) (tVar n) (tCons te tNil)) Γ QE := fun σ H L G S k => by
  obtain ⟨b, s, d, h, hb, ns, rfl, q⟩ := q
  obtain ⟨w, M, hw, R, put, _⟩ := S.focus h hb
  obtain ⟨a, rfl, ty⟩ := list_tyV R
  refine ⟨.ref a, hw, ty, q σ H L _ S fun s' e Γ1 y H1 ⟨b1, s1, d1, h1, hb1, ed, z, ez, hz, q1⟩ S1 => ?_⟩
  subst ed ez
  obtain rfl := S1.int'
  obtain ⟨w2, M2, hw2, R2, put2, _⟩ := S1.tail.focus h1 hb1
  rw [hw] at hw2; cases hw2
  exact g_indexI R2 mem_here hz (k _ _ _ _ _ q1 (S1.tail.flat (.int _) rfl))
end
/-! ### boxes: chains of three comparisons -/
def tChain3 (r r' r2 : R2) (ta tb tc td : TE) : TE := fun σ H Q => ta σ H fun x H1 => tb σ H1 fun y H2 => r x y H2 fun z H3 => ∃ k, z = .bl k ∧
  (if k = true then tc σ H3 fun w H4 => r' y w H4 fun z2 H5 => ∃ k2, z2 = .bl k2 ∧ (if k2 = true then td σ H5 fun u H6 => r2 w u H6 Q else Q (.bl false) H5) else Q (.bl false) H3)
section
variable {X : Cx} {a b c d : Expr} {ta tb tc td : TE} {pos : Pos}
theorem pt_chain3 {op op' op2 : CmpOp} {r r' r2 : R2} (ho : OpR X (compareOp op) r) (ho' : OpR X (compareOp op') r') (ho2 : OpR X (compareOp op2) r2) (ha : PE X a ta) (hb : PE X b tb) (hc : PE X c tc) (hd : PE X d td)
    (hm : lastMarks [op, op', op2] [b, c, d] = false := by with_unfolding_all rfl) : PT X (.Compare a [op, op', op2] [b, c, d] pos) (tTest (tChain3 r r' r2 ta tb tc td)) := by
  refine ⟨fun pins s σ H Q I h => ?_⟩
  refine isTrue_chain (thn (ha.run pins s σ H _ I h) fun v s1 ⟨x, H1, I1, r1, q1⟩ => test_link (thn (hb.run pins s1 σ H1 _ I1 q1) fun u s2 ⟨y, H2, I2, r2, q2⟩ =>
    thn (ho pins s2 σ H2 x y v u _ I2 r1 r2 q2) fun d s3 ⟨z, H3, I3, r3, k, e, q3⟩ => ?_)) hm
  subst e
  cases r3
  refine wpAny_truthy_bool ?_
  cases k with
  | false =>
    obtain ⟨k', e', q'⟩ := q3
    cases e'
    exact ite_ff ⟨H3, I3, q'⟩
  | true =>
    refine ite_tt (test_link (thn (hc.run pins s3 σ H3 _ I3 q3) fun w' s4 ⟨z', H4, I4, r4, q4⟩ => thn (ho' pins s4 σ H4 y z' u w' _ I4 r2 r4 q4) fun d' s5 ⟨z2, H5, I5, r5, k2, e2, q5⟩ => ?_))
    subst e2
    cases r5
    refine wpAny_truthy_bool ?_
    cases k2 with
    | false =>
      obtain ⟨k', e', q'⟩ := q5
      cases e'
      exact ite_ff ⟨H5, I5, q'⟩
    | true =>
      refine ite_tt (test_last (thn (hd.run pins s5 σ H5 _ I5 q5) fun w2 s6 ⟨z3, H6, I6, r6, q6⟩ => thn (ho2 pins s6 σ H6 z' z3 w' w2 _ I6 r4 r6 q6) fun d2 s7 ⟨z4, H7, I7, r7, k3, e3, q7⟩ => ?_))
      subst e3
      cases r7
      exact wpAny_truthy_bool ⟨H7, I7, q7⟩
end
section
variable {K : PySem.W.Frag} {Γ : Ev} {ta tb tc td : TE} {Q : Own → PyData → Ev → Prop}
theorem EW_chain3 {f1 f2 f3 : Int → Int → Bool} (q : EW K ta Γ fun _ d Γ1 => EW K tb Γ1 fun _ e Γ2 => ∃ i j, d = .int i ∧ e = .int j ∧ if f1 i j = true then EW K tc Γ2 fun _ f Γ3 => ∃ m, f = .int m ∧ if f2 j m = true then EW K td Γ3 fun _ g Γ4 => ∃ p, g = .int p ∧ Q .lf (.bool (f3 m p)) Γ4 else Q .lf (.bool false) Γ3 else Q .lf (.bool false) Γ2) :
    EW K (tChain3 (rI0 fun i j => .bl (f1 i j)) (rI0 fun i j => .bl (f2 i j)) (rI0 fun i j => .bl (f3 i j)) ta tb tc td) Γ Q := fun σ H L G S k => q σ H L _ S fun s d Γ1 x H1 q1 S1 => q1 σ H1 _ _ S1 fun s' e Γ2 y H2 ⟨i, j, e1, e2, q2⟩ S2 => by
  subst e1 e2
  obtain rfl := S2.int'
  obtain rfl := S2.tail.int'
  have S3 := S2.tail.tail
  refine ⟨i, j, rfl, rfl, f1 i j, rfl, ?_⟩
  by_cases c1 : f1 i j = true
  · rw [if_pos c1] at q2 ⊢
    refine q2 σ H2 _ _ S3 fun s3 f Γ3 w H3 ⟨m, e3, q3⟩ S4 => ?_
    subst e3
    obtain rfl := S4.int'
    refine ⟨j, m, rfl, rfl, f2 j m, rfl, ?_⟩
    by_cases c2 : f2 j m = true
    · rw [if_pos c2] at q3 ⊢
      refine q3 σ H3 _ _ S4.tail fun s4 g Γ4 u H4 ⟨p, e4, q4⟩ S5 => ?_
      subst e4
      obtain rfl := S5.int'
      exact ⟨m, p, rfl, rfl, k _ _ _ _ _ q4 (S5.tail.flat (.bl _) rfl)⟩
    · rw [if_neg c2] at q3 ⊢
      exact k _ _ _ _ _ q3 (S4.tail.flat (.bl _) rfl)
  · rw [if_neg c1] at q2 ⊢
    exact k _ _ _ _ _ q2 (S3.flat (.bl _) rfl)
instance {f1 f2 f3 : Int → Int → Bool} : St1 (EW K (tChain3 (rI0 fun i j => .bl (f1 i j)) (rI0 fun i j => .bl (f2 i j)) (rI0 fun i j => .bl (f3 i j)) ta tb tc td) Γ Q) (EW K ta Γ fun _ d Γ1 => EW K tb Γ1 fun _ e Γ2 => ∃ i j, d = .int i ∧ e = .int j ∧ if f1 i j = true then EW K tc Γ2 fun _ f Γ3 => ∃ m, f = .int m ∧ if f2 j m = true then EW K td Γ3 fun _ g Γ4 => ∃ p, g = .int p ∧ Q .lf (.bool (f3 m p)) Γ4 else Q .lf (.bool false) Γ3 else Q .lf (.bool false) Γ2) := ⟨EW_chain3⟩
end
/-! ### boxes: the place of a datum; pairs of places -/
section
variable {K : PySem.W.Frag} {Γ : Ev} {te : TE} {n : Nat} {QE : Own → PyData → Ev → Prop}
theorem k_indexD {X : Cx} (hu : X.A.units + 65 < cLine) (h : X.K = K := by rfl) : MtR X "list.index" (rIndexD K) := by subst h; exact mt_indexD hu
theorem EW_indexD {α : Type} [DecidableEq α] {f : α → PyData} [hf : EqF f] (q : AtB Γ n fun _ d _ => ∃ xs : List α, d = .list (xs.map f) ∧ EW K te Γ fun _ e Γ1 => AtB Γ1 n fun _ d' _ => d' = .list (xs.map f) ∧ ∃ x, e = f x ∧ x ∈ xs ∧ QE .lf (.int ((xs.idxOf x : Nat) : Int)) Γ1) : EW K (tBM K "list" (rIndexD K) (tVar n) (tCons te tNil)) Γ QE := fun σ H L G S k => by
  obtain ⟨b, s, d, h, hb, xs, rfl, q⟩ := q
  obtain ⟨w, M, hw, R, put, _⟩ := S.focus h hb
  obtain ⟨a, rfl, ty⟩ := list_tyV R
  refine ⟨.ref a, hw, ty, q σ H L _ S fun s' e Γ1 y H1 ⟨b1, s1, d1, h1, hb1, ed, x, ex, hx, q1⟩ S1 => ?_⟩
  subst ed ex
  obtain ⟨M1, R1, back1⟩ := S1.lift (A := [.ow s' y (f x)])
  have dy := R1.dpOf mem_here
  obtain ⟨w2, M2, hw2, R2, put2, _⟩ := S1.tail.focus h1 hb1
  rw [hw] at hw2; cases hw2
  have hl := List.idxOf_lt_length_of_mem hx
  refine ⟨a, y, f x, xs.map f, xs.idxOf x, f x, rfl, rfl, dq_dp _ _ (R2.dpOf mem_here), dq_dp _ _ dy, sh_of xs, (hf.sh x).ok (by decide), ?_, by rw [hf.eq]; exact decide_eq_true rfl, fun m z' hm hz' => ?_, k _ _ _ _ _ q1 (S1.tail.flat (.int _) rfl)⟩
  · rw [List.getElem?_map, List.getElem?_eq_getElem hl, List.getElem_idxOf]; rfl
  · rw [List.getElem?_map] at hz'
    have hk2 : m < xs.length := by omega
    rw [List.getElem?_eq_getElem hk2] at hz'
    cases hz'
    rw [hf.eq]
    refine decide_eq_false fun e => ?_
    have := List.not_of_lt_findIdx (p := (· == x)) (xs := xs) (i := m) hm
    simp at this
    exact this e
end
abbrev GD (u : Nat × Nat) : PyData := .tuple [.int (u.1 : Nat), .int (u.2 : Nat)]
instance : EqF GD := ⟨fun u => Sh.mono (Sh.tup (n := 0) fun d hd => by
  simp only [List.mem_cons, List.not_mem_nil, or_false] at hd
  rcases hd with rfl | rfl <;> exact Sh.int) (by decide), fun x y => by
  show (decide ((x.1 : Int) = (y.1 : Int)) && (decide ((x.2 : Int) = (y.2 : Int)) && true)) = decide (x = y)
  obtain ⟨a, b⟩ := x
  obtain ⟨c, d⟩ := y
  by_cases h1 : a = c <;> by_cases h2 : b = d <;> simp [h1, h2] <;> omega⟩
/-! ### boxes: a comprehension that takes over the things of a list of one's own -/
section
variable {K : PySem.W.Frag} {Γ : Ev} {g : TG} {tt : TT} {te : TE} {vs : List Nat} {n : Nat} {b : Sl} {s0 : Own} {ds : List PyData} {Q : Own → PyData → Ev → Prop}
def LcO (K : PySem.W.Frag) (s0 : Own) (ds : List PyData) (g : TG) (tt : TT) (te : TE) (vs : List Nat) (Γ : Ev) (Q : Own → PyData → Ev → Prop) : Prop := ∃ (s : Own) (Pv : Nat → List PyData → Ev → Prop), Pv 0 [] (clr Γ vs) ∧ (∀ i d acc Γ', ds[i]? = some d → Pv i acc Γ' → GC K g s0 d Γ' vs fun Γ2 => TW K tt Γ2 fun b Γ3 => if b = true then EW K te Γ3 fun s2 d2 Γ4 => (s2 = s ∨ s = .lf) ∧ acc.length < 100000 ∧ Pv (i + 1) (acc ++ [d2]) (clr Γ4 vs) else Pv (i + 1) acc (clr Γ3 vs)) ∧ ∀ acc Γ', Pv ds.length acc Γ' → Q (.li s) (.list acc) Γ'
theorem EW_lcO (h : Γ[n]? = some b) (hb : b.bx = some (.li s0, .list ds)) (q : LcO K s0 ds g tt te vs (Γ.set n .un) Q) : EW K (tLc (iList K (tVar n)) g tt te vs) Γ Q := fun σ H L G S k => by
  obtain ⟨s, Pv, h0, hs, hd⟩ := q
  obtain ⟨w, M0, hw, R, _, drop⟩ := S.focus h hb
  obtain ⟨a, xs, rfl, l, R1⟩ := R.take
  have ea := R1.topAt
  have S1 : Stt K (Γ.set n .un) σ H (.top a xs :: (each s0 xs ds ++ L)) := drop H _ (R1.perm (by
    refine (List.Perm.cons _ ?_).trans List.perm_middle.symm
    rw [← List.append_assoc, ← List.append_assoc]
    exact List.perm_append_comm.append_right L))
  refine ⟨.ref a, hw, a, rfl, ⟨xs, SqL.of ea⟩, fun D nD => ?_⟩
  have S2 : Stt K (clr (Γ.set n .un) vs) (wipe σ vs) (upd H D (.lst [])) (.ow (.li s) (.ref D) (.list []) :: .top a xs :: (each s0 xs ds ++ L)) := by
    obtain ⟨I, E, R⟩ := S1.clr vs
    exact ⟨I, E, (R.mkL0 s nD).dim⟩
  refine ⟨fun i m H => m = ds.length - i ∧ i ≤ ds.length ∧ ∃ acc Γ', Pv i acc Γ' ∧ Stt K Γ' (wipe σ vs) H (.ow (.li s) (.ref D) (.list acc) :: .top a xs :: (each s0 (xs.drop i) (ds.drop i) ++ L)), ⟨_, rfl, Nat.zero_le _, [], _, h0, by rw [List.drop_zero, List.drop_zero]; exact S2⟩, ?_⟩
  rintro i m H ⟨rfl, hi, acc, Γ', pv, S⟩
  have S' : Stt K Γ' (wipe σ vs) H (.top a xs :: .ow (.li s) (.ref D) (.list acc) :: (each s0 (xs.drop i) (ds.drop i) ++ L)) := S.perm (.swap _ _ _)
  have eh : SqL K H a xs := by
    obtain ⟨M, R, _⟩ := S'.lift (A := [.top a xs])
    exact SqL.of R.topAt
  by_cases c : i < ds.length
  · have hx : ds[i]? = some ds[i] := List.getElem?_eq_getElem c
    have cx : i < xs.length := by omega
    have exd : xs.drop i = xs[i] :: xs.drop (i + 1) := List.drop_eq_getElem_cons cx
    have edd : ds.drop i = ds[i] :: ds.drop (i + 1) := List.drop_eq_getElem_cons c
    refine .inr ⟨⟨xs, xs[i], eh, List.getElem?_eq_getElem cx⟩, fun H' => ∃ acc Γ', Pv (i + 1) acc Γ' ∧ Stt K Γ' (wipe σ vs) H' (.ow (.li s) (.ref D) (.list acc) :: .top a xs :: (each s0 (xs.drop (i + 1)) (ds.drop (i + 1)) ++ L)), fun H' h => ⟨ds.length - (i + 1), by omega, rfl, c, h⟩, fun v H' hy => ?_⟩
    obtain ⟨rfl, hy⟩ := hy
    have ev := hy xs eh
    rw [List.getElem?_eq_getElem cx] at ev
    cases ev
    rw [exd, edd] at S
    have S2 : Stt K Γ' (wipe σ vs) H' (.ow s0 xs[i] ds[i] :: .ow (.li s) (.ref D) (.list acc) :: .top a xs :: (each s0 (xs.drop (i + 1)) (ds.drop (i + 1)) ++ L)) := S.perm (((List.Perm.swap _ _ _).cons _).trans (List.Perm.swap _ _ _))
    refine hs i _ acc Γ' hx pv (wipe σ vs) H' _ xs[i] _ S2 fun Γ2 σ2 H2 q2 hw S3 => ?_
    rw [wipe_wipe] at hw
    refine ⟨hw, q2 σ2 H2 _ _ S3 fun b Γ3 H3 q3 S4 => ?_⟩
    cases b with
    | false =>
      rw [if_neg (by decide)] at q3 ⊢
      have S5 := S4.clr vs
      rw [hw] at S5
      exact ⟨acc, _, q3, S5⟩
    | true =>
      rw [if_pos rfl] at q3 ⊢
      refine q3 σ2 H3 _ _ S4 fun s2 d2 Γ4 y H4 ⟨hs2, z, q4⟩ S5 => ?_
      have S5 : Stt K Γ4 σ2 H4 (.ow s y d2 :: .ow (.li s) (.ref D) (.list acc) :: .top a xs :: (each s0 (xs.drop (i + 1)) (ds.drop (i + 1)) ++ L)) := by
        rcases hs2 with rfl | rfl
        · exact S5
        · obtain ⟨I, E, R⟩ := S5
          exact ⟨I, E, Rp.dim R.mid.fz⟩
      obtain ⟨M, R, back⟩ := S5.lift (A := [.ow s y d2, .ow (.li s) (.ref D) (.list acc)])
      obtain ⟨ac, e1, l1, R2⟩ := Rp.app R
      have S6 := (back _ [.ow (.li s) (.ref D) (.list (acc ++ [d2]))] R2).clr vs
      rw [hw] at S6
      exact ⟨ac, e1, sz_lt (by rw [l1]; exact z), _, _, q4, S6⟩
  · have e : i = ds.length := by omega
    subst e
    refine .inl ⟨⟨xs, eh, by omega⟩, k _ _ _ _ _ (hd acc Γ' pv) (S.unwipe.wk (.take .here (.drop ?_)))⟩
    rw [List.drop_length, show xs.drop ds.length = [] from List.drop_eq_nil_of_le (by omega)]
    exact .refl
/-- a filter of things of one's own -/
theorem LcO_f {α : Type} {xs : List α} {f : α → PyData} (p : α → Bool) (sz : xs.length ≤ 100000)
    (hs : ∀ x ∈ xs, GC K g s0 (f x) (clr Γ vs) vs fun Γ2 => TW K tt Γ2 fun b Γ3 => b = p x ∧ if b = true then EW K te Γ3 fun s2 d2 Γ4 => s2 = s0 ∧ d2 = f x ∧ clr Γ4 vs = clr Γ vs else clr Γ3 vs = clr Γ vs)
    (hd : Q (.li s0) (.list ((xs.filter p).map f)) (clr Γ vs)) : LcO K s0 (xs.map f) g tt te vs Γ Q := by
  refine ⟨s0, fun i acc Γ' => acc = ((xs.take i).filter p).map f ∧ Γ' = clr Γ vs, ⟨rfl, rfl⟩, ?_, ?_⟩
  · rintro i d acc Γ' hd0 ⟨rfl, rfl⟩
    rw [List.getElem?_map] at hd0
    obtain ⟨x, hx, rfl⟩ := Option.map_eq_some_iff.mp hd0
    clear hd0
    have hi := (List.getElem?_eq_some_iff.mp hx).1
    have ht : xs.take (i + 1) = xs.take i ++ [x] := by rw [List.take_add_one, hx]; rfl
    intro σ H L v G S k
    refine hs x (mem_of_at hx) σ H L v G S fun Γ2 σ' H' q hw S' => k Γ2 σ' H' ?_ hw S'
    intro σ1 H1 L1 G1 S1 k1
    refine q σ1 H1 L1 G1 S1 fun b Γ3 H3 ⟨e, q3⟩ S3 => k1 b Γ3 H3 ?_ S3
    subst e
    have l : (((xs.take i).filter p).map f).length < 100000 := by
      rw [List.length_map]
      have h1 := List.length_filter_le p (xs.take i)
      rw [List.length_take] at h1
      omega
    by_cases c : p x = true
    · rw [if_pos c] at q3 ⊢
      refine q3.mono fun s2 d2 Γ4 ⟨h1, h2, h3⟩ => ⟨.inl h1, l, ?_, h3⟩
      rw [h2, ht, List.filter_append, List.map_append, List.filter_cons_of_pos c]; rfl
    · rw [if_neg c] at q3 ⊢
      refine ⟨?_, q3⟩
      rw [ht, List.filter_append, List.filter_cons_of_neg c]
      simp
  · rintro acc Γ' ⟨rfl, rfl⟩
    rw [List.length_map, List.take_length]
    exact hd
end
theorem Rp.fzEach {K : PySem.W.Frag} {H : Hp} {s : Own} : ∀ {vs : List V} {ds : List PyData} {L : List It}, Rp K H (each s vs ds ++ L) → Rp K H (each .lf vs ds ++ L)
  | [], _, _, R => by cases ‹List PyData› <;> exact R
  | _ :: _, [], _, R => R
  | v :: vs, d :: ds, L, R => by
    have R1 : Rp K H (.ow s v d :: (each s vs ds ++ L)) := R
    have R2 : Rp K H (each s vs ds ++ .sh v d :: L) := Rp.dim R1.fz
    exact (Rp.fzEach R2).mid
theorem SW_fzI {K : PySem.W.Frag} {t : L2.TS} {Γ : Ev} {P : Po} {b : Sl} {s1 : Own} {ds : List PyData} {n : Nat} (h : Γ[n]? = some b) (hb : b.bx = some (.li s1, .list ds)) (q : SW K t (Γ.set n (b.to (.li .lf) (.list ds))) P) : SW K t Γ P := fun σ H L D S k => by
  obtain ⟨w, M, hw, R, put, _⟩ := S.focus h hb
  obtain ⟨a, xs, rfl, l, R1⟩ := R.take
  have R2 : Rp K H (each s1 xs ds ++ (.top a xs :: (M ++ L))) := R1.perm List.perm_middle.symm
  have R4 : Rp K H (.top a xs :: (each .lf xs ds ++ (M ++ L))) := (Rp.fzEach R2).perm List.perm_middle
  exact q σ H L D (put _ _ _ _ (R4.put l)) k
/-! ### boxes: errors -/
/-- isinstance(e, c), isinstance(e, (c, ..)) in the suite that holds e -/
def rIsSu (K : PySem.W.Frag) (a : Addr) (cls : Value) (d : Option Addr) : List V → Hp → VK → Prop := fun xs H Q => ∃ D : Addr, cls = .ref D ∧ d = none ∧ ExcC K D ∧
  ((∃ (c : V) (cv : Value) (b : Bool), xs = [.ref a, c] ∧ (∀ u, RelV c u → u = cv) ∧ PySem.W.kitOne K (.ref D) cv = some b ∧ Q (.bl b) H) ∨
   ∃ (t : Addr) (cs : List V) (cvs : List Value) (b : Bool), xs = [.ref a, .ref t] ∧ SqT K H t cs ∧ (∀ us, Vals cs us → us = cvs) ∧ PySem.W.kitAny K (.ref D) cvs = some b ∧ Q (.bl b) H)
theorem cr_isSu {X : Cx} {a : Addr} {cls : Value} {d : Option Addr} {oe : Obj} {pn : List (Addr × Obj)} (hz : Zc cls d oe) (hf : ∃ vs, oe.data = .fields vs) : CallR (X.suite a ((a, oe) :: pn)) (.builtin "isinstance") (rIsSu X.K a cls d) := by
  intro pins s σ H xs us Q I r h
  obtain ⟨D, rfl, rfl, C, h⟩ := h
  rcases h with ⟨c, cv, b, rfl, hcv, e, q⟩ | ⟨t, cs, cvs, b, rfl, ht, hcv, e, q⟩
  · exact call_isE C hz hf pins s σ H _ us Q I r ⟨c, cv, b, rfl, hcv, e, q⟩
  · match us, r with
    | [_, _], .cons rx (.cons rt .nil) =>
      cases rx; cases rt
      obtain ⟨hget, _⟩ := I.pin (a, oe) (List.mem_append.mpr (.inl List.mem_cons_self))
      obtain ⟨vs, hv⟩ := hf
      have J : PySem.W.InstAt s.heap a oe D none := by
        obtain ⟨oc, od, oda, osl⟩ := oe
        obtain ⟨h1, h2⟩ := hz
        dsimp only at h1 h2 hv
        subst h1 h2 hv
        exact ⟨hget, rfl, rfl, trivial⟩
      obtain ⟨its, rv, ⟨⟨pc, pd, po, ps⟩, ho2, hc2, n2, hd2⟩, _⟩ := I.tuple ht
      dsimp only at hc2 hd2
      subst hc2 hd2
      have ec := hcv _ rv
      subst ec
      exact PySem.W.kia_tup (PySem.W.handS_kitx_exc C.hg C.hk C.hs C.hd C.ha C.hn C.ht C.hm) I.kIn J ho2 e (fun z => nomatch z) fun tk => ⟨.bl b, H, I.kept (t' := tk) fun _ _ z => z, rfl, q⟩
theorem k_isSu {X : Cx} {K : PySem.W.Frag} {a : Addr} {cls : Value} {d : Option Addr} {oe : Obj} {pn : List (Addr × Obj)} (hz : Zc cls d oe) (hf : ∃ vs, oe.data = .fields vs) (h : X.K = K := by rfl) : CallR (X.suite a ((a, oe) :: pn)) (.builtin "isinstance") (rIsSu K a cls d) := by subst h; exact cr_isSu hz hf
/-- a def that raises -/
def spVX (K : PySem.W.Frag) (mg : Str → Option Value) (C : Str) (pre : List PyData → Prop) : Sp := fun vs H _ E => ∃ ds L, vs.length = ds.length ∧ Rp K H (each .lf vs ds ++ L) ∧ pre ds ∧ ∀ D, mg C = some (.ref D) → ∀ H', Rp K H' L → E (.ref D) none H'
section
variable {P : Program} {wd : World} {K : PySem.W.Frag} {mg : Str → Option Value} {base : Heap}
theorem okVX {pre : List PyData → Prop} {C x qual : Str} {st : Stmt} {f : Addr} {fd : FuncData} {N ps : List Str} {k : Nat} (F : Fun K x qual st f fd) (S : FnScope N ps (defScope st)) (l : ∀ ds, pre ds → ds.length = ps.length)
    (hb : ∀ (cdv : Value) (A : Around) (outer : List Env) (s : Shared) (H : Hp) (E : XK), Room k (A.deeper (envOfC qual (defScope st) s.heap.objs.size f cdv)) → ∃ t, PSs (cxOf (L2.CX P wd) P wd K mg base N qual (defScope st) f cdv A outer s H E) (defBody st) t ∧
      ∀ ds, pre ds → SW K t (ds.map (Sl.v .lf) ++ List.replicate (N.length - ds.length) .un) { nx := fun _ => False, rt := fun _ _ _ => False, er := fun H' => ∀ D, mg C = some (.ref D) → E (.ref D) none H' }) : FnOk P wd K mg base (L2.CX P wd) (k + 1) f fd ps (spVX K mg C pre) := by
  refine F.okX S (fun vs H G E ⟨ds, L, l1, _, hp, _⟩ => l1.trans (l ds hp)) (fun cdv A outer s H vs G E hr ⟨ds, L, l1, R, hp, kk⟩ => ?_)
  obtain ⟨t, h1, h2⟩ := hb cdv A outer s H E hr
  exact ⟨t, h1, h2 ds hp (start N vs) H L _ ⟨each .lf vs ds, (EnvR.start l1).uns (by rw [l1, List.length_replicate]), R⟩ ⟨fun _ _ _ q => q.elim, fun _ _ _ _ _ _ q => q.elim, fun _ _ _ q => q.elim, fun _ _ _ q => q.elim, fun H' R' D g => kk D g H' R'⟩⟩
end
section
variable {K : PySem.W.Frag} {mg : Str → Option Value} {Γ Γ1 : Ev} {P : Po} {t : L2.TS} {σ : L2.St} {H H' : Hp} {L I : List It} {n i : Nat} {w : V} {F : Hp → Prop} {tr ta : TA} {Q : Own → PyData → Ev → Prop} {C : Str}
theorem Stt.out (S : Stt K Γ σ H L) : Rp K H L := by
  obtain ⟨I, E, R⟩ := S
  exact R.dropL
/-- here an error goes out -/
theorem SW_er (q : ∀ D σ H, P.er H → t D σ H) : SW K t Γ P := fun σ H L D S k => q D σ H (k.er H S.out)
theorem EnvR.putF (E : EnvR Γ σ I) : ∀ {n : Nat}, Γ[n]? = some .un → ∃ I2, EnvR (Γ.set n (.fact w F)) (σ.set n (some w)) I2 ∧ I2.Perm (.ps F :: I) := by
  induction E with
  | nil => intro n h; simp at h
  | @un E σ I x e ih =>
    intro n h
    cases n with
    | zero => exact ⟨_, .fact e, .refl _⟩
    | succ n =>
      obtain ⟨I2, h1, h2⟩ := ih (n := n) h
      exact ⟨I2, .un h1, h2⟩
  | @v E σ I w0 s0 d0 e ih =>
    intro n h
    cases n with
    | zero => cases h
    | succ n =>
      obtain ⟨I2, h1, h2⟩ := ih (n := n) h
      exact ⟨_, .v h1, (h2.cons _).trans (.swap _ _ _)⟩
  | @pin E σ I w0 s0 d0 e ih =>
    intro n h
    cases n with
    | zero => cases h
    | succ n =>
      obtain ⟨I2, h1, h2⟩ := ih (n := n) h
      exact ⟨_, .pin h1, (h2.cons _).trans (.swap _ _ _)⟩
  | @fact E σ I w0 F0 e ih =>
    intro n h
    cases n with
    | zero => cases h
    | succ n =>
      obtain ⟨I2, h1, h2⟩ := ih (n := n) h
      exact ⟨_, .fact h1, (h2.cons _).trans (.swap _ _ _)⟩
  | @ob bb E σ I a dx C vs fs e l ih =>
    intro n h
    cases n with
    | zero => cases h
    | succ n =>
      obtain ⟨I2, h1, h2⟩ := ih (n := n) h
      exact ⟨_, .ob h1 l, (((h2.append_left (fits fs vs)).trans List.perm_middle).cons _).trans (.swap _ _ _)⟩
theorem Rp.tru (R : Rp K H L) : Rp K H (.ps (fun _ => True) :: L) := by
  obtain ⟨ps, u, r⟩ := R
  exact ⟨_, .cons (p := [_]) rfl u, r.addps (fun _ _ _ _ => trivial) trivial⟩
theorem Stt.holdA (S : Stt K Γ σ H L) (h : n < Γ.length) : Stt K (Γ.set n (.fact w fun _ => True)) (σ.set n (some w)) H L := by
  obtain ⟨I, E, R⟩ := S
  obtain ⟨I1, E1, k⟩ := E.drop n
  obtain ⟨I2, E2, k2⟩ := E1.putF (w := w) (F := fun _ => True) (n := n) (by rw [List.getElem?_set_self h])
  rw [List.set_set] at E2
  exact ⟨I2, E2, Rp.perm (k2.symm.append_right L) (k _ _ _ R).tru⟩
theorem Stt.dropA (S : Stt K Γ σ H L) (h : n < Γ.length) : Stt K (Γ.set n .un) (σ.set n none) H L := by
  obtain ⟨I, E, R⟩ := S
  obtain ⟨I1, E1, k⟩ := E.drop n
  exact ⟨I1, E1.unset n none (by rw [List.getElem?_set_self h]), k _ _ _ R⟩
/-- try: f(..) / except C as e: ts -/
theorem SW_tryX {sp : Sp} {pre : List PyData → Prop} {c : Value} {ts : Addr → Value → Option Addr → L2.TS} {Wout : WX} (hi : i < Γ.length)
    (q : AW K tr Γ fun bs Γ1 => SndB bs fun ds => Γ1.length = Γ.length ∧ pre ds ∧ ∀ X, mg C = some (.ref X) → PySem.W.exmOne K (.ref X) c = some true ∧ ∀ a, SW K (ts a (.ref X) none) (Γ1.set i (.fact (.ref a) fun _ => True)) { P with nx := fun Γ' => Γ'.length = Γ.length ∧ P.nx (Γ'.set i .un), bk := fun _ => False, ct := fun _ => False }) :
    SW K (fun D σ H => tDrop (tCallS (spOr sp (spVX K mg C pre)) (fun σ => WE (wAs K c i ts Wout D) σ) tr) D σ H) Γ P := fun σ H L D S k => q σ H L _ S fun bs Γ1 vs H1 q1 l S1 => by
  obtain ⟨hl, hp, hx⟩ := q1.2
  obtain ⟨M, R, back⟩ := S1.lift (A := zipI vs bs)
  refine .inr ⟨bs.map Prod.snd, M, by rw [l, List.length_map], Rp.fzZ l R, hp, fun X gX H' R' => ?_⟩
  obtain ⟨hex, hts⟩ := hx X gX
  refine ⟨true, hex, fun _ a na => ?_, fun z => nomatch z⟩
  have S2 : Stt K Γ1 σ H' L := back H' [] R'
  refine hts a _ H' L _ (S2.holdA (by rw [hl]; exact hi)) ⟨fun Γ' σ' H2 q2 S3 => k.nx _ _ _ q2.2 (S3.dropA (by rw [q2.1]; exact hi)), fun s d Γ' σ' v H2 q2 S3 => k.rt _ _ _ _ _ _ q2 S3, fun _ _ _ q2 => q2.elim, fun _ _ _ q2 => q2.elim, k.er⟩
theorem EW_isSu {a D : Addr} {b : Bool} {c : V} {cv : Value} (h : Γ[n]? = some (.fact (.ref a) F)) (x : ExcC K D) (hc : ∀ u, RelV c u → u = cv) (k : PySem.W.kitOne K (.ref D) cv = some b) (q : Q .lf (.bool b) Γ) : EW K (tCB (rIsSu K a (.ref D) none) (tCons (tVar n) (tCons (tC c) tNil))) Γ Q := fun σ H L G S kk =>
  ⟨_, (S.factAt h).1, ⟨D, rfl, rfl, x, .inl ⟨c, cv, b, rfl, hc, k, kk _ _ _ _ _ q (S.flat (.bl b) rfl)⟩⟩⟩
theorem EW_isSuT {a D : Addr} {b : Bool} {cs : List Addr} (h : Γ[n]? = some (.fact (.ref a) F)) (x : ExcC K D) (ht : ∀ σ H G, G (cs.map V.ref) H → ta σ H G) (l : cs.length ≤ 1000) (k : PySem.W.kitAny K (.ref D) (cs.map Value.ref) = some b) (q : Q .lf (.bool b) Γ) : EW K (tCB (rIsSu K a (.ref D) none) (tCons (tVar n) (tCons (tTup ta) tNil))) Γ Q := fun σ H L G S kk =>
  ⟨_, (S.factAt h).1, ht _ _ _ ⟨by rw [List.length_map, sizeLine_eq]; omega, fun p np => ⟨D, rfl, rfl, x, .inr ⟨p, cs.map V.ref, cs.map Value.ref, b, rfl, sqT_at, fun us r => valsR r, k, kk _ _ _ _ _ q ((S.same (same_new np)).flat (.bl b) rfl)⟩⟩⟩⟩
/-- what the walk asks where isinstance(e, C) stands -/
def IsSu1 (K : PySem.W.Frag) (Γ : Ev) (n : Nat) (a D : Addr) (c : V) (q : Bool → Prop) : Prop := ∃ F, Γ[n]? = some (.fact (.ref a) F) ∧ ExcC K D ∧ ∃ (cv : Value) (b : Bool), (∀ u, RelV c u → u = cv) ∧ PySem.W.kitOne K (.ref D) cv = some b ∧ q b
def IsSuT (K : PySem.W.Frag) (Γ : Ev) (n : Nat) (a D : Addr) (ta : TA) (q : Bool → Prop) : Prop := ∃ F, Γ[n]? = some (.fact (.ref a) F) ∧ ExcC K D ∧ ∃ (cs : List Addr) (b : Bool), (∀ σ H G, G (cs.map V.ref) H → ta σ H G) ∧ cs.length ≤ 1000 ∧ PySem.W.kitAny K (.ref D) (cs.map Value.ref) = some b ∧ q b
instance (priority := 2000) {a D : Addr} {c : V} : St1 (EW K (tCB (rIsSu K a (.ref D) none) (tCons (tVar n) (tCons (tC c) tNil))) Γ Q) (IsSu1 K Γ n a D c fun b => Q .lf (.bool b) Γ) := ⟨fun ⟨_, h, x, _, _, hc, k, q⟩ => EW_isSu h x hc k q⟩
instance (priority := 2000) {a D : Addr} : St1 (EW K (tCB (rIsSu K a (.ref D) none) (tCons (tVar n) (tCons (tTup ta) tNil))) Γ Q) (IsSuT K Γ n a D ta fun b => Q .lf (.bool b) Γ) := ⟨fun ⟨_, h, x, _, _, ht, l, k, q⟩ => EW_isSuT h x ht l k q⟩
theorem SW_nx (q : P.nx Γ) : SW K L2.Ends.nx Γ P := fun _ _ _ _ S k => k.nx _ _ _ q S
end
section
variable {K : PySem.W.Frag} {d : PyData} {Q : Own → PyData → Prop} {n : Nat}
instance (priority := 850) {a b c x y z : Bool} : EqC (.tuple [.bool a, .bool b, .bool c]) (.tuple [.bool x, .bool y, .bool z]) (decide (a = x ∧ b = y ∧ c = z)) := ⟨rfl, rfl, by cases a <;> cases b <;> cases c <;> cases x <;> cases y <;> cases z <;> rfl⟩
/-- data held against itself -/
theorem OM_eqSame (h : Sh n d) (q : Q .lf (.bool true)) (l : n ≤ 64 := by decide) : OM K (rEqD K) d d Q := OM_eqX (h.ok l) (h.ok l) (SeqAt.eqv_refl d h.1) q
theorem OM_neSame (h : Sh n d) (q : Q .lf (.bool false)) (l : n ≤ 64 := by decide) : OM K (rNeD K) d d Q := OM_neX (b := true) (h.ok l) (h.ok l) (SeqAt.eqv_refl d h.1) q
end
/-! ### boxes: promises by name -/
abbrev Pre := List PyData → (Own → PyData → Prop) → Prop
abbrev PreS := List Int → List PyData → (Own → PyData → Prop) → Prop
abbrev PreM := Own → PyData → List PyData → (Own → PyData → PyData → Prop) → Prop
/-! ### a comprehension that takes over the items of a list of one's own -/
section
variable {K : PySem.W.Frag} {H H' : Hp} {Q : VK} {L L1 : List Fc.It} {a p : Addr} {σ : L2.St} {g : TG} {tt : TT} {te : TE} {vs : List Nat} {Qd : Hp → Prop} {ds0 : List PyData}
theorem lcv_ow (s s' : Own) (f : PyData → Bool) (e : PyData → PyData) (R : Rp K H L) (h : Sel (.ow (.li s) (.ref a) (.list ds0)) L L1) (nL : H p = none) (sz : ds0.length < 100000)
    (turn : ∀ (i : Nat) x d X M H', ds0[i]? = some d → Rp K H' (.ow s x d :: X :: (M ++ L1)) → ∀ (Qy : VK) (Qn : Hp → Prop), (f d = true → ∀ y H4, Rp K H4 (.ow s' y (e d) :: X :: (M ++ L1)) → Qy y H4) → (f d = false → ∀ H4, Rp K H4 (X :: (M ++ L1)) → Qn H4) → g x (wipe σ vs) H' fun σ2 H2 => wipe σ2 vs = wipe σ vs ∧ tt σ2 H2 fun b H3 => if b = true then te σ2 H3 Qy else Qn H3)
    (done : ∀ H', Rp K H' (.ow (.li s') (.ref p) (.list ((ds0.filter f).map e)) :: L1) → Qd H') : LoopC (Itl K a) g tt te vs p σ Qd H := by
  obtain ⟨a', xs, e', l, R⟩ := (R.sel h).take
  cases e'
  refine lco_list (xs := xs) s' (fun i ds L' => ds = ((ds0.take i).filter f).map e ∧ L' = .top a xs :: (each s (xs.drop i) (ds0.drop i) ++ L1)) R nL ⟨rfl, rfl⟩ (by omega) (fun i ds L' X H' ⟨_, z⟩ R' => by subst z; exact SqL.of (R'.topOf (.tail _ mem_here))) ?_ (fun ds L' H' ⟨e1, e2⟩ R' => by
    subst e1 e2
    rw [l, List.take_length, List.drop_length] at R'
    refine done H' (R'.wk (.take .here (.drop (.dropA .refl)))))
  rintro i x ds L' X H' hx ⟨rfl, rfl⟩ R Qy Qn q1 q2
  have hi : i < ds0.length := by rw [← l]; exact (List.getElem?_eq_some_iff.mp hx).1
  have hd : ds0[i]? = some ds0[i] := List.getElem?_eq_getElem hi
  have ex : xs.drop i = x :: xs.drop (i + 1) := by
    have h2 : i < xs.length := by omega
    rw [List.drop_eq_getElem_cons h2]
    rw [List.getElem?_eq_getElem h2] at hx
    cases hx; rfl
  have ed : ds0.drop i = ds0[i] :: ds0.drop (i + 1) := List.drop_eq_getElem_cons hi
  rw [ex, ed] at R
  have R : Rp K H' (.ow s x ds0[i] :: X :: ((.top a xs :: each s (xs.drop (i + 1)) (ds0.drop (i + 1))) ++ L1)) := R.wk (.take (.there (.there .here)) .refl)
  have tk : (ds0.take (i + 1)).filter f = if f ds0[i] then (ds0.take i).filter f ++ [ds0[i]] else (ds0.take i).filter f := by
    rw [List.take_add_one, hd, List.filter_append]
    cases hf : f ds0[i] <;> simp [hf]
  refine turn i x ds0[i] X (.top a xs :: each s (xs.drop (i + 1)) (ds0.drop (i + 1))) H' hd R Qy Qn (fun hf y H4 R4 => q1 y (e ds0[i]) _ H4 ⟨?_, rfl⟩ R4) (fun hf H4 R4 => q2 _ H4 ⟨?_, rfl⟩ R4)
  · rw [tk, if_pos hf, List.map_append]; rfl
  · rw [tk, hf]; rfl
end
/-! ### the splits of a table, by one point more at a time -/
theorem sub_len {n : Nat} {c : List Int} (h1 : c.Pairwise (· < ·)) (h2 : ∀ z ∈ c, 1 ≤ z ∧ z ≤ (n : Int)) : c.length ≤ n := by
  have := (subsL_mem (k := n) (c := c)).mpr ⟨h1, h2⟩
  clear h1 h2
  induction n generalizing c with
  | zero => unfold subsL at this; rw [List.mem_singleton.mp this]; simp
  | succ n ih =>
    unfold subsL at this
    rcases List.mem_append.mp this with h | h
    · have := ih h; omega
    · obtain ⟨d, hd, rfl⟩ := List.mem_map.mp h
      have := ih hd
      rw [List.length_append, List.length_singleton]; omega
def posM (m : Option Int) : Bool := match m with
  | some z => decide (0 < z)
  | none => false
def posB (r : Nat → Nat → Int) (m : Nat) (c : List Int) : Bool := posM (minL (ovL r (prsL c) (prsL (ptsOut m c))))
def someF (k : Nat) (F : List (List Int)) : List (List Int) := ([[(k : Int) + 1]] ++ F) ++ F.map (· ++ [(k : Int) + 1])
def splF (r : Nat → Nat → Int) : Nat → List (List Int)
  | 0 => []
  | k + 1 => (someF k (splF r k)).filter (posB r (k + 2))
theorem splF_len (r : Nat → Nat → Int) : ∀ k, (splF r k).length + 1 ≤ 2 ^ k
  | 0 => Nat.le_refl _
  | k + 1 => by
    have := splF_len r k
    have h2 := List.length_filter_le (posB r (k + 2)) (someF k (splF r k))
    have h3 : (someF k (splF r k)).length = 1 + (splF r k).length + (splF r k).length := by
      unfold someF
      rw [List.length_append, List.length_append, List.length_map]; rfl
    show ((someF k (splF r k)).filter (posB r (k + 2))).length + 1 ≤ 2 ^ (k + 1)
    rw [Nat.pow_succ]; omega
theorem ptsOut_mem {n : Nat} {c : List Int} {z : Int} : z ∈ ptsOut n c ↔ (0 ≤ z ∧ z < n) ∧ z ∉ c := by
  unfold ptsOut
  rw [List.mem_filter, rg_mem]
  simp
theorem posB_ok {r : Nat → Nat → Int} (sy : ∀ i j, r i j = r j i) {n : Nat} {c : List Int} (h0 : c ≠ []) (h1 : ptsOut n c ≠ []) : ∃ z, minL (ovL r (prsL c) (prsL (ptsOut n c))) = some z ∧ Lst (OvP r c (ptsOut n c)) z ∧ posB r n c = decide (0 < z) := by
  obtain ⟨z, e, l⟩ := ovL_ok sy h0 h1
  exact ⟨z, e, l, by unfold posB; rw [e]; rfl⟩
theorem out_ne {n : Nat} {c : List Int} (hn : 1 ≤ n) (h : ∀ z ∈ c, 1 ≤ z) : ptsOut n c ≠ [] := fun e => by
  have : (0 : Int) ∈ ptsOut n c := ptsOut_mem.mpr ⟨by omega, fun z => by have := h 0 z; omega⟩
  rw [e] at this; cases this
/-- fewer points: no less -/
theorem posB_less {r : Nat → Nat → Int} (sy : ∀ i j, r i j = r j i) {n m : Nat} {c d : List Int} (hc : c ≠ []) (hm : 1 ≤ m) (p : ∀ z ∈ d, 1 ≤ z) (sub : ∀ z ∈ c, z ∈ d) (out : ∀ z ∈ ptsOut m c, z ∈ ptsOut n d) (h : posB r n d = true) : posB r m c = true := by
  have hd : d ≠ [] := fun e => by
    cases c with
    | nil => exact hc rfl
    | cons x c => have := sub x (.head _); rw [e] at this; cases this
  have o1 : ptsOut m c ≠ [] := out_ne hm fun z hz => p z (sub z hz)
  have o2 : ptsOut n d ≠ [] := fun e => by
    cases hx : ptsOut m c with
    | nil => exact o1 hx
    | cons x l => have := out x (by rw [hx]; exact .head _); rw [e] at this; cases this
  obtain ⟨z, _, l1, e1⟩ := posB_ok sy hd o2
  obtain ⟨y, _, l2, e2⟩ := posB_ok sy hc o1
  rw [e1] at h
  rw [e2]
  obtain ⟨a, b, c', e', h1, h2, h3, h4, rfl⟩ := l2.1
  have := l1.2 _ ⟨a, b, c', e', sub a h1, sub b h2, out c' h3, out e' h4, rfl⟩
  have := of_decide_eq_true h
  exact decide_eq_true (by omega)
theorem splF_mem {r : Nat → Nat → Int} (sy : ∀ i j, r i j = r j i) : ∀ {k : Nat} {c : List Int}, c ∈ splF r k ↔ c ∈ cutsL k 1 ∧ posB r (k + 1) c = true
  | 0, c => by
    unfold splF
    constructor
    · intro h; cases h
    · rintro ⟨h, _⟩; cases h
  | k + 1, c => by
    unfold splF
    rw [List.mem_filter]
    unfold someF
    rw [List.mem_append, List.mem_append, List.mem_map, List.mem_singleton, cutsL_mem]
    constructor
    · rintro ⟨h, hp⟩
      refine ⟨?_, hp⟩
      rcases h with (rfl | h) | ⟨d, hd, rfl⟩
      · exact ⟨by simp, by simp, fun z hz => by rw [List.mem_singleton.mp hz]; omega⟩
      · obtain ⟨h0, h1, h2⟩ := cutsL_mem.mp ((splF_mem sy).mp h).1
        exact ⟨h0, h1, fun z hz => by have := h2 z hz; omega⟩
      · obtain ⟨h0, h1, h2⟩ := cutsL_mem.mp ((splF_mem sy).mp hd).1
        refine ⟨by simp, List.pairwise_append.mpr ⟨h1, by simp, fun a ha b hb => ?_⟩, fun z hz => ?_⟩
        · rw [List.mem_singleton.mp hb]; have := h2 a ha; omega
        · rcases List.mem_append.mp hz with hz | hz
          · have := h2 z hz; omega
          · rw [List.mem_singleton.mp hz]; omega
    · rintro ⟨⟨h0, h1, h2⟩, hp⟩
      refine ⟨?_, hp⟩
      by_cases e : ((k : Int) + 1) ∈ c
      · obtain ⟨d, t, rfl⟩ := List.append_of_mem e
        have t0 : t = [] := by
          cases t with
          | nil => rfl
          | cons y t =>
            have := h2 y (by simp)
            have := (List.pairwise_cons.mp (List.pairwise_append.mp h1).2.1).1 y (.head _)
            omega
        subst t0
        have dl : ∀ z ∈ d, 1 ≤ z ∧ z < (k : Int) + 1 := fun z hz => by
          have := h2 z (by simp [hz])
          have := (List.pairwise_append.mp h1).2.2 z hz _ (.head _)
          omega
        by_cases d0 : d = []
        · exact .inl (.inl (by rw [d0]; rfl))
        · refine .inr ⟨d, (splF_mem sy).mpr ⟨cutsL_mem.mpr ⟨d0, (List.pairwise_append.mp h1).1, fun z hz => by have := dl z hz; omega⟩, ?_⟩, rfl⟩
          refine posB_less sy (d := d ++ [(k : Int) + 1]) (n := k + 1 + 1) d0 (by omega) (fun z hz => ?_) (fun z hz => by simp [hz]) (fun z hz => ?_) hp
          · rcases List.mem_append.mp hz with hz | hz
            · exact (dl z hz).1
            · rw [List.mem_singleton.mp hz]; omega
          · obtain ⟨z1, z2⟩ := ptsOut_mem.mp hz
            refine ptsOut_mem.mpr ⟨by omega, fun h => ?_⟩
            rcases List.mem_append.mp h with h | h
            · exact z2 h
            · rw [List.mem_singleton.mp h] at z1; omega
      · refine .inl (.inr ((splF_mem sy).mpr ⟨cutsL_mem.mpr ⟨h0, h1, fun z hz => ?_⟩, ?_⟩))
        · have := h2 z hz
          have : z ≠ (k : Int) + 1 := fun h => e (h ▸ hz)
          omega
        · refine posB_less sy (d := c) (n := k + 1 + 1) h0 (by omega) (fun z hz => by have := h2 z hz; omega) (fun z hz => hz) (fun z hz => ?_) hp
          obtain ⟨z1, z2⟩ := ptsOut_mem.mp hz
          exact ptsOut_mem.mpr ⟨by omega, z2⟩
theorem splF_nodup {r : Nat → Nat → Int} (sy : ∀ i j, r i j = r j i) : ∀ k, (splF r k).Nodup
  | 0 => by unfold splF; exact .nil
  | k + 1 => by
    have ih := splF_nodup sy k
    have mx : ∀ c ∈ splF r k, ∀ z ∈ c, z ≤ (k : Int) := fun c hc z hz => by
      have := (cutsL_mem.mp ((splF_mem sy).mp hc).1).2.2 z hz; omega
    unfold splF
    refine List.Pairwise.filter _ ?_
    unfold someF
    refine List.nodup_append.mpr ⟨List.nodup_append.mpr ⟨by simp, ih, fun a ha b hb e => ?_⟩, List.Pairwise.map _ (fun a b h e => h (List.append_cancel_right e)) ih, fun a ha b hb e => ?_⟩
    · rw [List.mem_singleton.mp ha] at e
      have := mx b hb ((k : Int) + 1) (by rw [← e]; simp)
      omega
    · obtain ⟨d, hd, rfl⟩ := List.mem_map.mp hb
      rcases List.mem_append.mp ha with ha | ha
      · rw [List.mem_singleton.mp ha] at e
        have d0 : d = [] := by
          cases d with
          | nil => rfl
          | cons x d =>
            have := congrArg List.length e
            simp at this
        rw [d0] at hd
        exact (cutsL_mem.mp ((splF_mem sy).mp hd).1).1 rfl
      · have := mx a ha ((k : Int) + 1) (by rw [e]; simp)
        omega
theorem splF_perm {r : Nat → Nat → Int} (sy : ∀ i j, r i j = r j i) (k : Nat) : (splF r k).Perm ((cutsL k 1).filter (posB r (k + 1))) :=
  nodup_perm (splF_nodup sy k) ((cutsL_nodup k 1).filter _) fun c => by rw [splF_mem sy, List.mem_filter]
/-- twice the index of a cut -/
def idx (r : Nat → Nat → Int) (n : Nat) (c : List Int) : Int := (minL (ovL4 r c (ptsOut n c))).getD 0
/-- the splits with their weights -/
def splW (n : Nat) (r : Nat → Nat → Int) (b : Int) : List (List Int × Rat) := ((cutsL (n - 1) 1).filter fun c => decide (0 < idx r n c)).map fun c => (c, Rat.divInt (idx r n c) (2 * b))
theorem idx_lst {r : Nat → Nat → Int} {n : Nat} {c : List Int} (h0 : c ≠ []) (h1 : ptsOut n c ≠ []) : minL (ovL4 r c (ptsOut n c)) = some (idx r n c) ∧ Lst (OvP r c (ptsOut n c)) (idx r n c) := by
  obtain ⟨z, e, l⟩ := ovL4_ok (r := r) h0 h1
  unfold idx
  rw [e]
  exact ⟨rfl, l⟩
theorem perm_some {α : Type} (a b c d e f : α) (E1 E2 M : List α) : (a :: b :: (E2 ++ c :: d :: (E1 ++ e :: f :: M))).Perm (b :: c :: d :: e :: a :: ((f :: (E1 ++ E2)) ++ M)) := by
  classical
  rw [List.perm_iff_count]
  intro x
  simp only [List.count_cons, List.count_append]
  omega
/-! ### boxes: things of one's own changed within a result; sorted taking over -/
section
variable {K : PySem.W.Frag} {Γ Γ1 : Ev} {P : Po} {n p q : Nat} {d0 : PyData} {s0 s1 : Own} {us : List (List Int × Rat)} {ds : List PyData} {z : Int} {QE : Own → PyData → Ev → Prop}
theorem Stt.dropG {σ : L2.St} {H : Hp} {L : List It} (S : Stt K Γ σ H L) : Stt K (Γ.set n .un) σ H L := by
  obtain ⟨I, E, R⟩ := S
  obtain ⟨I1, E1, k⟩ := E.drop n
  exact ⟨I1, E1, k _ _ _ R⟩
/-- two slots of no account set -/
theorem Stt.free2 {σ : L2.St} {H : Hp} {L : List It} (S : Stt K Γ σ H L) (hp : Γ[p]? = some .un) (hq : Γ[q]? = some .un) (x y : Option V) : Stt K Γ ((σ.set p x).set q y) H L := by
  obtain ⟨I, E, R⟩ := S
  exact ⟨I, (E.unset p x hp).unset q y hq, R⟩
/-- for side, weight in found[1]: side.append(z) -/
theorem SW_forApp (h : Γ[n]? = some (.v (.t2 s0 (.li (.t2 (.li .lf) .lf))) (.tuple [d0, WD us]))) (np : n ≠ p) (nq : n ≠ q) (pq : p ≠ q) (hp : p < Γ.length) (hq : q < Γ.length) (bl : ∀ u ∈ us, u.1.length < 99999)
    (k : P.nx (((Γ.set p .un).set q .un).set n (.v (.t2 s0 (.li .lf)) (.tuple [d0, WD (us.map fun u => (u.1 ++ [z], u.2))])))) :
    SW K (tFor (iList K (tOp (rIxT K) (tVar n) (tC (.int 1)))) (gTup K 2 (gCons (gName p) (gCons (gName q) gNil))) (tDrop (tBM K "list" rAppend (tVar p) (tCons (tC (.int z)) tNil)))) Γ P := by
  intro σ H L D S k0
  have S1 : Stt K ((Γ.set p .un).set q .un) σ H L := S.dropG.dropG
  have lσ : σ.length = Γ.length := by obtain ⟨I, E, R⟩ := S; exact E.len.symm
  have h1 : ((Γ.set p .un).set q .un)[n]? = some (.v (.t2 s0 (.li (.t2 (.li .lf) .lf))) (.tuple [d0, WD us])) := by
    rw [List.getElem?_set_ne (by omega), List.getElem?_set_ne (by omega), h]
  obtain ⟨w, M, hw, R, put, _⟩ := S1.focus h1 rfl
  obtain ⟨t0, v0, v1, rfl, R1⟩ := R.take2
  have st := R1.psAt
  have R2 : Rp K H (.ow (.li (.t2 (.li .lf) .lf)) v1 (WD us) :: .ps (fun H => SqT K H t0 [v0, v1]) :: .ow s0 v0 d0 :: (M ++ L)) := R1.perm (((List.Perm.swap _ _ _).cons _).trans (List.Perm.swap _ _ _))
  obtain ⟨a, xs, rfl, lx, R3⟩ := R2.take
  rw [List.length_map] at lx
  clear R R1 R2
  generalize hT : (It.ps (fun H => SqT K H t0 [v0, .ref a])) = T at R3
  refine ⟨.ref t0, hw, t0, [v0, .ref a], 1, .ref a, rfl, rfl, st, rfl, a, rfl, ⟨xs, SqL.of R3.topAt⟩, ?_⟩
  refine ⟨fun i m σ' H' => m = xs.length - i ∧ i ≤ xs.length ∧ σ'.length = Γ.length ∧ (∀ H2 L2 Γ2, Γ2[p]? = some .un → Γ2[q]? = some .un → Stt K Γ2 σ H2 L2 → Stt K Γ2 σ' H2 L2) ∧
    Rp K H' (.top a xs :: (each (.t2 (.li .lf) .lf) xs (((us.take i).map (fun u => (u.1 ++ [z], u.2)) ++ us.drop i).map CD) ++ (T :: .ow s0 v0 d0 :: (M ++ L)))), ⟨_, rfl, Nat.zero_le _, lσ, fun _ _ _ _ _ S => S, by rw [List.take_zero, List.drop_zero]; exact R3⟩, ?_⟩
  rintro i m σ1 H1 ⟨rfl, hi, l1, fr, R⟩
  have eh : SqL K H1 a xs := SqL.of R.topAt
  by_cases c : i < xs.length
  · have cu : i < us.length := by omega
    have hx : xs[i]? = some xs[i] := List.getElem?_eq_getElem c
    refine .inr ⟨⟨xs, xs[i], eh, hx⟩, fun σ' H' => i + 1 ≤ xs.length ∧ σ'.length = Γ.length ∧ (∀ H2 L2 Γ2, Γ2[p]? = some .un → Γ2[q]? = some .un → Stt K Γ2 σ H2 L2 → Stt K Γ2 σ' H2 L2) ∧
      Rp K H' (.top a xs :: (each (.t2 (.li .lf) .lf) xs (((us.take (i + 1)).map (fun u => (u.1 ++ [z], u.2)) ++ us.drop (i + 1)).map CD) ++ (T :: .ow s0 v0 d0 :: (M ++ L)))), fun σ' H' h => ⟨xs.length - (i + 1), by omega, rfl, h⟩, fun v H' hy => ?_⟩
    obtain ⟨rfl, hy⟩ := hy
    have ev := hy xs eh
    rw [hx] at ev
    cases ev
    have hu : us[i]? = some us[i] := List.getElem?_eq_getElem cu
    have lt : ((us.take i).map (fun u : List Int × Rat => (u.1 ++ [z], u.2))).length = i := by rw [List.length_map, List.length_take]; omega
    have hd : ((((us.take i).map (fun u => (u.1 ++ [z], u.2)) ++ us.drop i)).map CD)[i]? = some (CD us[i]) := by
      rw [List.getElem?_map, List.getElem?_append_right (by omega), lt, Nat.sub_self, List.getElem?_drop, Nat.add_zero, hu]; rfl
    have hset : ((((us.take i).map (fun u => (u.1 ++ [z], u.2)) ++ us.drop i)).map CD).set i (CD (us[i].1 ++ [z], us[i].2)) = (((us.take (i + 1)).map (fun u => (u.1 ++ [z], u.2)) ++ us.drop (i + 1))).map CD := by
      have e1 : (((us.take i).map (fun u : List Int × Rat => (u.1 ++ [z], u.2)) ++ us.drop i)).set i (us[i].1 ++ [z], us[i].2) = (us.take (i + 1)).map (fun u => (u.1 ++ [z], u.2)) ++ us.drop (i + 1) := by
        rw [List.set_append_right i _ (by omega), lt, Nat.sub_self, List.drop_eq_getElem_cons cu, List.set_cons_zero, List.take_add_one, hu, List.map_append, List.append_assoc]
        rfl
      rw [← e1, List.map_set]
    obtain ⟨C, RF, back⟩ := R.focus hx hd
    obtain ⟨t1, w1, w2, ew, R5⟩ := RF.take2
    obtain ⟨b, rfl⟩ := sh_lst R5.tail
    have st1 := R5.psAt
    have bu := bl us[i] (List.getElem_mem cu)
    refine ⟨t1, [.ref b, w2], ew, st1, rfl, _, _, rfl, _, _, rfl, rfl, ?_⟩
    refine ⟨.ref b, by rw [List.getElem?_set_ne (by omega), List.getElem?_set_self (by omega)], tyR (T := tVar 0) R5 (.tail _ List.mem_cons_self), ?_⟩
    dsimp only [tCons, tNil, tC]
    refine g_appR (R5.int z) (s := .lf) (y := .int z) (d := .int z) (p := b) .here (.there .here) (by rw [List.length_map]; omega) fun H2 R6 => ?_
    refine ⟨c, by rw [List.length_set, List.length_set]; exact l1, fun H2 L2 Γ2 e1 e2 S2 => (fr H2 L2 Γ2 e1 e2 S2).free2 e1 e2 _ _, ?_⟩
    rw [← hset]
    refine back _ _ ?_
    rw [ew]
    refine Rp.put2 (x := .ref b) (y := w2) ?_
    rw [show IL (us[i].1 ++ [z], us[i].2).1 = .list (us[i].1.map PyData.int ++ [.int z]) by show PyData.list ((us[i].1 ++ [z]).map PyData.int) = _; rw [List.map_append]; rfl]
    exact R6.perm (.swap _ _ _)
  · have e : i = xs.length := by omega
    subst e
    refine .inl ⟨⟨xs, eh, Nat.le_refl _⟩, k0.nx _ _ _ k ?_⟩
    refine fr _ _ _ (by rw [List.getElem?_set_ne (by omega), List.getElem?_set_ne (by omega), List.getElem?_set_self hp]) (by rw [List.getElem?_set_ne (by omega), List.getElem?_set_self (by rw [List.length_set]; exact hq)]) ?_
    subst hT
    rw [lx, List.take_length, List.drop_length, List.append_nil] at R
    have R5 : Rp K H1 (each (.t2 (.li .lf) .lf) xs ((us.map fun u => (u.1 ++ [z], u.2)).map CD) ++ (.top a xs :: (.ps (fun H => SqT K H t0 [v0, .ref a]) :: .ow s0 v0 d0 :: (M ++ L)))) := R.perm List.perm_middle.symm
    have R6 : Rp K H1 (.ow (.li .lf) (.ref a) (WD (us.map fun u => (u.1 ++ [z], u.2))) :: .ps (fun H => SqT K H t0 [v0, .ref a]) :: .ow s0 v0 d0 :: (M ++ L)) := Rp.put ((Rp.fzEach R5).perm List.perm_middle) (by rw [List.length_map, List.length_map]; exact lx)
    have R7 : Rp K H1 (.ps (fun H => SqT K H t0 [v0, .ref a]) :: .ow s0 v0 d0 :: .ow (.li .lf) (.ref a) (WD (us.map fun u => (u.1 ++ [z], u.2))) :: (M ++ L)) := R6.perm ((List.Perm.swap _ _ _).trans ((List.Perm.swap _ _ _).cons _))
    exact put H1 L _ _ R7.put2
/-- found[1].append(z) -/
theorem EW_app2 (h : Γ[n]? = some (.v (.t2 s0 (.li s1)) (.tuple [d0, .list ds]))) (l : ds.length < 100000) (k : QE .lf .none (Γ.set n (.v (.t2 s0 (.li .lf)) (.tuple [d0, .list (ds ++ [.int z])])))) :
    EW K (tBM K "list" rAppend (tOp (rIxT K) (tVar n) (tC (.int 1))) (tCons (tC (.int z)) tNil)) Γ QE := by
  intro σ H L G S k0
  obtain ⟨w, M, hw, R, put, _⟩ := S.focus h rfl
  obtain ⟨t0, v0, v1, rfl, R1⟩ := R.take2
  have st := R1.psAt
  have R2 : Rp K H (.ow (.li s1) v1 (.list ds) :: .ps (fun H => SqT K H t0 [v0, v1]) :: .ow s0 v0 d0 :: (M ++ L)) := R1.perm (((List.Perm.swap _ _ _).cons _).trans (List.Perm.swap _ _ _))
  obtain ⟨a, xs, rfl, lx, R3⟩ := R2.take
  have R4 : Rp K H (.ow (.li .lf) (.ref a) (.list ds) :: .ps (fun H => SqT K H t0 [v0, .ref a]) :: .ow s0 v0 d0 :: (M ++ L)) := by
    have R5 : Rp K H (each s1 xs ds ++ (.top a xs :: (.ps (fun H => SqT K H t0 [v0, .ref a]) :: .ow s0 v0 d0 :: (M ++ L)))) := R3.perm List.perm_middle.symm
    exact Rp.put ((Rp.fzEach R5).perm List.perm_middle) lx
  refine ⟨.ref t0, hw, t0, [v0, .ref a], 1, .ref a, rfl, rfl, st, rfl, tyR (T := tVar 0) R4 List.mem_cons_self, ?_⟩
  refine g_appR (R4.int z) (s := .lf) (y := .int z) (d := .int z) (p := a) .here .here l fun H2 R6 => ?_
  have R7 : Rp K H2 (.ps (fun H => SqT K H t0 [v0, .ref a]) :: .ow s0 v0 d0 :: .ow (.li .lf) (.ref a) (.list (ds ++ [.int z])) :: (M ++ L)) := R6.perm ((List.Perm.swap _ _ _).trans ((List.Perm.swap _ _ _).cons _))
  have S2 := put H2 L _ _ R7.put2
  exact k0 _ _ _ _ _ k (S2.flat .non rfl)
theorem Rp.eachDp {H : Hp} {s : Own} : ∀ {xs : List V} {ds : List PyData} {L : List It}, xs.length = ds.length → Rp K H (each s xs ds ++ L) → DpAll K H xs ds
  | [], [], _, _, _ => .nil
  | x :: xs, d :: ds, L, l, R => by
    have R1 : Rp K H (.ow s x d :: (each s xs ds ++ L)) := R
    exact .cons (dq_dp _ _ (R1.dpOf mem_here)) (Rp.eachDp (by simpa using l) R1.tail)
/-- sorted(xs) of a list of things of one's own: they go over -/
theorem EW_sortO (h : Γ[n]? = some (.v (.li s1) (.list ds))) (hal : PySem.W.AllAlike ds) (hs : PySem.W.Sortable ds) (hd : ∀ d ∈ ds, d.depth ≤ 50) (k : ∀ ds', ds'.Perm ds → ds'.Pairwise (fun a b => PySem.W.dataLe false id a b = true) → QE (.li s1) (.list ds') (Γ.set n .un)) :
    EW K (tCB (rSortedD K) (tCons (tVar n) tNil)) Γ QE := by
  intro σ H L G S k0
  obtain ⟨w, M, hw, R, _, drop⟩ := S.focus h rfl
  obtain ⟨a, xs, rfl, lx, R1⟩ := R.take
  have ea := R1.topAt
  have R2 : Rp K H (each s1 xs ds ++ (M ++ L)) := (R1.perm (.refl _)).tail
  refine ⟨.ref a, hw, a, xs, ds, rfl, SqL.of ea, Rp.eachDp lx R2, hal, hs, hd, fun p np => ?_⟩
  have R3 : Rp K (upd H p (.lst ((sortD xs ds).map Prod.fst))) (.ow (.li s1) (.ref p) (.list ((sortD xs ds).map Prod.snd)) :: (M ++ L)) := Rp.mkL (R2.perm ((each_sort lx).append_right _)) (by rw [List.length_map, List.length_map]) np
  refine k0 _ _ _ _ _ (k _ (sortD_dperm lx) (sortD_pair xs ds)) ?_
  exact drop _ (.ow (.li s1) (.ref p) (.list ((sortD xs ds).map Prod.snd)) :: L) R3.dim
/-- what the walk asks where sorted(name) stands -/
def SortB (K : PySem.W.Frag) (Γ : Ev) (n : Nat) (QE : Own → PyData → Ev → Prop) : Prop := ∃ s1 ds, Γ[n]? = some (.v (.li s1) (.list ds)) ∧ PySem.W.AllAlike ds ∧ PySem.W.Sortable ds ∧ (∀ d ∈ ds, d.depth ≤ 50) ∧ ∀ ds', ds'.Perm ds → ds'.Pairwise (fun a b => PySem.W.dataLe false id a b = true) → QE (.li s1) (.list ds') (Γ.set n .un)
theorem EW_sortB (h : SortB K Γ n QE) : EW K (tCB (rSortedD K) (tCons (tVar n) tNil)) Γ QE := by
  obtain ⟨_, _, h, a, b, c, d⟩ := h
  exact EW_sortO h a b c d
end
/-! ### boxes: an index of a list or a tuple; tuples of ints; insert -/
section
variable {X : Cx} {K : PySem.W.Frag} {Γ Γ1 : Ev} {σ : L2.St} {H H' : Hp} {L : List It} {s s' s1 : Own} {d d' e : PyData} {ds es fs : List PyData} {n m k : Nat} {te ti tj : TE} {i j : Int} {Q : Own → PyData → Prop} {QE : Own → PyData → Ev → Prop} {b b0 : Sl}
def rIxA (K : PySem.W.Frag) : R2 := fun x y H Q => rIxL K x y H Q ∨ rIxT K x y H Q
theorem k_ixA (h : X.K = K := by rfl) : IxR X (rIxA K) := by subst h; exact ix_list.or ix_tup
/-- what stands at a place of a list or a tuple -/
def IxA (d e : PyData) (F : PyData → Prop) : Prop := ∃ ds i d', (d = .list ds ∨ d = .tuple ds) ∧ e = .int i ∧ atI ds i = some d' ∧ F d'
theorem IxA_L {F : PyData → Prop} (h : atI ds i = some d') (q : F d') : IxA (.list ds) (.int i) F := ⟨ds, i, d', .inl rfl, rfl, h, q⟩
theorem IxA_T {F : PyData → Prop} (h : atI ds i = some d') (q : F d') : IxA (.tuple ds) (.int i) F := ⟨ds, i, d', .inr rfl, rfl, h, q⟩
theorem IxA_cL {c : Prop} [h : IxC ds i c d'] {F : PyData → Prop} (hc : c) (q : F d') : IxA (.list ds) (.int i) F := IxA_L (h.pf hc) q
theorem IxA_cT {c : Prop} [h : IxC ds i c d'] {F : PyData → Prop} (hc : c) (q : F d') : IxA (.tuple ds) (.int i) F := IxA_T (h.pf hc) q
theorem OW_ixA (q : IxA d e fun d' => Q .lf d') : OW K (rIxA K) s d s' e Q := by
  obtain ⟨ds, i, d', h, rfl, h1, q⟩ := q
  rcases h with rfl | rfl
  · exact fun H L G x y R k => .inl (OW_ixL h1 q H L G x y R k)
  · exact fun H L G x y R k => .inr (OW_ixT h1 q H L G x y R k)
instance : St1 (OW K (rIxA K) s d s' e Q) (IxA d e fun d' => Q .lf d') := ⟨OW_ixA⟩
abbrev TI (ns : List Int) : PyData := .tuple (ns.map PyData.int)
abbrev LTI (cs : List (List Int)) : PyData := .list (cs.map TI)
theorem Sh.tiL {ns : List Int} : Sh 1 (TI ns) := Sh.tup fun d h => by
  obtain ⟨x, _, rfl⟩ := List.mem_map.mp h
  exact Sh.int
instance : EqF TI := ⟨fun _ => Sh.tiL.mono (by decide), IT_eqv⟩
instance (priority := 850) {x y : List Int} : EqC (TI x) (TI y) (decide (x = y)) := ⟨Sh.tiL.ok, Sh.tiL.ok, IT_eqv x y⟩
instance (priority := 860) {x : List Int} : EqC (TI x) (.tuple []) (decide (x = [])) := ⟨Sh.tiL.ok, rfl, IT_eqv x []⟩
instance : NnC (TI ns) false := ⟨fun K H x h => by cases h; rfl⟩
theorem ti_le (a b : List Int) : PySem.W.dataLe false id (TI a) (TI b) = decide (a ≤ b) := congrFun (congrFun (PySem.W.dataLe_rows (fun x : List Int => x)) a) b
theorem ti_alike (cs : List (List Int)) : PySem.W.AllAlike (cs.map TI) := PySem.W.AllAlike.of fun b b' => PySem.W.alike_ints b b'
theorem ti_sortable {cs : List (List Int)} (h : ∀ c ∈ cs, c ≠ []) : PySem.W.Sortable (cs.map TI) := .inl fun d hd => by
  obtain ⟨c, hc, rfl⟩ := List.mem_map.mp hd
  obtain ⟨x, r, e⟩ := List.exists_cons_of_ne_nil (h c hc)
  exact ⟨_, _, by rw [e]; rfl⟩
/-- sorted of tuples of ints -/
theorem CW_sortTI {cs : List (List Int)} (h : ∀ c ∈ cs, c ≠ []) (q : ∀ us : List (List Int), us.Perm cs → us.Pairwise (· ≤ ·) → Q (.li .lf) (LTI us)) : CW K (rSortedD K) [(s, LTI cs)] Q := CW_sortD (ti_alike cs) (ti_sortable h) (fun d hd => by
  obtain ⟨c, _, rfl⟩ := List.mem_map.mp hd
  exact Nat.le_trans Sh.tiL.2 (by decide)) fun ds' hp hs => by
  obtain ⟨us, rfl, pu⟩ := map_perm_inv TI hp
  refine q us pu ((List.pairwise_map.mp hs).imp fun {a b} h => ?_)
  rw [ti_le] at h
  exact of_decide_eq_true h
/-- xs.insert(i, y) -/
def rInsert : V → List V → Hp → VK → Prop := fun x vs H Q => ∃ (l : Addr) (xs : List V) (i : Int) (y : V), x = .ref l ∧ vs = [.int i, y] ∧ H l = some (.lst xs) ∧ xs.length < sizeLine ∧ 0 ≤ i ∧ i < 2 ^ 63 ∧ Q .non (upd H l (.lst (xs.take i.toNat ++ [y] ++ xs.drop i.toNat)))
theorem k_insert : MtR X "list.insert" rInsert := mt_insert
theorem EW_insert (h : Γ[n]? = some b0) (hb : b0.bx = some (s', .list fs)) (q : EW K ti Γ fun _ e Γ1 => EW K te Γ1 fun s d Γ2 => ∃ k : Nat, e = .int (k : Int) ∧ AtB Γ2 n fun s2 d2 b => ∃ s1 ds, s2 = .li s1 ∧ d2 = .list ds ∧ (s = s1 ∨ s1 = .lf) ∧ k ≤ ds.length ∧ ds.length < 100000 ∧ QE .lf .none (Γ2.set n (b.to (.li s1) (.list (ds.take k ++ [d] ++ ds.drop k))))) : EW K (tBM K "list" rInsert (tVar n) (tCons ti (tCons te tNil))) Γ QE := fun σ H L G S kk => by
  obtain ⟨w, M0, hw, R0, _, _⟩ := S.focus h hb
  obtain ⟨a, rfl, ty⟩ := list_tyV R0
  refine ⟨.ref a, hw, ty, q σ H L _ S fun se e Γ1 z H1 q1 S1 => q1 σ H1 _ _ S1 fun s d Γ2 y H2 ⟨k, e1, b, s3, d3, h2, hb2, s1, ds, e2, e3, hs, hk, hz, q2⟩ S2 => ?_⟩
  subst e1 e2 e3
  have S3 : Stt K Γ2 σ H2 (.ow se z (.int (k : Int)) :: .ow s y d :: L) := S2.perm (.swap _ _ _)
  obtain rfl := S3.int'
  have S4 := S3.tail
  obtain ⟨w2, M, hw2, R, put, _⟩ := S4.focus h2 hb2
  rw [hw] at hw2; cases hw2
  have R1 : Rp K H2 (.ow s1 y d :: .ow (.li s1) (.ref a) (.list ds) :: (M ++ L)) := by
    have R' : Rp K H2 (.ow s y d :: .ow (.li s1) (.ref a) (.list ds) :: (M ++ L)) := (R.perm ((List.perm_middle).cons _)).flip
    rcases hs with rfl | rfl
    · exact R'
    · exact R'.fz
  obtain ⟨_, xs, ea, lx, R2⟩ := R1.flip.take
  cases ea
  have hat := R2.topAt
  have R3 := R2.mut (ys := xs.take k ++ [y] ++ xs.drop k)
  have et : each s1 xs ds = each s1 (xs.take k) (ds.take k) ++ each s1 (xs.drop k) (ds.drop k) := by
    rw [← each_app (by rw [List.length_take, List.length_take, lx]), List.take_append_drop, List.take_append_drop]
  have R4 : Rp K (upd H2 a (.lst (xs.take k ++ [y] ++ xs.drop k))) (.top a (xs.take k ++ [y] ++ xs.drop k) :: (each s1 (xs.take k ++ [y] ++ xs.drop k) (ds.take k ++ [d] ++ ds.drop k) ++ (M ++ L))) := by
    rw [et] at R3
    rw [each_app (by rw [List.length_append, List.length_append, List.length_take, List.length_take, lx]; rfl), each_app (by rw [List.length_take, List.length_take, lx])]
    refine R3.perm (List.Perm.cons _ ?_)
    show (each s1 (xs.take k) (ds.take k) ++ each s1 (xs.drop k) (ds.drop k) ++ .ow s1 y d :: (M ++ L)).Perm (each s1 (xs.take k) (ds.take k) ++ [.ow s1 y d] ++ each s1 (xs.drop k) (ds.drop k) ++ (M ++ L))
    rw [List.append_assoc, List.append_assoc, List.append_assoc]
    exact (List.perm_middle).append_left _
  have R5 := R4.put (by simp only [List.length_append, List.length_take, List.length_drop, lx]; rfl)
  refine ⟨a, xs, (k : Int), y, rfl, rfl, hat, sz_lt (by rw [lx]; exact hz), by omega, by omega, ?_⟩
  rw [Int.toNat_natCast]
  exact kk _ _ _ _ _ q2 ((put _ _ _ _ R5).flat .non rfl)
end
/-! ### boxes: an error kept in a name behind its clause -/
section
variable {K : PySem.W.Frag} {mg : Str → Option Value} {Γ Γ1 : Ev} {P : Po} {σ : L2.St} {H H' : Hp} {L : List It} {n i c j : Nat} {w : V} {F : Hp → Prop} {tr : TA} {Q : Own → PyData → Ev → Prop} {C : Str} {cc : Value} {Wout : WX} {sp spx : Sp}
def ErrF (X a : Addr) : Hp → Prop := fun H => H a = some (errO X a)
/-- try: x = f(..) / except C as e: caught = e, where f raises -/
theorem SW_keepX {pre : List PyData → Prop} (hi : i < Γ.length) (hc : c < Γ.length) (ic : i ≠ c)
    (q : AW K tr Γ fun bs Γ1 => SndB bs fun ds => Γ1.length = Γ.length ∧ pre ds ∧ ∀ X, mg C = some (.ref X) → PySem.W.exmOne K (.ref X) cc = some true ∧ ∀ a, P.nx ((Γ1.set i .un).set c (.fact (.ref a) (ErrF X a)))) :
    SW K (fun D σ H => tAsg (tCallS (spOr sp (spVX K mg C pre)) (fun σ => WE (wKeep K cc i (fun _ => tAsg (tVar i) (gName c)) Wout D) σ) tr) (gName j) D σ H) Γ P := fun σ H L D S k => q σ H L _ S fun bs Γ1 vs H1 q1 l S1 => by
  obtain ⟨hl, hp, hx⟩ := q1.2
  obtain ⟨M, R, back⟩ := S1.lift (A := zipI vs bs)
  refine .inr ⟨bs.map Prod.snd, M, by rw [l, List.length_map], Rp.fzZ l R, hp, fun X gX H' R' => ?_⟩
  obtain ⟨hex, hq⟩ := hx X gX
  refine ⟨true, hex, fun _ => ⟨X, rfl, rfl, fun a na => ?_⟩, fun z => nomatch z⟩
  obtain ⟨I, E, R2⟩ : Stt K Γ1 σ H' L := back H' [] R'
  obtain ⟨I1, E1, k1⟩ := E.drop i
  obtain ⟨I2, E2, k2⟩ := E1.drop c
  have lσ : σ.length = Γ.length := by rw [← E.len, hl]
  have hi2 : ((Γ1.set i .un).set c .un)[i]? = some .un := by rw [List.getElem?_set_ne (by omega), List.getElem?_set_self (by omega)]
  have hc2 : ((Γ1.set i .un).set c .un)[c]? = some .un := by rw [List.getElem?_set_self (by rw [List.length_set]; omega)]
  have E3 := E2.unset i none hi2
  obtain ⟨I3, E4, p4⟩ := E3.putF (w := .ref a) (F := ErrF X a) (n := c) hc2
  rw [List.set_set] at E4
  have R3 : Rp K (upd H' a (errO X a)) (isErr a X :: (I2 ++ L)) := (k2 _ _ _ (k1 _ _ _ R2)).err na
  have R4 : Rp K (upd H' a (errO X a)) (I3 ++ L) := R3.perm (p4.symm.append_right L)
  refine ⟨.ref a, by rw [List.getElem?_set_self (by omega)], ?_⟩
  refine k.nx _ _ _ (hq a) ⟨I3, ?_, R4⟩
  rw [List.set_comm _ _ (Ne.symm ic), List.set_set]
  exact E4
theorem SW_keepOr {pre : List PyData → (Own → PyData → Prop) → Prop} {ts : Addr → L2.TS} {g : TG} (q : AW K tr Γ fun bs Γ1 => SndB bs fun ds => pre ds fun s d => GW K g s d Γ1 P.nx) :
    SW K (fun D σ H => tAsg (tCallS (spOr (spV K pre) spx) (fun σ => WE (wKeep K cc i ts Wout D) σ) tr) g D σ H) Γ P := fun σ H L D S k => q σ H L _ S fun bs Γ1 vs H1 q1 l S1 => by
  obtain ⟨M, R, back⟩ := S1.lift (A := zipI vs bs)
  exact .inl ⟨bs.map Prod.snd, M, _, by rw [l, List.length_map], Rp.fzZ l R, q1.2, fun s d v H' q2 R2 => q2 σ H' L v _ (back H' [.ow s v d] R2) fun Γ' σ' H2 q3 S3 => k.nx _ _ _ q3 S3⟩
/-- is what is caught None -/
theorem EW_isNF {a : Addr} (h : Γ[n]? = some (.fact (.ref a) F)) (q : Q .lf (.bool false) Γ) : EW K (tOp rIsN (tVar n) (tC .non)) Γ Q := fun σ H L G S k =>
  ⟨_, (S.factAt h).1, rfl, by
    show G (.bl (decide (V.ref a = V.non))) H
    rw [decide_eq_false (by simp)]
    exact k _ _ _ _ _ q (S.flat (.bl _) rfl)⟩
theorem EW_notNF {a : Addr} (h : Γ[n]? = some (.fact (.ref a) F)) (q : Q .lf (.bool true) Γ) : EW K (tOp rNotN (tVar n) (tC .non)) Γ Q := fun σ H L G S k =>
  ⟨_, (S.factAt h).1, rfl, by
    show G (.bl (!decide (V.ref a = V.non))) H
    rw [decide_eq_false (by simp)]
    exact k _ _ _ _ _ q (S.flat (.bl _) rfl)⟩
/-- a def that looks at an error -/
def spErr (K : PySem.W.Frag) (U : Addr → Prop) : Sp := fun vs H Q _ => ∃ (L : List It) (a : Addr) (D : Addr), vs = [.ref a] ∧ Rp K H L ∧ isErr a D ∈ L ∧ U D ∧ ∀ H', Rp K H' L → Q (.bl true) H'
theorem EW_callErr {U : Addr → Prop} {a X : Addr} {E : XK} (h : Γ[n]? = some (.fact (.ref a) (ErrF X a))) (u : U X) (q : Q .lf (.bool true) Γ) : EW K (tCall (spErr K U) [] E (tCons (tVar n) tNil)) Γ Q := fun σ H L G S k => by
  obtain ⟨hw, _⟩ := S.factAt h
  obtain ⟨M, R, back⟩ := (S.factM h).lift (A := [.ps (ErrF X a)])
  exact ⟨.ref a, hw, _, a, X, rfl, R, List.mem_cons_self, u, fun H' R' => k _ _ _ _ _ q (((back H' [.ps (ErrF X a)] R').tail).flat (.bl true) rfl)⟩
end
/-- an empty list may hold things of any kind -/
theorem SW_l0 {K : PySem.W.Frag} {t : L2.TS} {Γ : Ev} {P : Po} {b : Sl} {s1 : Own} {n : Nat} (s2 : Own) (h : Γ[n]? = some b) (hb : b.bx = some (.li s1, .list [])) (q : SW K t (Γ.set n (b.to (.li s2) (.list []))) P) : SW K t Γ P := fun σ H L D S k => by
  obtain ⟨w, M, hw, R, put, _⟩ := S.focus h hb
  obtain ⟨a, xs, rfl, l, R1⟩ := R.take
  obtain rfl : xs = [] := List.eq_nil_of_length_eq_zero l
  have R4 : Rp K H (.ow (.li s2) (.ref a) (.list []) :: (M ++ L)) := Rp.put (xs := []) (ds := []) (s := s2) R1 rfl
  exact q σ H L D (put _ _ _ _ R4) k
/-- for row in found: row[0].append(z) -/
theorem SW_forApp1 {K : PySem.W.Frag} {Γ : Ev} {P : Po} {n p : Nat} {us : List (List Int × Rat)} {z : Int} (h : Γ[n]? = some (.v (.li (.t2 (.li .lf) .lf)) (WD us))) (np : n ≠ p) (hp : p < Γ.length) (bl : ∀ u ∈ us, u.1.length < 99999)
    (k : P.nx ((Γ.set p .un).set n (.v (.li .lf) (WD (us.map fun u => (u.1 ++ [z], u.2)))))) :
    SW K (tFor (iList K (tVar n)) (gName p) (tDrop (tBM K "list" rAppend (tOp (rIxT K) (tVar p) (tC (.int 0))) (tCons (tC (.int z)) tNil)))) Γ P := by
  intro σ H L D S k0
  have S1 : Stt K (Γ.set p .un) σ H L := S.dropG
  have lσ : σ.length = Γ.length := by obtain ⟨I, E, R⟩ := S; exact E.len.symm
  have h1 : (Γ.set p .un)[n]? = some (.v (.li (.t2 (.li .lf) .lf)) (WD us)) := by
    rw [List.getElem?_set_ne (by omega), h]
  obtain ⟨w, M, hw, R, put, _⟩ := S1.focus h1 rfl
  obtain ⟨a, xs, rfl, lx, R3⟩ := R.take
  rw [List.length_map] at lx
  clear R
  refine ⟨.ref a, hw, a, rfl, ⟨xs, SqL.of R3.topAt⟩, ?_⟩
  refine ⟨fun i m σ' H' => m = xs.length - i ∧ i ≤ xs.length ∧ σ'.length = Γ.length ∧ (∀ H2 L2 Γ2, Γ2[p]? = some .un → Stt K Γ2 σ H2 L2 → Stt K Γ2 σ' H2 L2) ∧
    Rp K H' (.top a xs :: (each (.t2 (.li .lf) .lf) xs (((us.take i).map (fun u => (u.1 ++ [z], u.2)) ++ us.drop i).map CD) ++ (M ++ L))), ⟨_, rfl, Nat.zero_le _, lσ, fun _ _ _ _ S => S, by rw [List.take_zero, List.drop_zero]; exact R3⟩, ?_⟩
  rintro i m σ1 H1 ⟨rfl, hi, l1, fr, R⟩
  have eh : SqL K H1 a xs := SqL.of R.topAt
  by_cases c : i < xs.length
  · have cu : i < us.length := by omega
    have hx : xs[i]? = some xs[i] := List.getElem?_eq_getElem c
    refine .inr ⟨⟨xs, xs[i], eh, hx⟩, fun σ' H' => i + 1 ≤ xs.length ∧ σ'.length = Γ.length ∧ (∀ H2 L2 Γ2, Γ2[p]? = some .un → Stt K Γ2 σ H2 L2 → Stt K Γ2 σ' H2 L2) ∧
      Rp K H' (.top a xs :: (each (.t2 (.li .lf) .lf) xs (((us.take (i + 1)).map (fun u => (u.1 ++ [z], u.2)) ++ us.drop (i + 1)).map CD) ++ (M ++ L))), fun σ' H' h => ⟨xs.length - (i + 1), by omega, rfl, h⟩, fun v H' hy => ?_⟩
    obtain ⟨rfl, hy⟩ := hy
    have ev := hy xs eh
    rw [hx] at ev
    cases ev
    have hu : us[i]? = some us[i] := List.getElem?_eq_getElem cu
    have lt : ((us.take i).map (fun u : List Int × Rat => (u.1 ++ [z], u.2))).length = i := by rw [List.length_map, List.length_take]; omega
    have hd : ((((us.take i).map (fun u => (u.1 ++ [z], u.2)) ++ us.drop i)).map CD)[i]? = some (CD us[i]) := by
      rw [List.getElem?_map, List.getElem?_append_right (by omega), lt, Nat.sub_self, List.getElem?_drop, Nat.add_zero, hu]; rfl
    have hset : ((((us.take i).map (fun u => (u.1 ++ [z], u.2)) ++ us.drop i)).map CD).set i (CD (us[i].1 ++ [z], us[i].2)) = (((us.take (i + 1)).map (fun u => (u.1 ++ [z], u.2)) ++ us.drop (i + 1))).map CD := by
      have e1 : (((us.take i).map (fun u : List Int × Rat => (u.1 ++ [z], u.2)) ++ us.drop i)).set i (us[i].1 ++ [z], us[i].2) = (us.take (i + 1)).map (fun u => (u.1 ++ [z], u.2)) ++ us.drop (i + 1) := by
        rw [List.set_append_right i _ (by omega), lt, Nat.sub_self, List.drop_eq_getElem_cons cu, List.set_cons_zero, List.take_add_one, hu, List.map_append, List.append_assoc]
        rfl
      rw [← e1, List.map_set]
    obtain ⟨C, RF, back⟩ := R.focus hx hd
    obtain ⟨t1, w1, w2, ew, R5⟩ := RF.take2
    obtain ⟨b, rfl⟩ := sh_lst R5.tail
    have st1 := R5.psAt
    have bu := bl us[i] (List.getElem_mem cu)
    refine ⟨xs[i], by rw [List.getElem?_set_self (by omega)], ?_⟩
    rw [ew]
    refine ⟨t1, [.ref b, w2], 0, .ref b, rfl, rfl, st1, rfl, tyR (T := tVar 0) R5 (.tail _ List.mem_cons_self), ?_⟩
    dsimp only [tCons, tNil, tC]
    refine g_appR (R5.int z) (s := .lf) (y := .int z) (d := .int z) (p := b) .here (.there .here) (by rw [List.length_map]; omega) fun H2 R6 => ?_
    refine ⟨c, by rw [List.length_set]; exact l1, fun H2 L2 Γ2 e1 S2 => ?_, ?_⟩
    · obtain ⟨I, E, R⟩ := fr H2 L2 Γ2 e1 S2
      exact ⟨I, E.unset p _ e1, R⟩
    rw [← hset]
    refine back _ _ ?_
    rw [ew]
    refine Rp.put2 (x := .ref b) (y := w2) ?_
    rw [show IL (us[i].1 ++ [z], us[i].2).1 = .list (us[i].1.map PyData.int ++ [.int z]) by show PyData.list ((us[i].1 ++ [z]).map PyData.int) = _; rw [List.map_append]; rfl]
    exact R6.perm (.swap _ _ _)
  · have e : i = xs.length := by omega
    subst e
    refine .inl ⟨⟨xs, eh, Nat.le_refl _⟩, k0.nx _ _ _ k ?_⟩
    refine fr _ _ _ (by rw [List.getElem?_set_ne (by omega), List.getElem?_set_self hp]) ?_
    rw [lx, List.take_length, List.drop_length, List.append_nil] at R
    have R5 : Rp K H1 (each (.t2 (.li .lf) .lf) xs ((us.map fun u => (u.1 ++ [z], u.2)).map CD) ++ (.top a xs :: (M ++ L))) := R.perm List.perm_middle.symm
    have R6 : Rp K H1 (.ow (.li .lf) (.ref a) (WD (us.map fun u => (u.1 ++ [z], u.2))) :: (M ++ L)) := Rp.put ((Rp.fzEach R5).perm List.perm_middle) (by rw [List.length_map, List.length_map]; exact lx)
    exact put H1 L _ _ R6
/-! ### lists of pairs of numbers -/
abbrev PDs (us : List (Nat × Nat)) : PyData := .list (us.map GD)
/-! ### boxes: a statement that only reads things of one's own -/
def Sl.pz : Sl → V → Sl
  | .un, _ => .un
  | .v _ d, w => .pin w .lf d
  | .pin _ _ d, w => .pin w .lf d
  | .fact w F, _ => .fact w F
  | .ob _ w C fs vs, _ => .ob true w C (fzF fs) vs
def Sl.adr : Sl → Option V
  | .pin w _ _ => some w
  | .fact w _ => some w
  | .ob _ w _ _ _ => some w
  | _ => none
section
variable {K : PySem.W.Frag} {Γ : Ev} {σ σ' : L2.St} {H : Hp} {L I : List It} {t : L2.TS} {P : Po}
theorem EnvR.pz (E : EnvR Γ σ I) : ∃ ws : List V, ws.length = Γ.length ∧ EnvR (List.zipWith Sl.pz Γ ws) σ (I.map fzI) ∧ ∀ (k : Nat) (w : V), ws[k]? = some w → Γ[k]? ≠ some .un → σ[k]? = some (some w) := by
  induction E with
  | nil => exact ⟨[], rfl, .nil, fun k w h => by simp at h⟩
  | un _ ih =>
    obtain ⟨ws, l, e, h⟩ := ih
    refine ⟨.non :: ws, by simp [l], .un e, fun k w hk hn => ?_⟩
    cases k with
    | zero => exact absurd rfl hn
    | succ k => exact h k w (by simpa using hk) (by simpa using hn)
  | @v E σ I w s d e ih =>
    obtain ⟨ws, l, e, h⟩ := ih
    refine ⟨w :: ws, by simp [l], .pin e, fun k w2 hk hn => ?_⟩
    cases k with
    | zero => simpa using hk
    | succ k => exact h k w2 (by simpa using hk) (by simpa using hn)
  | @pin E σ I w s d e ih =>
    obtain ⟨ws, l, e, h⟩ := ih
    refine ⟨w :: ws, by simp [l], .pin e, fun k w2 hk hn => ?_⟩
    cases k with
    | zero => simpa using hk
    | succ k => exact h k w2 (by simpa using hk) (by simpa using hn)
  | @fact E σ I w F e ih =>
    obtain ⟨ws, l, e, h⟩ := ih
    refine ⟨w :: ws, by simp [l], .fact e, fun k w2 hk hn => ?_⟩
    cases k with
    | zero => simpa using hk
    | succ k => exact h k w2 (by simpa using hk) (by simpa using hn)
  | @ob b E σ I a dx C vs fs e l0 ih =>
    obtain ⟨ws, l, e, h⟩ := ih
    refine ⟨.ref a :: ws, by simp [l], ?_, fun k w2 hk hn => ?_⟩
    · have g := EnvR.ob (b := true) (a := a) (dx := dx) (C := C) (vs := vs) (fs := fzF fs) e (by unfold fzF; rw [List.length_map]; exact l0)
      rw [fvals_fz, ← fits_fz, ← obI_fz b, ← List.map_append, ← List.map_cons] at g
      exact g
    · cases k with
      | zero => simpa using hk
      | succ k => exact h k w2 (by simpa using hk) (by simpa using hn)
theorem EnvR.swap (E : EnvR Γ σ I) : ∀ {σ' : L2.St}, σ'.length = σ.length → (∀ k, k < Γ.length → Γ[k]? ≠ some .un → σ'[k]? = σ[k]?) → EnvR Γ σ' I := by
  induction E with
  | nil =>
    intro σ' l _
    rw [List.eq_nil_of_length_eq_zero l]; exact .nil
  | un _ ih =>
    intro σ' l h
    match σ', l with
    | x :: σ', l => exact .un (ih (by simpa using l) fun k hk hn => by simpa using h (k + 1) (by simpa using hk) (by simpa using hn))
  | v _ ih =>
    intro σ' l h
    match σ', l with
    | x :: σ', l =>
      have h0 := h 0 (by simp) (by simp)
      simp only [List.getElem?_cons_zero, Option.some.injEq] at h0
      subst h0
      exact .v (ih (by simpa using l) fun k hk hn => by simpa using h (k + 1) (by simpa using hk) (by simpa using hn))
  | pin _ ih =>
    intro σ' l h
    match σ', l with
    | x :: σ', l =>
      have h0 := h 0 (by simp) (by simp)
      simp only [List.getElem?_cons_zero, Option.some.injEq] at h0
      subst h0
      exact .pin (ih (by simpa using l) fun k hk hn => by simpa using h (k + 1) (by simpa using hk) (by simpa using hn))
  | fact _ ih =>
    intro σ' l h
    match σ', l with
    | x :: σ', l =>
      have h0 := h 0 (by simp) (by simp)
      simp only [List.getElem?_cons_zero, Option.some.injEq] at h0
      subst h0
      exact .fact (ih (by simpa using l) fun k hk hn => by simpa using h (k + 1) (by simpa using hk) (by simpa using hn))
  | ob _ l0 ih =>
    intro σ' l h
    match σ', l with
    | x :: σ', l =>
      have h0 := h 0 (by simp) (by simp)
      simp only [List.getElem?_cons_zero, Option.some.injEq] at h0
      subst h0
      exact .ob (ih (by simpa using l) fun k hk hn => by simpa using h (k + 1) (by simpa using hk) (by simpa using hn)) l0
theorem EnvR.adr (E : EnvR Γ σ I) : ∀ {k : Nat} {b : Sl} {w : V}, Γ[k]? = some b → b.adr = some w → σ[k]? = some (some w) := by
  induction E with
  | nil => intro k b w h; simp at h
  | un _ ih =>
    intro k b w h hb
    cases k with
    | zero => cases h; cases hb
    | succ k => exact ih (k := k) h hb
  | v _ ih =>
    intro k b w h hb
    cases k with
    | zero => cases h; cases hb
    | succ k => exact ih (k := k) h hb
  | pin _ ih =>
    intro k b w h hb
    cases k with
    | zero => cases h; cases hb; rfl
    | succ k => exact ih (k := k) h hb
  | fact _ ih =>
    intro k b w h hb
    cases k with
    | zero => cases h; cases hb; rfl
    | succ k => exact ih (k := k) h hb
  | ob _ _ ih =>
    intro k b w h hb
    cases k with
    | zero => cases h; cases hb; rfl
    | succ k => exact ih (k := k) h hb
theorem clr_len (Γ : Ev) : ∀ vs : List Nat, (clr Γ vs).length = Γ.length
  | [] => rfl
  | i :: vs => by show ((clr Γ vs).set i .un).length = _; rw [List.length_set, clr_len Γ vs]
theorem clr_at (Γ : Ev) : ∀ {vs : List Nat} {k : Nat}, k < Γ.length → (clr Γ vs)[k]? ≠ some .un → k ∉ vs ∧ Γ[k]? ≠ some .un
  | [], k, _, h => ⟨by simp, h⟩
  | i :: vs, k, hk, h => by
    have h : ((clr Γ vs).set i .un)[k]? ≠ some .un := h
    by_cases c : i = k
    · subst c
      exact absurd (List.getElem?_set_self (by rw [clr_len]; exact hk)) h
    · rw [List.getElem?_set_ne c] at h
      obtain ⟨h1, h2⟩ := clr_at Γ hk h
      exact ⟨fun m => (List.mem_cons.mp m).elim (fun e => c e.symm) h1, h2⟩
/-- what is held by names is as it was, but for some names -/
def Held (Γ : Ev) (ws : List V) (vs : List Nat) (Γ' : Ev) : Prop := Γ'.length = Γ.length ∧ ∀ k, k < Γ.length → k ∉ vs → ∃ w b, ws[k]? = some w ∧ Γ'[k]? = some b ∧ b.adr = some w
theorem SW_bor (vs : List Nat) (q : ∀ ws : List V, ws.length = Γ.length → SW K t (List.zipWith Sl.pz Γ ws) { nx := fun Γ' => Held Γ ws vs Γ' ∧ P.nx (clr Γ vs), rt := fun s d _ => lfree s d ∧ P.rt s d Γ, bk := fun Γ' => Held Γ ws vs Γ' ∧ P.bk (clr Γ vs), ct := fun Γ' => Held Γ ws vs Γ' ∧ P.ct (clr Γ vs), er := P.er }) : SW K t Γ P := fun σ H L D ⟨I, E, R⟩ k => by
  obtain ⟨R1, _⟩ := E.borrow R
  obtain ⟨ws, lw, Ep, at_⟩ := E.pz
  have back : ∀ Γ' σ' H', Held Γ ws vs Γ' → Stt K Γ' σ' H' [.ps (Same H)] → Stt K (clr Γ vs) σ' H' L := fun Γ' σ' H' ⟨hl, hd⟩ ⟨I2, E2, R2⟩ => by
    have R3 : Rp K H' (.sh (.bl true) (.bool true) :: .ps (Same H) :: I2) := Rp.bl (R2.perm (List.perm_append_comm (l₁ := I2) (l₂ := [.ps (Same H)]))) true
    obtain ⟨sm, N⟩ := R3.out
    have Rn := R.same sm
    have lσ : σ'.length = σ.length := by rw [← E2.len, hl, E.len]
    obtain ⟨I3, E4', wr⟩ := E.clr vs
    have E4 := E4'.unwipe
    refine ⟨I3, E4.swap lσ fun j hj hn => ?_, wr _ _ _ Rn⟩
    rw [clr_len] at hj
    obtain ⟨n1, n2⟩ := clr_at Γ hj hn
    obtain ⟨w, b, hw, hb, ha⟩ := hd j hj n1
    rw [at_ j w hw n2]
    exact E2.adr hb ha
  refine q ws lw σ H [.ps (Same H)] D ⟨_, Ep, R1⟩ ⟨fun Γ' σ' H' q1 S => k.nx _ _ _ q1.2 (back _ _ _ q1.1 S), fun s d Γ' σ' v H' ⟨hl, q1⟩ ⟨I2, E2, R2⟩ => ?_, fun Γ' σ' H' q1 S => k.bk _ _ _ q1.2 (back _ _ _ q1.1 S), fun Γ' σ' H' q1 S => k.ct _ _ _ q1.2 (back _ _ _ q1.1 S), fun H' R' => ?_⟩
  · have R3 : Rp K H' (.ow s v d :: .ps (Same H) :: I2) := R2.perm (by
      refine List.perm_middle.trans (List.Perm.cons _ ?_)
      exact List.perm_append_comm (l₁ := I2) (l₂ := [.ps (Same H)]))
    obtain ⟨sm, N⟩ := R3.out
    exact k.rt _ _ _ _ _ _ q1 ⟨I, E, (R.inn sm N hl).dim⟩
  · have R3 : Rp K H' (.sh (.bl true) (.bool true) :: .ps (Same H) :: []) := Rp.bl R' true
    obtain ⟨sm, N⟩ := R3.out
    exact k.er H' (Rp.dropL (A := I) (R.same sm))
end
section
variable {K : PySem.W.Frag} {Γ : Ev} {n : Nat} {QE : Own → PyData → Ev → Prop} {s0 s1 : Own} {d0 : PyData} {ds : List PyData}
/-- found[1].append((a, b)) -/
theorem EW_app2T {a' b' : Int} (h : Γ[n]? = some (.v (.t2 s0 (.li s1)) (.tuple [d0, .list ds]))) (l : ds.length < 100000) (k : QE .lf .none (Γ.set n (.v (.t2 s0 (.li .lf)) (.tuple [d0, .list (ds ++ [.tuple [.int a', .int b']])])))) :
    EW K (tBM K "list" rAppend (tOp (rIxT K) (tVar n) (tC (.int 1))) (tCons (tTup (tCons (tC (.int a')) (tCons (tC (.int b')) tNil))) tNil)) Γ QE := by
  intro σ H L G S k0
  obtain ⟨w, M, hw, R, put, _⟩ := S.focus h rfl
  obtain ⟨t0, v0, v1, rfl, R1⟩ := R.take2
  have st := R1.psAt
  have R2 : Rp K H (.ow (.li s1) v1 (.list ds) :: .ps (fun H => SqT K H t0 [v0, v1]) :: .ow s0 v0 d0 :: (M ++ L)) := R1.perm (((List.Perm.swap _ _ _).cons _).trans (List.Perm.swap _ _ _))
  obtain ⟨a, xs, rfl, lx, R3⟩ := R2.take
  have R4 : Rp K H (.ow (.li .lf) (.ref a) (.list ds) :: .ps (fun H => SqT K H t0 [v0, .ref a]) :: .ow s0 v0 d0 :: (M ++ L)) := by
    have R5 : Rp K H (each s1 xs ds ++ (.top a xs :: (.ps (fun H => SqT K H t0 [v0, .ref a]) :: .ow s0 v0 d0 :: (M ++ L)))) := R3.perm List.perm_middle.symm
    exact Rp.put ((Rp.fzEach R5).perm List.perm_middle) lx
  refine ⟨.ref t0, hw, t0, [v0, .ref a], 1, .ref a, rfl, rfl, st, rfl, tyR (T := tVar 0) R4 List.mem_cons_self, ?_⟩
  refine g_tupIR (ns := [a', b']) R4 rfl (by show 2 ≤ 100000; decide) fun c nc R4b => ?_
  refine g_appR R4b (s := .lf) (y := .ref c) (d := .tuple [.int a', .int b']) (p := a) .here .here l fun H2 R6 => ?_
  have R7 : Rp K H2 (.ps (fun H => SqT K H t0 [v0, .ref a]) :: .ow s0 v0 d0 :: .ow (.li .lf) (.ref a) (.list (ds ++ [.tuple [.int a', .int b']])) :: (M ++ L)) := R6.perm ((List.Perm.swap _ _ _).trans ((List.Perm.swap _ _ _).cons _))
  have S2 := put H2 L _ _ R7.put2
  exact k0 _ _ _ _ _ k (S2.flat .non rfl)
end
/-! ### is, of truths -/
def rIsL : R2 := fun x y H Q => ∃ k m : Bool, x = .bl k ∧ y = .bl m ∧ Q (.bl (decide (k = m))) H
theorem op_isL {X : Cx} : OpR X (compareOp .Is) rIsL := fun pins s σ H x y v u Q I rx ry ⟨k, m, ex, ey, q⟩ => by
  subst ex ey
  obtain rfl : v = Value.bool k := rx
  obtain rfl : u = Value.bool m := ry
  rcases Decidable.em (k = m) with rfl | ne
  · rw [decide_eq_true rfl] at q
    exact wpAny_is_self rfl ⟨.bl true, H, I, rfl, q⟩
  · rw [decide_eq_false ne] at q
    exact wpAny_is_other rfl (fun z => ne (Value.bool.inj z)) ⟨.bl false, H, I, rfl, q⟩
section
variable {K : PySem.W.Frag} {Q : Own → PyData → Prop} {s s' : Own}
theorem OM_isL {k m : Bool} (q : Q .lf (.bool (decide (k = m)))) : OM K rIsL (.bool k) (.bool m) Q := fun H L G x y s s' R m1 m2 kk => by
  have h1 := R.dpOf m1
  cases h1
  have h2 := R.dpOf m2
  cases h2
  exact ⟨k, m, rfl, rfl, kk _ _ _ _ q (R.bl _)⟩
instance {d e : PyData} : St1 (OW K rIsL s d s' e Q) (OM K rIsL d e Q) := ⟨OM.ow⟩
instance {k m : Bool} : St1 (OM K rIsL (.bool k) (.bool m) Q) (Q .lf (.bool (decide (k = m)))) := ⟨OM_isL⟩
end
/-! ### boxes: an instance of one's own -/
class NeS (g f : Str) : Prop where pf : g ≠ f
/-- where an attribute stands -/
class FldC (fs : Flds) (f : Str) (i : outParam Nat) (s : outParam Own) (d : outParam PyData) : Prop where
  at_ : fs[i]? = some (f, s, d)
  no : ∀ j x, j < i → fs[j]? = some x → x.1 ≠ f
/-- an attribute that is not there yet -/
class NoF (fs : Flds) (f : Str) : Prop where
  no : ∀ x ∈ fs, x.1 ≠ f
/-- an attribute that the class has not -/
class HasF (K : PySem.W.Frag) (C : Addr) (f : Str) : Prop where
  cl : Cls K C
  na : NoAttr K C f
section
variable {fs : Flds} {f g : Str} {s s' : Own} {d d' : PyData} {x : Own × PyData} {i : Nat} {vs : List V} {v v' : V}
instance (priority := 900) : FldC ((f, s, d) :: fs) f 0 s d := ⟨rfl, fun j x h => absurd h (by omega)⟩
instance (priority := 800) [h : FldC fs f i s d] [n : NeS g f] : FldC ((g, x) :: fs) f (i + 1) s d := ⟨h.at_, fun j y hj hy => by
  cases j with
  | zero => cases hy; exact n.pf
  | succ j => exact h.no j y (by omega) hy⟩
instance : NoF [] f := ⟨fun x h => by cases h⟩
instance [h : NoF fs f] [n : NeS g f] : NoF ((g, x) :: fs) f := ⟨fun y hy => by
  rcases List.mem_cons.mp hy with rfl | hy
  · exact n.pf
  · exact h.no y hy⟩
theorem fvals_look : ∀ {fs : Flds} {vs : List V} {i : Nat}, fs[i]? = some (f, x) → (∀ j y, j < i → fs[j]? = some y → y.1 ≠ f) → vs[i]? = some v → (fvals fs vs).lookup f = some v
  | [], _, _, h, _, _ => by simp at h
  | _ :: _, [], _, _, _, h => by simp at h
  | y :: fs, u :: vs, 0, h, _, hv => by
    cases h; cases hv
    show List.lookup f ((f, v) :: fvals fs vs) = some v
    simp [List.lookup]
  | y :: fs, u :: vs, i + 1, h, n, hv => by
    have ne := n 0 y (by omega) rfl
    show List.lookup f ((y.1, u) :: fvals fs vs) = some v
    have hb : (f == y.1) = false := beq_eq_false_iff_ne.mpr fun e => ne e.symm
    simp only [List.lookup, hb]
    exact fvals_look (i := i) h (fun j z hj hz => n (j + 1) z (by omega) hz) hv
theorem fvals_put : ∀ {fs : Flds} {vs : List V} {i : Nat}, fs[i]? = some (f, x) → (∀ j y, j < i → fs[j]? = some y → y.1 ≠ f) → vs.length = fs.length → putF f v' (fvals fs vs) = fvals (fs.set i (f, s', d')) (vs.set i v')
  | [], _, _, h, _, _ => by simp at h
  | _ :: _, [], _, _, _, l => by simp at l
  | y :: fs, u :: vs, 0, h, _, _ => by
    cases h
    show putF f v' ((f, u) :: fvals fs vs) = (f, v') :: fvals fs vs
    unfold putF
    rw [if_pos rfl]
  | y :: fs, u :: vs, i + 1, h, n, l => by
    have ne := n 0 y (by omega) rfl
    show putF f v' ((y.1, u) :: fvals fs vs) = (y.1, u) :: fvals (fs.set i (f, s', d')) (vs.set i v')
    have ih := fvals_put (vs := vs) (i := i) h (fun j z hj hz => n (j + 1) z (by omega) hz) (by simpa using l)
    rw [← ih]
    conv => lhs; unfold putF
    rw [if_neg ne]
theorem fvals_new : ∀ {fs : Flds} {vs : List V}, (∀ x ∈ fs, x.1 ≠ f) → vs.length = fs.length → putF f v' (fvals fs vs) = fvals (fs ++ [(f, s', d')]) (vs ++ [v'])
  | [], [], _, _ => rfl
  | [], _ :: _, _, l => by simp at l
  | _ :: _, [], _, l => by simp at l
  | y :: fs, u :: vs, n, l => by
    have ne := n y List.mem_cons_self
    show putF f v' ((y.1, u) :: fvals fs vs) = (y.1, u) :: fvals (fs ++ [(f, s', d')]) (vs ++ [v'])
    have ih := fvals_new (fs := fs) (vs := vs) (fun x hx => n x (.tail _ hx)) (by simpa using l)
    rw [← ih]
    conv => lhs; unfold putF
    rw [if_neg ne]
theorem fvals_none : ∀ {fs : Flds} {vs : List V}, (∀ x ∈ fs, x.1 ≠ f) → (fvals fs vs).lookup f = none
  | [], _, _ => rfl
  | _ :: _, [], _ => rfl
  | y :: fs, u :: vs, n => by
    have ne := n y List.mem_cons_self
    show List.lookup f ((y.1, u) :: fvals fs vs) = none
    have hb : (f == y.1) = false := beq_eq_false_iff_ne.mpr fun e => ne e.symm
    simp only [List.lookup, hb]
    exact fvals_none fun x hx => n x (.tail _ hx)
theorem fvals_len : ∀ {fs : Flds} {vs : List V}, (fvals fs vs).length ≤ fs.length := fun {fs vs} => by
  unfold fvals
  rw [List.length_zipWith]
  omega
/-- one of the attributes' things -/
theorem fits_at : ∀ {fs : Flds} {vs : List V} {i : Nat}, fs[i]? = some (f, s, d) → vs.length = fs.length → ∃ v A, vs[i]? = some v ∧ (fits fs vs).Perm (.ow s v d :: A) ∧ ∀ s' v' d', (fits (fs.set i (f, s', d')) (vs.set i v')).Perm (.ow s' v' d' :: A)
  | [], _, _, h, _ => by simp at h
  | _ :: _, [], _, _, l => by simp at l
  | y :: fs, u :: vs, 0, h, _ => by
    cases h
    exact ⟨u, fits fs vs, rfl, .refl _, fun s' v' d' => .refl _⟩
  | y :: fs, u :: vs, i + 1, h, l => by
    obtain ⟨v, A, h1, h2, h3⟩ := fits_at (fs := fs) (vs := vs) (i := i) h (by simpa using l)
    exact ⟨v, .ow y.2.1 u y.2.2 :: A, h1, (h2.cons _).trans (.swap _ _ _), fun s' v' d' => ((h3 s' v' d').cons _).trans (.swap _ _ _)⟩
end
section
variable {K : PySem.W.Frag} {Γ Γ1 : Ev} {σ : L2.St} {H H' : Hp} {L L' I : List It} {s s' : Own} {d d' : PyData} {w v : V} {n i : Nat} {b : Bool} {C : Addr} {fs : Flds} {vs : List V} {f : Str}
theorem perm_mid {A P I I' : List It} {m : It} (h : I.Perm (m :: (A ++ I'))) : (P ++ I).Perm (m :: (A ++ (P ++ I'))) := by
  refine (h.append_left P).trans (List.perm_middle.trans (List.Perm.cons _ ?_))
  rw [← List.append_assoc, ← List.append_assoc]
  exact List.perm_append_comm.append_right I'
theorem EnvR.focusO (E : EnvR Γ σ I) : ∀ {n : Nat}, Γ[n]? = some (.ob b w C fs vs) → ∃ a dx I', w = .ref a ∧ vs.length = fs.length ∧ σ[n]? = some (some w) ∧ I.Perm (obI b a (.ins C dx (fvals fs vs)) :: (fits fs vs ++ I')) ∧ EnvR (Γ.set n .un) σ I' ∧
    ∀ b' dx' fs' vs', vs'.length = fs'.length → ∃ I2, EnvR (Γ.set n (.ob b' w C fs' vs')) σ I2 ∧ I2.Perm (obI b' a (.ins C dx' (fvals fs' vs')) :: (fits fs' vs' ++ I')) := by
  induction E with
  | nil => intro n h; simp at h
  | un e ih =>
    intro n h
    cases n with
    | zero => cases h
    | succ n =>
      obtain ⟨a, dx, I', e1, e2, e3, e4, e5, e6⟩ := ih (n := n) h
      exact ⟨a, dx, I', e1, e2, e3, e4, .un e5, fun b' dx' fs' vs' l => let ⟨I2, q1, q2⟩ := e6 b' dx' fs' vs' l; ⟨I2, .un q1, q2⟩⟩
  | @v E σ I w0 s0 d0 e ih =>
    intro n h
    cases n with
    | zero => cases h
    | succ n =>
      obtain ⟨a, dx, I', e1, e2, e3, e4, e5, e6⟩ := ih (n := n) h
      refine ⟨a, dx, _, e1, e2, e3, perm_mid (P := [.ow s0 w0 d0]) e4, .v e5, fun b' dx' fs' vs' l => ?_⟩
      obtain ⟨I2, q1, q2⟩ := e6 b' dx' fs' vs' l
      exact ⟨_, .v q1, perm_mid (P := [.ow s0 w0 d0]) q2⟩
  | @pin E σ I w0 s0 d0 e ih =>
    intro n h
    cases n with
    | zero => cases h
    | succ n =>
      obtain ⟨a, dx, I', e1, e2, e3, e4, e5, e6⟩ := ih (n := n) h
      refine ⟨a, dx, _, e1, e2, e3, perm_mid (P := [.ow s0 w0 d0]) e4, .pin e5, fun b' dx' fs' vs' l => ?_⟩
      obtain ⟨I2, q1, q2⟩ := e6 b' dx' fs' vs' l
      exact ⟨_, .pin q1, perm_mid (P := [.ow s0 w0 d0]) q2⟩
  | @fact E σ I w0 F e ih =>
    intro n h
    cases n with
    | zero => cases h
    | succ n =>
      obtain ⟨a, dx, I', e1, e2, e3, e4, e5, e6⟩ := ih (n := n) h
      refine ⟨a, dx, _, e1, e2, e3, perm_mid (P := [.ps F]) e4, .fact e5, fun b' dx' fs' vs' l => ?_⟩
      obtain ⟨I2, q1, q2⟩ := e6 b' dx' fs' vs' l
      exact ⟨_, .fact q1, perm_mid (P := [.ps F]) q2⟩
  | @ob b0 E σ I a0 dx0 C0 vs0 fs0 e l0 ih =>
    intro n h
    cases n with
    | zero =>
      cases h
      exact ⟨a0, dx0, I, rfl, l0, rfl, .refl _, .un e, fun b' dx' fs' vs' l => ⟨_, .ob e l, .refl _⟩⟩
    | succ n =>
      obtain ⟨a, dx, I', e1, e2, e3, e4, e5, e6⟩ := ih (n := n) h
      refine ⟨a, dx, _, e1, e2, e3, perm_mid (P := obI b0 a0 (.ins C0 dx0 (fvals fs0 vs0)) :: fits fs0 vs0) e4, .ob e5 l0, fun b' dx' fs' vs' l => ?_⟩
      obtain ⟨I2, q1, q2⟩ := e6 b' dx' fs' vs' l
      exact ⟨_, .ob q1 l0, perm_mid (P := obI b0 a0 (.ins C0 dx0 (fvals fs0 vs0)) :: fits fs0 vs0) q2⟩
theorem Stt.focusO (S : Stt K Γ σ H L) (h : Γ[n]? = some (.ob b w C fs vs)) : ∃ a dx M, w = .ref a ∧ vs.length = fs.length ∧ σ[n]? = some (some w) ∧ Rp K H (obI b a (.ins C dx (fvals fs vs)) :: (fits fs vs ++ (M ++ L))) ∧
    (∀ H' L' b' dx' fs' vs', vs'.length = fs'.length → Rp K H' (obI b' a (.ins C dx' (fvals fs' vs')) :: (fits fs' vs' ++ (M ++ L'))) → Stt K (Γ.set n (.ob b' w C fs' vs')) σ H' L') ∧ (∀ H' L', Rp K H' (M ++ L') → Stt K (Γ.set n .un) σ H' L') := by
  obtain ⟨I, E, R⟩ := S
  obtain ⟨a, dx, I', e1, e2, e3, e4, e5, e6⟩ := E.focusO h
  refine ⟨a, dx, I', e1, e2, e3, ?_, fun H' L' b' dx' fs' vs' l R' => ?_, fun H' L' R' => ⟨_, e5, R'⟩⟩
  · have R1 := R.perm (e4.append_right L)
    rw [List.cons_append, List.append_assoc] at R1
    exact R1
  · obtain ⟨I2, q1, q2⟩ := e6 b' dx' fs' vs' l
    refine ⟨I2, q1, R'.perm ?_⟩
    have q3 := (q2.append_right L').symm
    rw [List.cons_append, List.append_assoc] at q3
    exact q3
theorem Stt.selfO (h : Γ[n]? = some (.ob b w C fs vs)) {σ' : L2.St} (S : Stt K (Γ.set n (.ob b w C fs vs)) σ' H L) : Stt K Γ σ' H L := by rwa [set_self h] at S
/-- an attribute's thing taken by itself -/
theorem Stt.focusF [k : HasF K C f] [c : FldC fs f i s d] (S : Stt K Γ σ H L) (h : Γ[n]? = some (.ob b w C fs vs)) : ∃ v M, (∀ G : VK, G v H → tFld K (tVar n) f σ H G) ∧ vs[i]? = some v ∧ Rp K H (.ow s v d :: (M ++ L)) ∧
    (∀ H' L' s' d', Rp K H' (.ow s' v d' :: (M ++ L')) → Stt K (Γ.set n (.ob b w C (fs.set i (f, s', d')) vs)) σ H' L') := by
  obtain ⟨a, dx, M, rfl, l, hw, R, put, _⟩ := S.focusO h
  obtain ⟨v, A, hv, p1, p2⟩ := fits_at c.at_ l
  refine ⟨v, obI b a (.ins C dx (fvals fs vs)) :: (A ++ M), fun G g => ⟨.ref a, hw, a, C, dx, _, v, rfl, R.obIAt, k.cl, k.na, fvals_look c.at_ c.no hv, g⟩, hv, ?_, fun H' L' s' d' R' => ?_⟩
  · have R1 := R.perm (((p1.append_right (M ++ L)).cons _).trans (.swap _ _ _))
    rw [List.cons_append, List.append_assoc]
    exact R1
  · have es : vs.set i v = vs := set_self hv
    have q := p2 s' v d'
    rw [es] at q
    have en : fvals (fs.set i (f, s', d')) vs = fvals fs vs := by
      have e1 : ∀ {fs : Flds} {vs : List V} {i : Nat}, fs[i]? = some (f, s, d) → fvals (fs.set i (f, s', d')) vs = fvals fs vs := fun {fs} => by
        induction fs with
        | nil => intro vs i h; simp at h
        | cons y fs ih =>
          intro vs i h
          cases vs with
          | nil => cases i <;> rfl
          | cons u vs =>
            cases i with
            | zero => cases h; rfl
            | succ i =>
              show (y.1, u) :: fvals (fs.set i (f, s', d')) vs = (y.1, u) :: fvals fs vs
              rw [ih (i := i) h]
      exact e1 c.at_
    refine put H' L' b dx _ vs (by rw [List.length_set]; exact l) ?_
    rw [en]
    rw [List.cons_append, List.append_assoc] at R'
    exact R'.perm ((List.Perm.swap _ _ _).trans (((q.append_right (M ++ L')).symm).cons _))
theorem Stt.keepF [c : FldC fs f i s d] {σ' : L2.St} (h : Γ[n]? = some (.ob b w C fs vs)) (S : Stt K (Γ.set n (.ob b w C (fs.set i (f, s, d)) vs)) σ' H L) : Stt K Γ σ' H L := by
  rw [set_self c.at_] at S
  exact Stt.selfO h S
/-- an attribute that is shared is read -/
theorem EW_fld {Q : Own → PyData → Ev → Prop} [k : HasF K C f] [c : FldC fs f i .lf d] (h : Γ[n]? = some (.ob b w C fs vs)) (q : Q .lf d Γ) : EW K (tFld K (tVar n) f) Γ Q := fun σ H L G S kk => by
  obtain ⟨v, M, rd, _, R, put⟩ := S.focusF h (f := f)
  exact rd _ (kk _ _ _ _ _ q (Stt.keepF h (put _ _ _ _ R.dupDim)))
/-- an attribute is shared from here on -/
theorem EW_fldF {Q : Own → PyData → Ev → Prop} [k : HasF K C f] [c : FldC fs f i s d] (h : Γ[n]? = some (.ob b w C fs vs)) (q : Q .lf d (Γ.set n (.ob b w C (fs.set i (f, .lf, d)) vs))) : EW K (tFld K (tVar n) f) Γ Q := fun σ H L G S kk => by
  obtain ⟨v, M, rd, _, R, put⟩ := S.focusF h (f := f)
  exact rd _ (kk _ _ _ _ _ q (put _ _ _ _ R.fz.dupDim))
/-- a thing of an attribute's list -/
theorem EW_ixF {ti : TE} {Q : Own → PyData → Ev → Prop} {ds : List PyData} [k : HasF K C f] [c : FldC fs f i (.li .lf) (.list ds)] (h : Γ[n]? = some (.ob b w C fs vs)) (q : EW K ti Γ fun _ e Γ2 => Γ2[n]? = some (.ob b w C fs vs) ∧ ∃ j d', e = .int j ∧ atI ds j = some d' ∧ Q .lf d' Γ2) : EW K (tOp (rIxL K) (tFld K (tVar n) f) ti) Γ Q := fun σ H L G S kk => by
  obtain ⟨v, M0, rd, hv, _, _⟩ := S.focusF h (f := f)
  refine rd _ (q σ H L _ S fun s' e Γ2 y H2 ⟨h2, j, d', e1, e3, q1⟩ S2 => ?_)
  subst e1
  obtain rfl := S2.int'
  have S2 := S2.tail
  obtain ⟨v2, M, _, hv2, R, put⟩ := S2.focusF h2 (f := f)
  rw [hv] at hv2; cases hv2
  obtain ⟨a, xs, rfl, l, R1⟩ := R.take
  obtain ⟨m, x, h1, h2', h3⟩ := atI_len l e3
  refine ⟨a, xs, j, x, rfl, rfl, SqL.of R1.topAt, h1, kk _ _ _ _ _ q1 (Stt.keepF h2 (put _ _ _ _ ?_))⟩
  have R2 : Rp K H2 (each .lf xs ds ++ (.top a xs :: (M ++ L))) := R1.perm List.perm_middle.symm
  have R3 : Rp K H2 (.sh x d' :: (each .lf xs ds ++ (.top a xs :: (M ++ L)))) := R2.shM (List.mem_append_left _ (each_mem h2' h3))
  have R4 : Rp K H2 (.top a xs :: (each .lf xs ds ++ (M ++ .sh x d' :: L))) := R3.perm (by
    refine List.Perm.trans ?_ (List.perm_middle (l₁ := each .lf xs ds))
    refine (List.perm_middle.symm : (It.sh x d' :: (each .lf xs ds ++ (.top a xs :: (M ++ L)))).Perm (each .lf xs ds ++ (It.sh x d' :: (.top a xs :: (M ++ L))))).trans ?_
    refine List.Perm.append_left _ ((List.Perm.swap _ _ _).trans (List.Perm.cons _ ?_))
    exact List.perm_middle.symm)
  exact R4.put l
end
instance {fs : Flds} {f : Str} {i : Nat} {s : Own} {d : PyData} [h : FldC fs f i s d] : FldC (fzF fs) f i .lf d := ⟨by unfold fzF; rw [List.getElem?_map, h.at_]; rfl, fun j x hj hx => by
  unfold fzF at hx
  rw [List.getElem?_map] at hx
  obtain ⟨y, hy, rfl⟩ := Option.map_eq_some_iff.mp hx
  exact h.no j y hj hy⟩
section
variable {K : PySem.W.Frag} {Γ Γ1 : Ev} {σ : L2.St} {H H' : Hp} {L L' I : List It} {s s' s1 : Own} {d d' : PyData} {w v : V} {n i : Nat} {b : Bool} {C : Addr} {fs fs' : Flds} {vs : List V} {f m : Str} {te ti tv : TE} {tr : TA} {QE : Own → PyData → Ev → Prop} {ds : List PyData} {P : Po}
theorem perm_swapA {A F X : List It} : (A ++ (F ++ X)).Perm (F ++ (A ++ X)) := by
  rw [← List.append_assoc A F X, ← List.append_assoc F A X]
  exact List.perm_append_comm.append_right X
/-- self.f.append(x) -/
theorem EW_appF [k : HasF K C f] [c : FldC fs f i (.li s1) (.list ds)] (h : Γ[n]? = some (.ob b w C fs vs)) (q : EW K te Γ fun s d Γ1 => Γ1[n]? = some (.ob b w C fs vs) ∧ (s = s1 ∨ s1 = .lf) ∧ ds.length < 100000 ∧ QE .lf .none (Γ1.set n (.ob b w C (fs.set i (f, .li s1, .list (ds ++ [d]))) vs))) :
    EW K (tBM K "list" rAppend (tFld K (tVar n) f) (tCons te tNil)) Γ QE := fun σ H L G S kk => by
  obtain ⟨v, M0, rd, hv, R0, _⟩ := S.focusF h (f := f)
  obtain ⟨a, rfl, ty⟩ := list_tyV R0
  refine rd _ ⟨ty, q σ H L _ S fun s d Γ1 y H1 ⟨h2, hs, z, q1⟩ S1 => ?_⟩
  obtain ⟨w2, M, _, hv2, R, put⟩ := S1.focusF h2 (f := f)
  rw [hv] at hv2; cases hv2
  have R1 : Rp K H1 (.ow s1 y d :: .ow (.li s1) (.ref a) (.list ds) :: (M ++ L)) := by
    have R' : Rp K H1 (.ow s y d :: .ow (.li s1) (.ref a) (.list ds) :: (M ++ L)) := (R.perm ((List.perm_middle).cons _)).flip
    rcases hs with rfl | rfl
    · exact R'
    · exact R'.fz
  obtain ⟨acc, e, l, R2⟩ := Rp.app R1
  exact ⟨a, acc, y, rfl, rfl, e, sz_lt (by rw [l]; exact z), kk _ _ _ _ _ q1 ((put _ _ _ _ R2).flat .non rfl)⟩
/-- self.f[i] = x -/
theorem GW_setF {Q : Ev → Prop} [k : HasF K C f] [c : FldC fs f i (.li s1) (.list ds)] (h : Γ[n]? = some (.ob b w C fs vs)) (q : EW K ti Γ fun _ e Γ2 => ∃ j : Nat, e = .int (j : Int) ∧ Γ2[n]? = some (.ob b w C fs vs) ∧ j < ds.length ∧ (s = s1 ∨ s1 = .lf) ∧ Q (Γ2.set n (.ob b w C (fs.set i (f, .li s1, .list (ds.set j d))) vs))) :
    GW K (gSub (tFld K (tVar n) f) ti rSetL) s d Γ Q := fun σ H L v G S kk => by
  obtain ⟨u, M0, rd, hv, _, _⟩ := S.focusF h (f := f)
  refine rd _ (q σ H _ _ S fun s2 e Γ2 y H2 ⟨j, e1, h2, hj, hs, q2⟩ S2 => ?_)
  subst e1
  obtain rfl := S2.int'
  have S3 : Stt K Γ2 σ H2 (.ow s v d :: L) := S2.tail
  obtain ⟨u2, M, _, hv2, R, put⟩ := S3.focusF h2 (f := f)
  rw [hv] at hv2; cases hv2
  have R1 : Rp K H2 (.ow (.li s1) u (.list ds) :: .ow s1 v d :: (M ++ L)) := by
    have R' := R.perm ((List.perm_middle).cons _)
    rcases hs with rfl | rfl
    · exact R'
    · exact R'.flip.fz.flip
  obtain ⟨a, rfl⟩ := sh_lst R1
  exact g_setR R1 .here .here rfl hj fun H' R2 => kk _ _ _ q2 (put _ _ _ _ R2)
theorem Rp.chgO {o o' : HO} {a : Addr} (R : Rp K H (.ob a o :: L)) (h : Mutb o' ∧ ∀ xs, o' ≠ .lst xs) : Rp K (upd H a o') (.ob a o' :: L) := by
  obtain ⟨_, _, h0, t, r⟩ := R.inv
  cases h0
  exact ⟨_, .cons (p := [.ob a o']) rfl t, Rf.mutO But.mut upd_same h r⟩
theorem Rp.newO {o : HO} {a : Addr} (R : Rp K H L) (n : H a = none) (h : Mutb o ∧ ∀ xs, o ≠ .lst xs) : Rp K (upd H a o) (.ob a o :: L) := by
  obtain ⟨ps, u, r⟩ := R
  exact ⟨_, .cons (p := [.ob a o]) rfl u, r.newO n h⟩
theorem mutb_ins {C dx : Addr} {l : List (Str × V)} : Mutb (.ins C dx l) ∧ ∀ xs, HO.ins C dx l ≠ .lst xs := ⟨trivial, fun _ h => by cases h⟩
/-- what stands behind self.f = x -/
def FldS (K : PySem.W.Frag) (Γ1 : Ev) (n : Nat) (f : Str) (s : Own) (d : PyData) (F : Ev → Prop) : Prop := ∃ w C fs vs fs', Γ1[n]? = some (.ob false w C fs vs) ∧ HasF K C f ∧ fs.length < 1000 ∧ ((∃ i s0 d0, FldC fs f i s0 d0 ∧ fs' = fs.set i (f, s, d)) ∨ (NoF fs f ∧ fs' = fs ++ [(f, s, d)])) ∧
  ∀ vs', vs'.length = fs'.length → F (Γ1.set n (.ob false w C fs' vs'))
theorem FldS_set {F : Ev → Prop} {s0 : Own} {d0 : PyData} [k : HasF K C f] [c : FldC fs f i s0 d0] (h : Γ1[n]? = some (.ob false w C fs vs)) (l : fs.length < 1000) (q : ∀ vs', vs'.length = (fs.set i (f, s, d)).length → F (Γ1.set n (.ob false w C (fs.set i (f, s, d)) vs'))) : FldS K Γ1 n f s d F := ⟨w, C, fs, vs, _, h, k, l, .inl ⟨i, s0, d0, c, rfl⟩, q⟩
theorem FldS_new {F : Ev → Prop} [k : HasF K C f] [c : NoF fs f] (h : Γ1[n]? = some (.ob false w C fs vs)) (l : fs.length < 1000) (q : ∀ vs', vs'.length = (fs ++ [(f, s, d)]).length → F (Γ1.set n (.ob false w C (fs ++ [(f, s, d)]) vs'))) : FldS K Γ1 n f s d F := ⟨w, C, fs, vs, _, h, k, l, .inr ⟨c, rfl⟩, q⟩
theorem SW_fld (q : EW K tv Γ fun s d Γ1 => FldS K Γ1 n f s d P.nx) : SW K (sFld K (tVar n) tv f) Γ P := fun σ H L D S kk => q σ H L _ S fun s d Γ1 y H1 ⟨w, C, fs, vs, fs', h1, hf, l1, hp, q1⟩ S1 => by
  obtain ⟨a, dx, M, rfl, l, hw, R, put, _⟩ := S1.focusO h1
  have R : Rp K H1 (.ob a (.ins C dx (fvals fs vs)) :: (fits fs vs ++ (M ++ .ow s y d :: L))) := R
  refine ⟨.ref a, hw, a, C, dx, _, rfl, R.obAt, hf.cl, hf.na, Nat.lt_of_le_of_lt fvals_len l1, ?_⟩
  have R2 := R.chgO (mutb_ins (C := C) (dx := dx) (l := putF f y (fvals fs vs)))
  rcases hp with ⟨i, s0, d0, c, rfl⟩ | ⟨c, rfl⟩
  · have e := fvals_put (s' := s) (d' := d) (v' := y) c.at_ c.no l
    rw [e] at R2 ⊢
    obtain ⟨v0, A, hv, p1, p2⟩ := fits_at c.at_ l
    refine kk.nx _ _ _ (q1 (vs.set i y) (by rw [List.length_set, List.length_set]; exact l)) (put _ _ false dx _ _ (by rw [List.length_set, List.length_set]; exact l) ?_)
    have R3 := R2.perm ((p1.append_right _).cons _)
    have R4 : Rp K _ (.ob a (.ins C dx (fvals (fs.set i (f, s, d)) (vs.set i y))) :: (A ++ (M ++ .ow s y d :: L))) := (R3.perm (.swap _ _ _)).tail
    refine R4.perm (List.Perm.cons _ ?_)
    refine List.Perm.trans ?_ ((p2 s y d).symm.append_right (M ++ L))
    rw [← List.append_assoc, List.cons_append, ← List.append_assoc]
    exact List.perm_middle
  · have e := fvals_new (s' := s) (d' := d) (v' := y) c.no l
    rw [e] at R2 ⊢
    refine kk.nx _ _ _ (q1 (vs ++ [y]) (by rw [List.length_append, List.length_append, l]; rfl)) (put _ _ false dx _ _ (by rw [List.length_append, List.length_append, l]; rfl) ?_)
    refine R2.perm (List.Perm.cons _ ?_)
    have ef : fits (fs ++ [(f, s, d)]) (vs ++ [y]) = fits fs vs ++ [.ow s y d] := by
      unfold fits
      rw [List.zipWith_append l.symm]
      rfl
    rw [ef, List.append_assoc]
    refine List.Perm.append_left _ ?_
    exact List.perm_middle
/-! methods -/
def spO (K : PySem.W.Frag) (C : Addr) (pre : Flds → List PyData → (Own → PyData → Flds → Prop) → Prop) : Sp := fun vs H G _ => ∃ a dx fs vals us ds L Q, vs = .ref a :: us ∧ us.length = ds.length ∧ vals.length = fs.length ∧ Rp K H (.ob a (.ins C dx (fvals fs vals)) :: (fits fs vals ++ (each .lf us ds ++ L))) ∧ pre fs ds Q ∧
  ∀ s d fs' dx' vals' v H', Q s d fs' → vals'.length = fs'.length → Rp K H' (.ow s v d :: .ob a (.ins C dx' (fvals fs' vals')) :: (fits fs' vals' ++ L)) → G v H'
theorem EW_meth {pre : Flds → List PyData → (Own → PyData → Flds → Prop) → Prop} {E : XK} [c : NoF fs m] (h : Γ[n]? = some (.ob b w C fs vs)) (q : AW K tr Γ fun bs Γ1 => ∃ fs vs, Γ1[n]? = some (.ob false w C fs vs) ∧ pre fs (bs.map Prod.snd) fun s2 r fs' => ∀ vs', vs'.length = fs'.length → QE s2 r (Γ1.set n (.ob false w C fs' vs'))) :
    EW K (tMeth C m (spO K C pre) [] E (tVar n) tr) Γ QE := fun σ H L G S k => by
  obtain ⟨a, dx, M0, rfl, l0, hw, R0, _, _⟩ := S.focusO h
  refine ⟨.ref a, hw, a, dx, _, rfl, R0.obIAt, fvals_none c.no, q σ H L _ S fun bs Γ1 us H1 ⟨fs1, vs1, h1, q1⟩ lu S1 => ?_⟩
  obtain ⟨a', dx1, M, e, l1, hw1, R, put, _⟩ := S1.focusO h1
  cases e
  have R : Rp K H1 (.ob a (.ins C dx1 (fvals fs1 vs1)) :: (fits fs1 vs1 ++ (M ++ (zipI us bs ++ L)))) := R
  have R1 : Rp K H1 (zipI us bs ++ (.ob a (.ins C dx1 (fvals fs1 vs1)) :: (fits fs1 vs1 ++ (M ++ L)))) := R.perm (by
    refine List.Perm.trans (List.Perm.cons _ ?_) List.perm_middle.symm
    rw [← List.append_assoc, ← List.append_assoc, ← List.append_assoc, ← List.append_assoc]
    refine List.Perm.append_right L ?_
    rw [List.append_assoc (zipI us bs)]
    exact List.perm_append_comm)
  have R2 := Rp.fzZ lu R1
  rw [List.append_nil]
  refine ⟨a, dx1, fs1, vs1, us, bs.map Prod.snd, M ++ L, _, rfl, by rw [lu, List.length_map], l1, R2.perm ?_, q1, fun s2 r fs' dx' vals' v H' q2 l2 R3 => k _ _ _ _ _ (q2 vals' l2) (put _ _ false dx' fs' vals' l2 ?_)⟩
  · exact List.perm_middle.trans (List.Perm.cons _ perm_swapA)
  · have R3 : Rp K H' (.ow s2 v r :: .ob a (.ins C dx' (fvals fs' vals')) :: (fits fs' vals' ++ (M ++ L))) := R3
    refine (R3.perm (.swap _ _ _)).perm (List.Perm.cons _ ?_)
    rw [← List.append_assoc, ← List.append_assoc]
    exact List.perm_middle.symm
end
section
variable {P : Program} {wd : World} {K : PySem.W.Frag} {mg : Str → Option Value} {base : Heap} {C : Addr}
/-- a method -/
theorem okO {pre : Flds → List PyData → (Own → PyData → Flds → Prop) → Prop} {x qual : Str} {st : Stmt} {f : Addr} {fd : FuncData} {N ps : List Str} {k : Nat} (F : Fun K x qual st f fd) (S : FnScope N ps (defScope st)) (l : ∀ fs ds Q, pre fs ds Q → ds.length + 1 = ps.length)
    (hb : ∀ (cdv : Value) (A : Around) (outer : List Env) (s : Shared) (H : Hp) (E : XK), Room k (A.deeper (envOfC qual (defScope st) s.heap.objs.size f cdv)) → ∃ t, PSs (cxOf CX0 P wd K mg base N qual (defScope st) f cdv A outer s H E).nox (defBody st) t ∧
      ∀ w vs fs ds Q, vs.length = fs.length → pre fs ds Q → SW K t (.ob false w C fs vs :: (ds.map (Sl.v .lf) ++ List.replicate (N.length - (ds.length + 1)) .un)) { nx := fun Γ => ∃ fs' vs', Γ[0]? = some (.ob false w C fs' vs') ∧ Q .lf .none fs', rt := fun s2 r Γ => ∃ fs' vs', Γ[0]? = some (.ob false w C fs' vs') ∧ Q s2 r fs' }) :
    FnOk P wd K mg base CX0 (k + 1) f fd ps (spO K C pre) := by
  refine F.ok S (fun vs H G E ⟨a, dx, fs, vals, us, ds, L, Q, e, l1, _, _, hp, _⟩ => by rw [e, List.length_cons, l1]; exact l fs ds Q hp) (fun cdv A outer s0 H vs G E hr ⟨a, dx, fs, vals, us, ds, L, Q, e, l1, l2, R, hp, kk⟩ => ?_)
  subst e
  obtain ⟨t, h1, h2⟩ := hb cdv A outer s0 H E hr
  have fin : ∀ {Γ' σ' H' s2 v r fs' vs'}, Γ'[0]? = some (.ob false (.ref a) C fs' vs') → Q s2 r fs' → Stt K Γ' σ' H' (.ow s2 v r :: L) → G v H' := fun {Γ' σ' H' s2 v r fs' vs'} h q S' => by
    obtain ⟨a', dx', M, e, l3, _, R2, _, _⟩ := S'.focusO h
    cases e
    have R2 : Rp K H' (.ob a (.ins C dx' (fvals fs' vs')) :: (fits fs' vs' ++ (M ++ .ow s2 v r :: L))) := R2
    refine kk s2 r fs' dx' vs' v H' q l3 ?_
    have R3 : Rp K H' (M ++ (.ow s2 v r :: .ob a (.ins C dx' (fvals fs' vs')) :: (fits fs' vs' ++ L))) := R2.perm (by
      refine List.Perm.trans ?_ (List.perm_middle.symm)
      refine List.Perm.trans (List.Perm.cons _ (?_ : (fits fs' vs' ++ (M ++ .ow s2 v r :: L)).Perm (.ow s2 v r :: (M ++ (fits fs' vs' ++ L))))) ?_
      · rw [← List.append_assoc, ← List.append_assoc]
        exact List.perm_middle.trans (List.Perm.cons _ (List.perm_append_comm.append_right L))
      · refine (List.Perm.swap _ _ _).trans (List.Perm.cons _ ?_)
        exact List.perm_middle.symm)
    have drop : ∀ (A : List It) {B : List It}, Rp K H' (A ++ B) → Rp K H' B := fun A => by
      induction A with
      | nil => exact id
      | cons m A ih => exact fun R => ih R.tail
    exact drop M R3
  refine ⟨t, h1, h2 (.ref a) vals fs ds Q l2 hp (start N (.ref a :: us)) H L _ ⟨.ob a (.ins C dx (fvals fs vals)) :: (fits fs vals ++ each .lf us ds), ?_, ?_⟩ ⟨fun Γ' σ' H' ⟨fs', vs', h, q⟩ S' => fin h q (S'.flat .non rfl), fun s2 r Γ' σ' v H' ⟨fs', vs', h, q⟩ S' => fin h q S', fun _ _ _ q => q.elim, fun _ _ _ q => q.elim, fun _ _ => trivial⟩⟩
  · exact .ob (b := false) ((EnvR.start l1).uns (by rw [List.length_cons, l1, List.length_replicate])) l2
  · rw [List.cons_append, List.append_assoc]; exact R
end
section
variable {X : Cx} {K : PySem.W.Frag}
theorem k_fld {e : Expr} {ta : TE} {f : Str} {pos : Pos} (he : PE X e ta) (hb : attributeBase e f X.env (eval e X.env) = eval e X.env) (h : X.K = K := by rfl) : PE X (.Attribute e f pos) (tFld K ta f) := by subst h; exact pe_fld he hb
end
/-! ### boxes: instances made, told, walked -/
section
variable {K : PySem.W.Frag} {Γ Γ1 : Ev} {σ : L2.St} {H H' : Hp} {L L' I : List It} {s s' s1 : Own} {d d' : PyData} {w v : V} {n i j : Nat} {b : Bool} {C : Addr} {fs fs' : Flds} {vs : List V} {f g m : Str} {te ti tv : TE} {tr : TA} {QE : Own → PyData → Ev → Prop} {ds es : List PyData} {P : Po}
theorem EnvR.putO {a dx : Addr} (E : EnvR Γ σ I) (l : vs.length = fs.length) : ∀ {n : Nat}, Γ[n]? = some .un → ∃ I2, EnvR (Γ.set n (.ob b (.ref a) C fs vs)) (σ.set n (some (.ref a))) I2 ∧ I2.Perm (obI b a (.ins C dx (fvals fs vs)) :: (fits fs vs ++ I)) := by
  induction E with
  | nil => intro n h; simp at h
  | @un E σ I x e ih =>
    intro n h
    cases n with
    | zero => exact ⟨_, .ob e l, .refl _⟩
    | succ n =>
      obtain ⟨I2, h1, h2⟩ := ih (n := n) h
      exact ⟨I2, .un h1, h2⟩
  | @v E σ I w0 s0 d0 e ih =>
    intro n h
    cases n with
    | zero => cases h
    | succ n =>
      obtain ⟨I2, h1, h2⟩ := ih (n := n) h
      exact ⟨_, .v h1, perm_mid (P := [.ow s0 w0 d0]) h2⟩
  | @pin E σ I w0 s0 d0 e ih =>
    intro n h
    cases n with
    | zero => cases h
    | succ n =>
      obtain ⟨I2, h1, h2⟩ := ih (n := n) h
      exact ⟨_, .pin h1, perm_mid (P := [.ow s0 w0 d0]) h2⟩
  | @fact E σ I w0 F0 e ih =>
    intro n h
    cases n with
    | zero => cases h
    | succ n =>
      obtain ⟨I2, h1, h2⟩ := ih (n := n) h
      exact ⟨_, .fact h1, perm_mid (P := [.ps F0]) h2⟩
  | @ob b0 E σ I a0 dx0 C0 vs0 fs0 e l0 ih =>
    intro n h
    cases n with
    | zero => cases h
    | succ n =>
      obtain ⟨I2, h1, h2⟩ := ih (n := n) h
      exact ⟨_, .ob h1 l0, perm_mid (P := obI b0 a0 (.ins C0 dx0 (fvals fs0 vs0)) :: fits fs0 vs0) h2⟩
/-- an instance is taken in by a name -/
theorem Stt.putO {a dx : Addr} (S : Stt K Γ σ H (obI b a (.ins C dx (fvals fs vs)) :: (fits fs vs ++ L))) (l : vs.length = fs.length) (h : n < Γ.length) : Stt K (Γ.set n (.ob b (.ref a) C fs vs)) (σ.set n (some (.ref a))) H L := by
  obtain ⟨I, E, R⟩ := S
  obtain ⟨I1, E1, k⟩ := E.drop n
  obtain ⟨I2, E2, k2⟩ := E1.putO (b := b) (C := C) (a := a) (dx := dx) l (n := n) (by rw [List.getElem?_set_self h])
  rw [List.set_set] at E2
  refine ⟨I2, E2, ?_⟩
  have R1 := k K H _ R
  have R2 : Rp K H (obI b a (.ins C dx (fvals fs vs)) :: (fits fs vs ++ I1) ++ L) := R1.perm (by
    rw [List.cons_append, List.append_assoc]
    exact List.perm_middle.trans (List.Perm.cons _ perm_swapA))
  exact R2.perm (k2.symm.append_right L)
theorem dq_none {v : V} (h : Dq K H v .none) : v = .non := by cases h; rfl
/-- x = C(..) -/
theorem SW_make {pre : Flds → List PyData → (Own → PyData → Flds → Prop) → Prop} {E : XK} (hn : n < Γ.length) (q : AW K tr Γ fun bs Γ1 => Γ1.length = Γ.length ∧ pre [] (bs.map Prod.snd) fun _ r fs' => r = .none ∧ ∀ w vs', vs'.length = fs'.length → P.nx (Γ1.set n (.ob false w C fs' vs'))) :
    SW K (tAsg (tMake C (spO K C pre) [] E tr) (gName n)) Γ P := fun σ H L D S kk => q σ H L _ S fun bs Γ1 us H1 ⟨hl, q1⟩ lu S1 => fun x dx nx ndx ne => by
  obtain ⟨M, R, back⟩ := S1.lift (A := zipI us bs)
  have R1 := Rp.fzZ lu R
  have R2 : Rp K (upd H1 dx (.own x)) (each .lf us (bs.map Prod.snd) ++ M) := R1.new ndx
  have nx2 : upd H1 dx (.own x) x = none := by rw [upd_ne (fun e => ne e.symm)]; exact nx
  have R3 := R2.newO nx2 (mutb_ins (C := C) (dx := dx) (l := []))
  rw [List.append_nil]
  refine ⟨x, dx, [], [], us, bs.map Prod.snd, M, _, rfl, by rw [lu, List.length_map], rfl, R3, q1, fun s r fs' dx' vals' v H' ⟨e, q2⟩ l2 R4 => ?_⟩
  subst e
  refine ⟨dq_none (R4.dpOf mem_here), ?_⟩
  have S2 := back H' (.ob x (.ins C dx' (fvals fs' vals')) :: fits fs' vals') R4.tail
  have S3 : Stt K Γ1 σ H' (obI false x (.ins C dx' (fvals fs' vals')) :: (fits fs' vals' ++ L)) := S2
  exact kk.nx _ _ _ (q2 (.ref x) vals' l2) (S3.putO l2 (by rw [hl]; exact hn))
/-! a def that tells an instance -/
def SWO (K : PySem.W.Frag) (t : L2.TS) (Γ : Ev) (C : Addr) (Q : Flds → Prop) : Prop := ∀ (σ : L2.St) (H : Hp) (L : List It) (D : Ends), Stt K Γ σ H L → (∀ a dx fs vals H', Q fs → vals.length = fs.length → Rp K H' (.ob a (.ins C dx (fvals fs vals)) :: (fits fs vals ++ L)) → D.rt (.ref a) H') → t D σ H
theorem SWO_seq {t u : L2.TS} {Q : Flds → Prop} (q : SW K t Γ { nx := fun Γ1 => SWO K u Γ1 C Q, rt := fun _ _ _ => False }) : SWO K (tSeq t u) Γ C Q := fun σ H L D S k => q σ H L _ S ⟨fun Γ' σ' H' q1 S1 => q1 σ' H' L D S1 k, fun _ _ _ _ _ _ q => q.elim, fun _ _ _ q => q.elim, fun _ _ _ q => q.elim, fun _ _ => trivial⟩
theorem SWO_cut {t u : L2.TS} {Q : Flds → Prop} (Mid : Ev → Prop) (h : SW K t Γ { nx := Mid, rt := fun _ _ _ => False }) (q : ∀ Γ', Mid Γ' → SWO K u Γ' C Q) : SWO K (C8.tCut t u) Γ C Q := fun σ H L D S k => ⟨fun σ' H' => ∃ Γ', Mid Γ' ∧ Stt K Γ' σ' H' L, h σ H L _ S ⟨fun Γ' σ' H' q1 S1 => ⟨Γ', q1, S1⟩, fun _ _ _ _ _ _ q => q.elim, fun _ _ _ q => q.elim, fun _ _ _ q => q.elim, fun _ _ => trivial⟩, fun σ' H' ⟨Γ', q1, S1⟩ => q Γ' q1 σ' H' L D S1 k⟩
theorem SWO_ret {Q : Flds → Prop} (h : Γ[n]? = some (.ob false w C fs vs)) (q : Q fs) : SWO K (tRet (tVar n)) Γ C Q := fun σ H L D S k => by
  obtain ⟨a, dx, M, rfl, l, hw, R, _, _⟩ := S.focusO h
  have R : Rp K H (.ob a (.ins C dx (fvals fs vs)) :: (fits fs vs ++ (M ++ L))) := R
  have drop : ∀ (A : List It) {B : List It}, Rp K H (A ++ B) → Rp K H B := fun A => by
    induction A with
    | nil => exact id
    | cons m A ih => exact fun R => ih R.tail
  have R1 : Rp K H (M ++ (.ob a (.ins C dx (fvals fs vs)) :: (fits fs vs ++ L))) := R.perm ((List.Perm.cons _ perm_swapA).trans List.perm_middle.symm)
  exact ⟨.ref a, hw, k a dx fs vs H q l (drop M R1)⟩
def spR (K : PySem.W.Frag) (C : Addr) (pre : List PyData → (Flds → Prop) → Prop) : Sp := fun vs H G _ => ∃ ds L Q, vs.length = ds.length ∧ Rp K H (each .lf vs ds ++ L) ∧ pre ds Q ∧ ∀ a dx fs vals H', Q fs → vals.length = fs.length → Rp K H' (.ob a (.ins C dx (fvals fs vals)) :: (fits fs vals ++ L)) → G (.ref a) H'
/-- x = f(..), f tells an instance -/
theorem SW_callR {pre : List PyData → (Flds → Prop) → Prop} {E : XK} (hn : n < Γ.length) (q : AW K tr Γ fun bs Γ1 => Γ1.length = Γ.length ∧ pre (bs.map Prod.snd) fun fs' => ∀ w vs', vs'.length = fs'.length → P.nx (Γ1.set n (.ob false w C fs' vs'))) :
    SW K (tAsg (tCall (spR K C pre) [] E tr) (gName n)) Γ P := fun σ H L D S kk => q σ H L _ S fun bs Γ1 us H1 ⟨hl, q1⟩ lu S1 => by
  obtain ⟨M, R, back⟩ := S1.lift (A := zipI us bs)
  rw [List.append_nil]
  refine ⟨bs.map Prod.snd, M, _, by rw [lu, List.length_map], Rp.fzZ lu R, q1, fun a dx fs vals H' q2 l2 R2 => ?_⟩
  have S2 := back H' (.ob a (.ins C dx (fvals fs vals)) :: fits fs vals) R2
  have S3 : Stt K Γ1 σ H' (obI false a (.ins C dx (fvals fs vals)) :: (fits fs vals ++ L)) := S2
  exact kk.nx _ _ _ (q2 (.ref a) vals l2) (S3.putO l2 (by rw [hl]; exact hn))
/-! a call whose second argument is an instance, read alone -/
def spA2 (K : PySem.W.Frag) (C : Addr) (pre : PyData → Flds → (Own → PyData → Prop) → Prop) : Sp := fun us H G _ => ∃ u a dx fs vals d L Q, us = [u, .ref a] ∧ vals.length = fs.length ∧ Rp K H (.sh u d :: .ob a (.ins C dx (fvals fs vals)) :: (fits fs vals ++ L)) ∧ pre d fs Q ∧
  ∀ s r v dx' H', Q s r → Rp K H' (.ow s v r :: .ob a (.ins C dx' (fvals fs vals)) :: (fits fs vals ++ L)) → G v H'
theorem EW_callA2 {pre : PyData → Flds → (Own → PyData → Prop) → Prop} {E : XK} (q : EW K te Γ fun s d Γ1 => ∃ w fs vs, Γ1[n]? = some (.ob false w C fs vs) ∧ pre d fs fun s2 r => QE s2 r Γ1) :
    EW K (tCall (spA2 K C pre) [] E (tCons te (tCons (tVar n) tNil))) Γ QE := fun σ H L G S k => q σ H L _ S fun s d Γ1 u H1 ⟨w, fs, vs, h1, q1⟩ S1 => by
  obtain ⟨a, dx, M, rfl, l, hw, R, put, _⟩ := S1.focusO h1
  have R : Rp K H1 (.ob a (.ins C dx (fvals fs vs)) :: (fits fs vs ++ (M ++ .ow s u d :: L))) := R
  have R1 : Rp K H1 (.ow s u d :: .ob a (.ins C dx (fvals fs vs)) :: (fits fs vs ++ (M ++ L))) := R.perm (by
    refine List.Perm.trans (List.Perm.cons _ ?_) (List.Perm.swap _ _ _)
    rw [← List.append_assoc, ← List.append_assoc]
    exact List.perm_middle)
  have R2 : Rp K H1 (.sh u d :: .ob a (.ins C dx (fvals fs vs)) :: (fits fs vs ++ (M ++ L))) := R1.fz
  refine ⟨.ref a, hw, u, a, dx, fs, vs, d, M ++ L, _, rfl, l, R2, q1, fun s2 r v dx' H' q2 R3 => k _ _ _ _ _ q2 ?_⟩
  refine Stt.selfO h1 (put H' (.ow s2 v r :: L) false dx' fs vs l ?_)
  refine (R3.perm (.swap _ _ _)).perm (List.Perm.cons _ ?_)
  rw [← List.append_assoc, ← List.append_assoc]
  exact List.perm_middle.symm
/-! over the lists of two attributes -/
theorem Stt.ixF [k : HasF K C f] [c : FldC fs f i (.li .lf) (.list ds)] (S : Stt K Γ σ H L) (h : Γ[n]? = some (.ob b w C fs vs)) : ∃ p us, vs[i]? = some (.ref p) ∧ (∀ G : VK, G (.ref p) H → tFld K (tVar n) f σ H G) ∧ H p = some (.lst us) ∧ us.length = ds.length ∧
    ∀ (j : Nat) (dj : PyData), ds[j]? = some dj → ∃ x, us[j]? = some x ∧ Stt K Γ σ H (.sh x dj :: L) := by
  obtain ⟨v2, M, rd, hv2, R, put⟩ := S.focusF h (f := f)
  obtain ⟨a, xs, rfl, l, R1⟩ := R.take
  refine ⟨a, xs, hv2, rd, R1.topAt, l, fun j dj hj => ?_⟩
  have hi : j < xs.length := by rw [l]; exact (List.getElem?_eq_some_iff.mp hj).1
  have hx : xs[j]? = some xs[j] := List.getElem?_eq_getElem hi
  refine ⟨xs[j], hx, Stt.keepF h (put _ _ _ _ ?_)⟩
  have R2 : Rp K H (each .lf xs ds ++ (.top a xs :: (M ++ L))) := R1.perm List.perm_middle.symm
  have R3 : Rp K H (.sh xs[j] dj :: (each .lf xs ds ++ (.top a xs :: (M ++ L)))) := R2.shM (List.mem_append_left _ (each_mem hx hj))
  have R4 : Rp K H (.top a xs :: (each .lf xs ds ++ (M ++ .sh xs[j] dj :: L))) := R3.perm (by
    refine List.Perm.trans ?_ (List.perm_middle (l₁ := each .lf xs ds))
    refine (List.perm_middle.symm : (It.sh xs[j] dj :: (each .lf xs ds ++ (.top a xs :: (M ++ L)))).Perm (each .lf xs ds ++ (It.sh xs[j] dj :: (.top a xs :: (M ++ L))))).trans ?_
    refine List.Perm.append_left _ ((List.Perm.swap _ _ _).trans (List.Perm.cons _ ?_))
    exact List.perm_middle.symm)
  exact R4.put l
/-- for x, y in zip(self.f, self.g) -/
theorem SW_forZF {gt : TG} {tbd : L2.TS} [kf : HasF K C f] [kg : HasF K C g] [cf : FldC fs f i (.li .lf) (.list ds)] [cg : FldC fs g j (.li .lf) (.list es)] (h : Γ[n]? = some (.ob b w C fs vs)) (le : es.length = ds.length) (Pv : Nat → Ev → Prop) (h0 : Pv 0 Γ) (hk : ∀ i Γ', Pv i Γ' → Γ'[n]? = some (.ob b w C fs vs))
    (hs : ∀ i x y Γ', ds[i]? = some x → es[i]? = some y → Pv i Γ' → GW K gt .lf (.tuple [x, y]) Γ' fun Γ2 => SW K tbd Γ2 { P with nx := Pv (i + 1), ct := Pv (i + 1), bk := P.nx }) (hd : ∀ Γ', Pv ds.length Γ' → P.nx Γ') :
    SW K (tFor (iZip K (tCons (tFld K (tVar n) f) (tCons (tFld K (tVar n) g) tNil))) gt tbd) Γ P := fun σ H L D S kk => by
  obtain ⟨p, us, hp, rd, ep, lp, _⟩ := S.ixF h (f := f)
  obtain ⟨p2, us2, hp2, rd2, ep2, lp2, _⟩ := S.ixF h (f := g)
  dsimp only [tFor, iZip, tCons, tNil]
  refine rd _ ?_
  refine rd2 _ ?_
  refine ⟨p, p2, us, us2, rfl, SqL.of ep, SqL.of ep2, ?_⟩
  refine ⟨fun q m σ H => m = ds.length - q ∧ q ≤ ds.length ∧ ∃ Γ', Pv q Γ' ∧ Stt K Γ' σ H L, ⟨_, rfl, Nat.zero_le _, Γ, h0, S⟩, ?_⟩
  rintro q m σ1 H1 ⟨rfl, hq, Γ', pv, S1⟩
  have h1 := hk q Γ' pv
  obtain ⟨p', us', hp', _, ep', lp', at1⟩ := S1.ixF h1 (f := f)
  rw [hp] at hp'; cases hp'
  obtain ⟨p2', us2', hp2', _, ep2', lp2', _⟩ := S1.ixF h1 (f := g)
  rw [hp2] at hp2'; cases hp2'
  by_cases c : q < ds.length
  · have hx : ds[q]? = some ds[q] := List.getElem?_eq_getElem c
    have hy : es[q]? = some (es[q]'(by omega)) := List.getElem?_eq_getElem (by omega)
    obtain ⟨x, ex, Sx⟩ := at1 q _ hx
    obtain ⟨p3, us3, hp3, _, ep3, _, at2⟩ := Sx.ixF h1 (f := g)
    rw [hp2] at hp3; cases hp3
    rw [ep2'] at ep3; cases ep3
    obtain ⟨y, ey, Sy⟩ := at2 q _ hy
    refine .inr ⟨⟨us', us2', x, y, SqL.of ep', SqL.of ep2', ex, ey⟩, fun σ' H' => ∃ Γ', Pv (q + 1) Γ' ∧ Stt K Γ' σ' H' L, fun σ' H' h => ⟨ds.length - (q + 1), by omega, rfl, c, h⟩, fun v H' hyl => ?_⟩
    obtain ⟨T, x', y', rfl, nT, rfl, hx', hy'⟩ := hyl
    have e1 := hx' us' (SqL.of ep')
    rw [ex] at e1; cases e1
    have e2 := hy' us2' (SqL.of ep2')
    rw [ey] at e2; cases e2
    obtain ⟨M, R, back⟩ := Sy.lift (A := [.sh y (es[q]'(by omega)), .sh x ds[q]])
    have R1 : Rp K H1 (.sh x ds[q] :: .sh y (es[q]'(by omega)) :: M) := R.perm (.swap _ _ _)
    have R2 := (Rp.mk2 R1 nT).fz
    have S2 : Stt K Γ' σ1 (upd H1 T (.tup [x, y])) (.sh (.ref T) (.tuple [ds[q], es[q]'(by omega)]) :: L) := back _ [.sh (.ref T) _] R2
    exact hs q _ _ Γ' hx hy pv σ1 _ L (.ref T) _ S2 fun Γ2 σ2 H2 q2 S3 => q2 σ2 H2 L _ S3 ⟨fun Γ' σ' H' q S => ⟨Γ', q, S⟩, kk.rt, kk.nx, fun Γ' σ' H' q S => ⟨Γ', q, S⟩, kk.er⟩
  · have e : q = ds.length := by omega
    subst e
    exact .inl ⟨⟨us', us2', SqL.of ep', SqL.of ep2', .inl (by omega)⟩, kk.nx _ _ _ (hd Γ' pv) S1⟩
end
section
variable {P : Program} {wd : World} {K : PySem.W.Frag} {mg : Str → Option Value} {base : Heap} {C : Addr}
theorem okR {pre : List PyData → (Flds → Prop) → Prop} {x qual : Str} {st : Stmt} {f : Addr} {fd : FuncData} {N ps : List Str} {k : Nat} (F : Fun K x qual st f fd) (S : FnScope N ps (defScope st)) (l : ∀ ds Q, pre ds Q → ds.length = ps.length)
    (hb : ∀ (cdv : Value) (A : Around) (outer : List Env) (s : Shared) (H : Hp) (E : XK), Room k (A.deeper (envOfC qual (defScope st) s.heap.objs.size f cdv)) → ∃ t, PSs (cxOf CX0 P wd K mg base N qual (defScope st) f cdv A outer s H E).nox (defBody st) t ∧
      ∀ ds Q, pre ds Q → SWO K t (ds.map (Sl.v .lf) ++ List.replicate (N.length - ds.length) .un) C Q) : FnOk P wd K mg base CX0 (k + 1) f fd ps (spR K C pre) := by
  refine F.ok S (fun vs H G E ⟨ds, L, Q, l1, _, hp, _⟩ => l1.trans (l ds Q hp)) (fun cdv A outer s H vs G E hr ⟨ds, L, Q, l1, R, hp, kk⟩ => ?_)
  obtain ⟨t, h1, h2⟩ := hb cdv A outer s H E hr
  exact ⟨t, h1, h2 ds Q hp (start N vs) H L _ ⟨each .lf vs ds, (EnvR.start l1).uns (by rw [l1, List.length_replicate]), R⟩ fun a dx fs vals H' q l R' => kk a dx fs vals H' q l R'⟩
theorem okA2 {pre : PyData → Flds → (Own → PyData → Prop) → Prop} {x qual : Str} {st : Stmt} {f : Addr} {fd : FuncData} {N ps : List Str} {k : Nat} (F : Fun K x qual st f fd) (S : FnScope N ps (defScope st)) (l : ps.length = 2)
    (hb : ∀ (cdv : Value) (A : Around) (outer : List Env) (s : Shared) (H : Hp) (E : XK), Room k (A.deeper (envOfC qual (defScope st) s.heap.objs.size f cdv)) → ∃ t, PSs (cxOf CX0 P wd K mg base N qual (defScope st) f cdv A outer s H E).nox (defBody st) t ∧
      ∀ w vs d fs Q, vs.length = fs.length → pre d fs Q → SW K t (.v .lf d :: .ob false w C fs vs :: List.replicate (N.length - 2) .un) { nx := fun Γ => Γ[1]? = some (.ob false w C fs vs) ∧ Q .lf .none, rt := fun s2 r Γ => Γ[1]? = some (.ob false w C fs vs) ∧ Q s2 r }) :
    FnOk P wd K mg base CX0 (k + 1) f fd ps (spA2 K C pre) := by
  refine F.ok S (fun vs H G E ⟨u, a, dx, fs, vals, d, L, Q, e, _⟩ => by rw [e]; exact l.symm) (fun cdv A outer s0 H vs G E hr ⟨u, a, dx, fs, vals, d, L, Q, e, l2, R, hp, kk⟩ => ?_)
  subst e
  obtain ⟨t, h1, h2⟩ := hb cdv A outer s0 H E hr
  have drop : ∀ {H' : Hp} (A : List It) {B : List It}, Rp K H' (A ++ B) → Rp K H' B := fun {H'} A => by
    induction A with
    | nil => exact id
    | cons m A ih => exact fun R => ih R.tail
  have fin : ∀ {Γ' σ' H' s2 v r}, Γ'[1]? = some (.ob false (.ref a) C fs vals) → Q s2 r → Stt K Γ' σ' H' (.ow s2 v r :: L) → G v H' := fun {Γ' σ' H' s2 v r} h q S' => by
    obtain ⟨a', dx', M, e, l3, _, R2, _, _⟩ := S'.focusO h
    cases e
    have R2 : Rp K H' (.ob a (.ins C dx' (fvals fs vals)) :: (fits fs vals ++ (M ++ .ow s2 v r :: L))) := R2
    refine kk s2 r v dx' H' q (drop M (R2.perm ?_))
    refine List.Perm.trans ?_ (List.perm_middle.symm)
    refine List.Perm.trans (List.Perm.cons _ (?_ : (fits fs vals ++ (M ++ .ow s2 v r :: L)).Perm (.ow s2 v r :: (M ++ (fits fs vals ++ L))))) ?_
    · rw [← List.append_assoc, ← List.append_assoc]
      exact List.perm_middle.trans (List.Perm.cons _ (List.perm_append_comm.append_right L))
    · refine (List.Perm.swap _ _ _).trans (List.Perm.cons _ ?_)
      exact List.perm_middle.symm
  refine ⟨t, h1, h2 (.ref a) vals d fs Q l2 hp (start N [u, .ref a]) H L _ ⟨.ow .lf u d :: .ob a (.ins C dx (fvals fs vals)) :: (fits fs vals ++ []), ?_, ?_⟩ ⟨fun Γ' σ' H' ⟨h, q⟩ S' => fin h q (S'.flat .non rfl), fun s2 r Γ' σ' v H' ⟨h, q⟩ S' => fin h q S', fun _ _ _ q => q.elim, fun _ _ _ q => q.elim, fun _ _ => trivial⟩⟩
  · have u : EnvR (List.replicate (N.length - 2) Sl.un) (List.replicate (N.length - 2) none) [] := by
      have := EnvR.uns (Γ := []) (σ := []) (I := []) .nil (σ' := List.replicate (N.length - 2) none) (k := N.length - 2) (by rw [List.length_replicate])
      exact this
    exact .v (.ob (b := false) u l2)
  · rw [List.append_nil, List.cons_append, List.cons_append]; exact R
end
/-! ### boxes: instances, as the walk asks for them -/
class PutC (fs : Flds) (f : Str) (s : Own) (d : PyData) (fs' : outParam Flds) : Prop where
  pf : ∃ i s0 d0, FldC fs f i s0 d0 ∧ fs' = fs.set i (f, s, d)
class PutN (fs : Flds) (f : Str) (s : Own) (d : PyData) (fs' : outParam Flds) : Prop where
  pf : NoF fs f ∧ fs' = fs ++ [(f, s, d)]
section
variable {fs fs' : Flds} {f g : Str} {s s0 : Own} {d d0 : PyData} {x : Own × PyData}
instance (priority := 900) : PutC ((f, s0, d0) :: fs) f s d ((f, s, d) :: fs) := ⟨0, s0, d0, inferInstance, rfl⟩
instance (priority := 800) [h : PutC fs f s d fs'] [n : NeS g f] : PutC ((g, x) :: fs) f s d ((g, x) :: fs') := ⟨by
  obtain ⟨i, s0, d0, h1, rfl⟩ := h.pf
  exact ⟨i + 1, s0, d0, inferInstance, rfl⟩⟩
instance : PutN [] f s d [(f, s, d)] := ⟨inferInstance, rfl⟩
instance [h : PutN fs f s d fs'] [n : NeS g f] : PutN ((g, x) :: fs) f s d ((g, x) :: fs') := ⟨by
  obtain ⟨h1, rfl⟩ := h.pf
  exact ⟨inferInstance, rfl⟩⟩
end
section
variable {K : PySem.W.Frag} {Γ Γ1 : Ev} {σ : L2.St} {H H' : Hp} {L L' I : List It} {s s' s1 s0 : Own} {d d' d0 : PyData} {w v : V} {n i : Nat} {b : Bool} {C : Addr} {fs fs' : Flds} {vs : List V} {f g m : Str} {te ti tv : TE} {tr : TA} {QE : Own → PyData → Ev → Prop} {ds es : List PyData} {P : Po} {e : PyData}
theorem FldC.put (c : FldC fs f i s0 d0) (p : PutC fs f s d fs') : fs' = fs.set i (f, s, d) := by
  obtain ⟨j, s2, d2, h, rfl⟩ := p.pf
  have e : j = i := by
    rcases Nat.lt_trichotomy j i with l | l | l
    · exact absurd rfl (c.no j _ l h.at_)
    · exact l
    · exact absurd rfl (h.no i _ l c.at_)
  rw [e]
def PutB (fs : Flds) (f : Str) (s : Own) (d : PyData) (F : Flds → Prop) : Prop := ∃ fs', PutC fs f s d fs' ∧ F fs'
theorem PutB_i {F : Flds → Prop} (c : PutC fs f s d fs') (q : F fs') : PutB fs f s d F := ⟨fs', c, q⟩
def OwnAt (Γ : Ev) (n : Nat) (x : Sl) (F : Prop) : Prop := Γ[n]? = some x ∧ F
theorem OwnAt_i {x : Sl} {F : Prop} (h : Γ[n]? = some x) (q : F) : OwnAt Γ n x F := ⟨h, q⟩
theorem EW_fldI (h : Γ[n]? = some (.ob b w C fs vs)) (k : HasF K C f) (c : FldC fs f i .lf d) (q : QE .lf d Γ) : EW K (tFld K (tVar n) f) Γ QE := EW_fld h q
theorem EW_fldFI (h : Γ[n]? = some (.ob b w C fs vs)) (k : HasF K C f) (c : FldC fs f i s d) (p : PutC fs f .lf d fs') (q : QE .lf d (Γ.set n (.ob b w C fs' vs))) : EW K (tFld K (tVar n) f) Γ QE := EW_fldF (s := s) h (by rw [← c.put p]; exact q)
theorem EW_ixFI (h : Γ[n]? = some (.ob b w C fs vs)) (k : HasF K C f) (c : FldC fs f i (.li .lf) (.list ds)) (q : EW K ti Γ fun _ e Γ2 => OwnAt Γ2 n (.ob b w C fs vs) (IxB (.li .lf) (.list ds) e fun d' => QE .lf d' Γ2)) : EW K (tOp (rIxL K) (tFld K (tVar n) f) ti) Γ QE := EW_ixF h (q.mono fun _ e Γ2 ⟨h2, ds', j, d', e1, e2, h3, _, q⟩ => by
  cases e1
  exact ⟨h2, j, d', e2, h3, q⟩)
theorem EW_cbF {r : List V → Hp → VK → Prop} (h : Γ[n]? = some (.ob b w C fs vs)) (k : HasF K C f) (c : FldC fs f i s d) (q : CM K r d fun s2 d2 => QE s2 d2 Γ) : EW K (tCB r (tCons (tFld K (tVar n) f) tNil)) Γ QE := fun σ H L G S kk => by
  obtain ⟨v, M, rd, hv, R, put⟩ := S.focusF h (f := f)
  refine rd _ (q H _ G v s R mem_here fun s2 d2 u H' q3 R3 => kk _ _ _ _ _ q3 (Stt.keepF h (put _ _ _ _ R3.swq)))
/-- one that reads an attribute alone -/
theorem EW_opFW {r : R2} (h : Γ[n]? = some (.ob b w C fs vs)) (k : HasF K C f) (c : FldC fs f i (.li s1) d) (q : EW K te Γ fun s' e Γ2 => OwnAt Γ2 n (.ob b w C fs vs) (OM K r e d fun s2 d2 => QE s2 d2 Γ2)) : EW K (tOp r te (tFld K (tVar n) f)) Γ QE := fun σ H L G S kk => q σ H L _ S fun s' e Γ2 x H1 ⟨h2, om⟩ S1 => by
  obtain ⟨v, M, rd, hv, R, put⟩ := S1.focusF h2 (f := f)
  exact rd _ (om H1 _ G x v s' (.li s1) R (.tail _ (List.mem_append_right _ mem_here)) mem_here fun s2 d2 u H' q3 R3 => kk _ _ _ _ _ q3 (Stt.keepF h2 (put _ _ _ _ R3.swp)))
theorem EW_appFI (h : Γ[n]? = some (.ob b w C fs vs)) (k : HasF K C f) (c : FldC fs f i (.li s1) (.list ds)) (q : EW K te Γ fun s d Γ1 => OwnAt Γ1 n (.ob b w C fs vs) ((s = s1 ∨ s1 = .lf) ∧ ds.length < 100000 ∧ PutB fs f (.li s1) (.list (ds ++ [d])) fun fs' => QE .lf .none (Γ1.set n (.ob b w C fs' vs)))) :
    EW K (tBM K "list" rAppend (tFld K (tVar n) f) (tCons te tNil)) Γ QE := EW_appF h (q.mono fun s d Γ1 ⟨h1, h2, h3, fs', p, h4⟩ => ⟨h1, h2, h3, by rw [← c.put p]; exact h4⟩)
theorem GW_setFI {Q : Ev → Prop} (h : Γ[n]? = some (.ob b w C fs vs)) (k : HasF K C f) (c : FldC fs f i (.li s1) (.list ds)) (q : EW K ti Γ fun _ e Γ2 => ∃ j : Nat, e = .int (j : Int) ∧ OwnAt Γ2 n (.ob b w C fs vs) (j < ds.length ∧ (s = s1 ∨ s1 = .lf) ∧ PutB fs f (.li s1) (.list (ds.set j d)) fun fs' => Q (Γ2.set n (.ob b w C fs' vs)))) :
    GW K (gSub (tFld K (tVar n) f) ti rSetL) s d Γ Q := GW_setF h (q.mono fun _ e Γ2 ⟨j, e1, h1, h2, h3, fs', p, h4⟩ => ⟨j, e1, h1, h2, h3, by rw [← c.put p]; exact h4⟩)
theorem FldS_put {F : Ev → Prop} (h : Γ1[n]? = some (.ob false w C fs vs)) (k : HasF K C f) (c : PutC fs f s d fs') (l : fs.length < 1000) (q : ∀ vs', vs'.length = fs'.length → F (Γ1.set n (.ob false w C fs' vs'))) : FldS K Γ1 n f s d F := by
  obtain ⟨i, s0, d0, h1, rfl⟩ := c.pf
  exact FldS_set h l q
theorem FldS_putN {F : Ev → Prop} (h : Γ1[n]? = some (.ob false w C fs vs)) (k : HasF K C f) (c : PutN fs f s d fs') (l : fs.length < 1000) (q : ∀ vs', vs'.length = fs'.length → F (Γ1.set n (.ob false w C fs' vs'))) : FldS K Γ1 n f s d F := by
  obtain ⟨h1, rfl⟩ := c.pf
  exact FldS_new h l q
/-- an instance stands at a name -/
def ObB (Γ : Ev) (n : Nat) (w : V) (C : Addr) (F : Flds → List V → Prop) : Prop := ∃ fs vs, Γ[n]? = some (.ob false w C fs vs) ∧ F fs vs
theorem ObB_i {F : Flds → List V → Prop} (h : Γ[n]? = some (.ob false w C fs vs)) (q : F fs vs) : ObB Γ n w C F := ⟨fs, vs, h, q⟩
theorem EW_methI {pre : Flds → List PyData → (Own → PyData → Flds → Prop) → Prop} {E : XK} (h : Γ[n]? = some (.ob b w C fs vs)) (c : NoF fs m) (q : AW K tr Γ fun bs Γ1 => SndB bs fun ds => ObB Γ1 n w C fun fs _ => pre fs ds fun s2 r fs' => ∀ vs', vs'.length = fs'.length → QE s2 r (Γ1.set n (.ob false w C fs' vs'))) :
    EW K (tMeth C m (spO K C pre) [] E (tVar n) tr) Γ QE := fun σ H L G S k => by
  refine EW_meth h ?_ σ H L G S k
  intro σ2 H2 L2 G2 S2 k2
  exact q σ2 H2 L2 G2 S2 fun bs Γ1 us H3 ⟨_, fs1, vs1, h1, q1⟩ l S3 => k2 bs Γ1 us H3 ⟨fs1, vs1, h1, q1⟩ l S3
instance : St1 (SW K (sFld K (tVar n) tv f) Γ P) (EW K tv Γ fun s d Γ1 => FldS K Γ1 n f s d P.nx) := ⟨SW_fld⟩
end
instance : NeS "main_count" "number_rows" := ⟨by decide +kernel⟩
instance : NeS "main_count" "goal_row" := ⟨by decide +kernel⟩
instance : NeS "main_count" "stand_columns" := ⟨by decide +kernel⟩
instance : NeS "main_count" "unit_number" := ⟨by decide +kernel⟩
instance : NeS "main_count" "turned_row" := ⟨by decide +kernel⟩
instance : NeS "main_count" "turn_about" := ⟨by decide +kernel⟩
instance : NeS "main_count" "entering_column" := ⟨by decide +kernel⟩
instance : NeS "main_count" "leaving_row" := ⟨by decide +kernel⟩
instance : NeS "main_count" "lead_down" := ⟨by decide +kernel⟩
instance : NeS "main_count" "helping_row" := ⟨by decide +kernel⟩
instance : NeS "main_count" "aim_at" := ⟨by decide +kernel⟩
instance : NeS "main_count" "has_some" := ⟨by decide +kernel⟩
instance : NeS "main_count" "lead_to" := ⟨by decide +kernel⟩
instance : NeS "number_rows" "main_count" := ⟨by decide +kernel⟩
instance : NeS "number_rows" "goal_row" := ⟨by decide +kernel⟩
instance : NeS "number_rows" "stand_columns" := ⟨by decide +kernel⟩
instance : NeS "number_rows" "unit_number" := ⟨by decide +kernel⟩
instance : NeS "number_rows" "turned_row" := ⟨by decide +kernel⟩
instance : NeS "number_rows" "turn_about" := ⟨by decide +kernel⟩
instance : NeS "number_rows" "entering_column" := ⟨by decide +kernel⟩
instance : NeS "number_rows" "leaving_row" := ⟨by decide +kernel⟩
instance : NeS "number_rows" "lead_down" := ⟨by decide +kernel⟩
instance : NeS "number_rows" "helping_row" := ⟨by decide +kernel⟩
instance : NeS "number_rows" "aim_at" := ⟨by decide +kernel⟩
instance : NeS "number_rows" "has_some" := ⟨by decide +kernel⟩
instance : NeS "number_rows" "lead_to" := ⟨by decide +kernel⟩
instance : NeS "goal_row" "main_count" := ⟨by decide +kernel⟩
instance : NeS "goal_row" "number_rows" := ⟨by decide +kernel⟩
instance : NeS "goal_row" "stand_columns" := ⟨by decide +kernel⟩
instance : NeS "goal_row" "unit_number" := ⟨by decide +kernel⟩
instance : NeS "goal_row" "turned_row" := ⟨by decide +kernel⟩
instance : NeS "goal_row" "turn_about" := ⟨by decide +kernel⟩
instance : NeS "goal_row" "entering_column" := ⟨by decide +kernel⟩
instance : NeS "goal_row" "leaving_row" := ⟨by decide +kernel⟩
instance : NeS "goal_row" "lead_down" := ⟨by decide +kernel⟩
instance : NeS "goal_row" "helping_row" := ⟨by decide +kernel⟩
instance : NeS "goal_row" "aim_at" := ⟨by decide +kernel⟩
instance : NeS "goal_row" "has_some" := ⟨by decide +kernel⟩
instance : NeS "goal_row" "lead_to" := ⟨by decide +kernel⟩
instance : NeS "stand_columns" "main_count" := ⟨by decide +kernel⟩
instance : NeS "stand_columns" "number_rows" := ⟨by decide +kernel⟩
instance : NeS "stand_columns" "goal_row" := ⟨by decide +kernel⟩
instance : NeS "stand_columns" "unit_number" := ⟨by decide +kernel⟩
instance : NeS "stand_columns" "turned_row" := ⟨by decide +kernel⟩
instance : NeS "stand_columns" "turn_about" := ⟨by decide +kernel⟩
instance : NeS "stand_columns" "entering_column" := ⟨by decide +kernel⟩
instance : NeS "stand_columns" "leaving_row" := ⟨by decide +kernel⟩
instance : NeS "stand_columns" "lead_down" := ⟨by decide +kernel⟩
instance : NeS "stand_columns" "helping_row" := ⟨by decide +kernel⟩
instance : NeS "stand_columns" "aim_at" := ⟨by decide +kernel⟩
instance : NeS "stand_columns" "has_some" := ⟨by decide +kernel⟩
instance : NeS "stand_columns" "lead_to" := ⟨by decide +kernel⟩
instance : NeS "unit_number" "main_count" := ⟨by decide +kernel⟩
instance : NeS "unit_number" "number_rows" := ⟨by decide +kernel⟩
instance : NeS "unit_number" "goal_row" := ⟨by decide +kernel⟩
instance : NeS "unit_number" "stand_columns" := ⟨by decide +kernel⟩
instance : NeS "unit_number" "turned_row" := ⟨by decide +kernel⟩
instance : NeS "unit_number" "turn_about" := ⟨by decide +kernel⟩
instance : NeS "unit_number" "entering_column" := ⟨by decide +kernel⟩
instance : NeS "unit_number" "leaving_row" := ⟨by decide +kernel⟩
instance : NeS "unit_number" "lead_down" := ⟨by decide +kernel⟩
instance : NeS "unit_number" "helping_row" := ⟨by decide +kernel⟩
instance : NeS "unit_number" "aim_at" := ⟨by decide +kernel⟩
instance : NeS "unit_number" "has_some" := ⟨by decide +kernel⟩
instance : NeS "unit_number" "lead_to" := ⟨by decide +kernel⟩
/-- a board -/
abbrev bF (m : Int) (rows : List (List Int)) (og : Own) (goal : List Int) (st : List Int) (u : Int) : Flds := [("main_count", .lf, .int m), ("number_rows", .li .lf, LD rows), ("goal_row", og, IL goal), ("stand_columns", .li .lf, IL st), ("unit_number", .lf, .int u)]
example {m u : Int} {rows : List (List Int)} {og : Own} {goal st : List Int} : FldC (bF m rows og goal st u) "stand_columns" 3 (.li .lf) (IL st) := inferInstance
example {m u : Int} {rows : List (List Int)} {og : Own} {goal st : List Int} : NoF (bF m rows og goal st u) "lead_to" := inferInstance
example {m u : Int} {rows : List (List Int)} {og : Own} {goal st : List Int} : ∃ x, PutC (bF m rows og goal st u) "goal_row" .lf (IL []) x := ⟨_, inferInstance⟩
local macro_rules | `(tactic| walk_at "sq") => `(tactic| first
  | with_reducible assumption
  | (with_reducible refine Rp.fr (by assumption) ?_; walk_at "mem")
  | exact fr_one_at | exact fr_zero_at | exact fr_neg_at | exact fr_int_at | exact sqT_at | exact sqL_at
  | (refine' sqT_new ?e ?h; (case e => assumption); (case h => walk_at "sq"))
  | (refine' sqT_mut ?e ?h; (case e => assumption); (case h => walk_at "sq"))
  | (refine' sqT_same ?e ?h; (case e => assumption); (case h => walk_at "sq"))
  | (refine' sqT_but ?e ?e2 ?h; (case e => assumption); (case e2 => assumption); (case h => walk_at "sq"))
  | (refine' sqL_new ?e ?h; (case e => assumption); (case h => walk_at "sq"))
  | (refine' sqL_same ?e ?h; (case e => assumption); (case h => walk_at "sq")) | fail)
local macro_rules | `(tactic| walk_at "same") => `(tactic| first
  | assumption
  | exact Same.refl _
  | (refine Same.trans ?_ (same_new (by assumption)); walk_at "same")
  | (refine Same.trans ?_ (by assumption); walk_at "same") | fail)
local macro_rules | `(tactic| walk_at "k") => `(tactic| try dsimp only [L2.cxOf, L2.Cx.nox])
local macro_rules | `(tactic| walk_at "step") => `(tactic| first
  | with_reducible refine St1.pf ?_
  | (with_reducible refine' g_var ?h ?q; (case h => with_unfolding_all rfl))
  | (with_reducible refine' g_ixT ?h ?a ?q; (case h => walk_at "sq"); (case a => with_unfolding_all rfl))
  | (with_reducible refine' g_mod ?h ?q; (case h => first | assumption | omega | decide))
  | (with_reducible refine' g_powE ?h ?a ?q; (case h => exact cpow_ok (by decide)); (case a => simp only [Int.reduceToNat, Int.reducePow]; rfl))
  | (with_reducible refine' g_isiT ?h ?q; (case h => walk_at "sq"))
  | (with_reducible refine' g_lenT ?h ?q; (case h => walk_at "sq"))
  | (with_reducible refine' g_aug ?h ?q; (case h => with_unfolding_all rfl))
  | (with_reducible refine' g_eq ?h ?q; (case h => rfl)) | (with_reducible refine' g_ne ?h ?q; (case h => rfl)))
local macro_rules | `(tactic| walk_at "go") => `(tactic| repeat (walk_at "step"))
local macro_rules | `(tactic| walk_at "bd") => `(tactic| (with_reducible refine g_mul ?c ?_; (case c => first | exact mulW 4000 4000 (Bd.num (by assumption)) (Bd.de (by assumption)) | exact mulW 4000 4000 (Bd.num (by assumption)) (Bd.num (by assumption)) | exact mulW 4000 4000 (Bd.de (by assumption)) (Bd.de (by assumption)) | exact mulW 4000 4000 (Bd.de (by assumption)) (Bd.num (by assumption)))))
local macro_rules | `(tactic| walk_at "gob") => `(tactic| repeat (first | walk_at "step" | walk_at "bd"))
local macro_rules | `(tactic| walk_at "sq") => `(tactic| first | (refine' sqT_pool ?b ?e ?h; (case b => assumption); (case e => assumption); (case h => walk_at "sq")) | fail)
local macro_rules | `(tactic| walk_at "pool") => `(tactic| first | assumption | (refine Pool.new ?h ?e; (case e => assumption); (case h => walk_at "pool")) | (refine Pool.same ?h ?e; (case e => assumption); (case h => walk_at "pool")) | fail)
local macro_rules | `(tactic| walk_at "but") => `(tactic| first | assumption | exact But.refl _ _ | (refine But.newp ?h ?e; (case e => assumption); (case h => walk_at "but")) | (refine But.trans ?h ?e; (case e => first | assumption | exact But.same (by assumption)); (case h => walk_at "but")) | fail)
local macro_rules | `(tactic| walk_at "bds") => `(tactic| first
  | assumption
  | exact Bd_zero (n := 1) (by decide) | exact Bd_one | exact Bd_int (by walk_at "ibs")
  | (refine' Bd_add ?a ?b; (case a => walk_at "bds"); (case b => walk_at "bds"))
  | (refine' Bd_sub ?a ?b; (case a => walk_at "bds"); (case b => walk_at "bds"))
  | (refine' Bd_mul ?a ?b; (case a => walk_at "bds"); (case b => walk_at "bds"))
  | (refine' Bd_div ?a ?b ?c; (case a => walk_at "bds"); (case b => walk_at "bds"); (case c => first | assumption | grind | fail))
  | fail)
local macro_rules | `(tactic| walk_at "ibs") => `(tactic| first
  | assumption
  | exact IB.num (by assumption)
  | exact IB.den (by assumption)
  | (refine' IB.mul ?a ?b; (case a => walk_at "ibs"); (case b => walk_at "ibs"))
  | (refine' IB.add ?a ?b; (case a => walk_at "ibs"); (case b => walk_at "ibs"))
  | (refine' IB.sub ?a ?b; (case a => walk_at "ibs"); (case b => walk_at "ibs"))
  | exact IB.lit
  | fail)
local macro_rules | `(tactic| walk_at "deed") => `(tactic| first
  | (with_reducible refine' g_plus ?hx ?hy ?bx ?bu ?q; (case hx => walk_at "sq"); (case hy => walk_at "sq"); (case bx => exact Bd.mono (by walk_at "bds") (by decide)); (case bu => exact Bd.mono (by walk_at "bds") (by decide)); intro p np)
  | (with_reducible refine' g_minus ?hx ?hy ?bx ?bu ?q; (case hx => walk_at "sq"); (case hy => walk_at "sq"); (case bx => exact Bd.mono (by walk_at "bds") (by decide)); (case bu => exact Bd.mono (by walk_at "bds") (by decide)); intro p np)
  | (with_reducible refine' g_times ?hx ?hy ?bx ?bu ?q; (case hx => walk_at "sq"); (case hy => walk_at "sq"); (case bx => exact Bd.mono (by walk_at "bds") (by decide)); (case bu => exact Bd.mono (by walk_at "bds") (by decide)); intro p np)
  | (with_reducible refine' g_divided ?hx ?hy ?bx ?bu ?h0 ?q; (case hx => walk_at "sq"); (case hy => walk_at "sq"); (case bx => exact Bd.mono (by walk_at "bds") (by decide)); (case bu => exact Bd.mono (by walk_at "bds") (by decide)); (case h0 => first | assumption | exact den_cast _ | grind | fail); intro p np)
  | (with_reducible refine' g_below ?hx ?hy ?bx ?bu ?q; (case hx => walk_at "sq"); (case hy => walk_at "sq"); (case bx => exact Bd.mono (by walk_at "bds") (by decide)); (case bu => exact Bd.mono (by walk_at "bds") (by decide)))
  | (with_reducible refine' g_neF ?hx ?hy ?q; (case hx => walk_at "sq"); (case hy => walk_at "sq"))
  | (with_reducible refine' g_eqF ?hx ?hy ?q; (case hx => walk_at "sq"); (case hy => walk_at "sq"))
  | (with_reducible refine' g_mul ?h ?q; (case h => exact IB.mulW (by walk_at "ibs") (by walk_at "ibs") (by decide)))
  | (with_reducible refine' g_frac ?h0 ?h ?q; (case h0 => walk_at "nz"); (case h => exact IB.mono (by walk_at "ibs") (by decide)); intro p np)
  | fail)
local macro_rules | `(tactic| walk_at "nz") => `(tactic| first | assumption | exact den_ne _ | exact num_ne (by assumption) | exact neg_ne (den_ne _) | (refine Int.mul_ne_zero ?a ?b; (case a => walk_at "nz"); (case b => walk_at "nz")) | fail)
local macro_rules | `(tactic| walk_at "rat") => `(tactic| (simp only [Rat.divInt_eq_div, Rat.intCast_add, Rat.intCast_sub, Rat.intCast_mul, Rat.intCast_zero, Rat.intCast_one, num_cast]; grind [den_cast]))
local macro_rules | `(tactic| walk_at "known") => `(tactic| first | walk_at "rat" | grind | fail)
local macro_rules | `(tactic| walk_at "god") => `(tactic| repeat (first | walk_at "step" | walk_at "deed" | (with_reducible refine And.intro two_le ?_; intro p np) | with_reducible refine ifN_known (by walk_at "known") ?_ | with_reducible refine ifY_known (by walk_at "known") ?_ | fail))
local macro_rules | `(tactic| walk_at "goe") => `(tactic| repeat (first | walk_at "step" | walk_at "deed" | (with_reducible refine And.intro two_le ?_; intro p np) | with_reducible refine ifN_known (by grind) ?_ | with_reducible refine ifY_known (by grind) ?_ | with_reducible refine ifY_no (by grind) ?_ | with_reducible refine ifN_no (by grind) ?_ | fail))
local macro_rules | `(tactic| walk_at "mem") => `(tactic| (repeat (first | exact List.mem_cons_self | with_reducible refine List.mem_cons_of_mem _ ?_ | with_reducible refine List.mem_append_right _ ?_)); done)
local macro_rules | `(tactic| walk_at "sel") => `(tactic| (repeat (first | exact Sel.here | with_reducible apply Sel.there | with_reducible apply Sel.app)); done)
local macro_rules | `(tactic| walk_at "wk0") => `(tactic| (repeat (first
  | with_reducible exact Wk.refl
  | with_reducible exact Wk.nil
  | refine Wk.dup (L1 := _) (by walk_at "sel") ?_
  | refine Wk.dupP (L1 := _) (by walk_at "sel") ?_
  | refine Wk.take (L1 := _) (by walk_at "sel") ?_
  | refine Wk.drop ?_
  | refine Wk.dropA ?_)); done)
local macro_rules | `(tactic| walk_at "wk1") => `(tactic| first | exact WkC.pf | walk_at "wk0")
local macro_rules | `(tactic| walk_at "wk") => `(tactic| exact Rp.wk (by assumption) (by walk_at "wk1"))
local macro_rules | `(tactic| walk_at "stepR") => `(tactic| first
  | walk_at "step"
  | (with_reducible refine' g_lenS ?R ?m ?q; (case R => assumption); (case m => walk_at "mem"))
  | (with_reducible refine' g_lenTS ?R ?m ?q; (case R => assumption); (case m => walk_at "mem"))
  | (with_reducible refine' g_inR ?R ?m ?q; (case R => assumption); (case m => walk_at "mem"))
  | (with_reducible refine' g_niR ?R ?m ?q; (case R => assumption); (case m => walk_at "mem"))
  | (with_reducible refine' g_isiLR ?R ?m ?q; (case R => assumption); (case m => walk_at "mem"))
  | (with_reducible refine' g_isiTR ?R ?m ?q; (case R => assumption); (case m => walk_at "mem"))
  | (with_reducible refine' g_isiLTR ?R ?m ?q; (case R => assumption); (case m => walk_at "mem"))
  | (with_reducible refine' g_isiTLR ?R ?m ?q; (case R => assumption); (case m => walk_at "mem"))
  | (with_reducible refine' g_eqFR ?R ?m ?m2 ?q; (case R => assumption); (case m => walk_at "mem"); (case m2 => walk_at "mem"))
  | (with_reducible refine' g_neFR ?R ?m ?m2 ?q; (case R => assumption); (case m => walk_at "mem"); (case m2 => walk_at "mem"))
  | (with_reducible refine' g_eqNI ?R ?m ?m2 ?q; (case R => assumption); (case m => walk_at "mem"); (case m2 => walk_at "mem"))
  | (with_reducible refine' g_neNI ?R ?m ?m2 ?q; (case R => assumption); (case m => walk_at "mem"); (case m2 => walk_at "mem"))
  | (with_reducible refine' g_gTup ?h ?l ?q; (case h => walk_at "sq"); (case l => with_unfolding_all rfl))
  | (refine' tBMq ?h ?q; (case h => refine' tyLR ?R ?m; (case R => assumption); (case m => walk_at "mem")))
  | fail)
local macro_rules | `(tactic| walk_at "goR") => `(tactic| repeat (walk_at "stepR"))
local macro_rules | `(tactic| walk_at "dtake") => `(tactic| (refine' g_dtakeR ?R ?h ?a ?b ?q; (case R => assumption); (case h => walk_at "sel"); (case a => first | decide | omega); (case b => first | decide | omega)))
local macro_rules | `(tactic| walk_at "take") => `(tactic| (refine' g_takeR ?R ?h ?n ?a ?b ?q; (case R => assumption); (case h => walk_at "sel"); (case n => first | decide | omega); (case a => first | decide | omega); (case b => first | decide | omega)))
local macro_rules | `(tactic| walk_at "side") => `(tactic| first | exact True.intro | omega | assumption | (simp only [List.length_map, List.length_append, List.length_cons, List.length_nil, List.length_range, rowG_len, tabG_len, List.length_take, List.length_drop] at *; omega) | fail)
local macro_rules | `(tactic| walk_at "W") => `(tactic| first
  | (with_reducible refine' EW_callSB ?h ?q; (case h => with_unfolding_all rfl))
  | (with_reducible refine' EW_lenScr ?h ?q; (case h => with_unfolding_all rfl))
  | (with_reducible refine' EW_ixScrB ?h ?q; (case h => with_unfolding_all rfl))
  | (with_reducible refine' SameS_i ?h ?q; (case h => with_unfolding_all rfl))
  | (with_reducible refine' IxSB_i ?h ?c ?q; (case h => with_unfolding_all rfl); (case c => walk_at "side"))
  | (with_reducible refine' EW_listO ?h ?hb ?q; (case h => with_unfolding_all rfl); (case hb => with_unfolding_all rfl))
  | (with_reducible refine' EW_ix2B ?h ?hb ?q; (case h => with_unfolding_all rfl); (case hb => with_unfolding_all rfl))
  | with_reducible refine St1.pf ?_
  | (with_reducible refine' EW_var ?h ?hb ?q; (case h => with_unfolding_all rfl); (case hb => with_unfolding_all rfl))
  | (with_reducible refine' AtB_i ?h ?hb ?q; (case h => with_unfolding_all rfl); (case hb => with_unfolding_all rfl))
  | (with_reducible refine' IxB_c ?hc ?hs ?q; (case hc => walk_at "side"); (case hs => first | exact .inl rfl | exact .inr rfl))
  | (with_reducible refine' IxB_r ?h ?hs ?q; (case h => with_unfolding_all rfl); (case hs => first | exact .inl rfl | exact .inr rfl))
  | (with_reducible refine' IxTB_r ?h ?q; (case h => with_unfolding_all rfl))
  | (with_reducible refine' IxTB_c ?hc ?q; (case hc => walk_at "side"))
  | (with_reducible refine' IxA_cL ?hc ?q; (case hc => walk_at "side"))
  | (with_reducible refine' IxA_cT ?hc ?q; (case hc => walk_at "side"))
  | (with_reducible refine' AppB_c ?h ?hb ?c ?hs ?z ?q; (case h => with_unfolding_all rfl); (case hb => with_unfolding_all rfl); (case c => exact inferInstance); (case hs => first | exact .inl rfl | exact .inr rfl); (case z => walk_at "side"))
  | (with_reducible refine' ExtB_c ?h ?hb ?c ?hs ?z ?q; (case h => with_unfolding_all rfl); (case hb => with_unfolding_all rfl); (case c => exact inferInstance); (case hs => first | exact .inl rfl | exact .inr rfl); (case z => walk_at "side"))
  | (with_reducible refine' Rg1C_n ?h ?q; (case h => walk_at "side"))
  | (with_reducible refine' Rg1C_s ?h ?q; (case h => walk_at "side"))
  | (with_reducible refine' Rg1C_i ?h ?q; (case h => walk_at "side"))
  | (with_reducible refine' Rg3C_i ?h ?q; (case h => walk_at "side"))
  | (with_reducible refine' Rg2C_1 ?h ?q; (case h => walk_at "side"))
  | (with_reducible refine' Rg2C_n ?h1 ?h ?q; (case h1 => walk_at "side"); (case h => walk_at "side"))
  | (with_reducible refine' Rg2C_i ?h ?q; (case h => walk_at "side"))
  | (with_reducible refine' OW_catC ?z ?q; (case z => walk_at "side"))
  | (with_reducible refine' OW_catAC ?z ?q; (case z => walk_at "side"))
  | (with_reducible refine' NoLB_i ?h ?q; (case h => with_unfolding_all rfl))
  | (with_reducible refine' OW_repC ?h1 ?z ?q; (case h1 => walk_at "side"); (case z => walk_at "side"))
  | (with_reducible refine' OW_div ?c ?q; (case c => exact wide_div (b := 200) (by decide) (by decide +kernel) (by decide) (by decide)))
  | (with_reducible refine' GW_set2T ?h ?hb ?p1 ?p2 ?h1 ?h2 ?q; (case h => with_unfolding_all rfl); (case hb => with_unfolding_all rfl); (case p1 => walk_at "pu"); (case p2 => walk_at "pu"); (case h1 => walk_at "side"); (case h2 => walk_at "side"))
  | (with_reducible refine' GW_setR ?h ?hb ?p1 ?h1 ?q; (case h => with_unfolding_all rfl); (case hb => with_unfolding_all rfl); (case p1 => walk_at "pu"); (case h1 => walk_at "side"))
  | (with_reducible refine' OW_mod ?h ?q; (case h => first | assumption | omega | decide))
  | (with_reducible refine' OW_pow ?h ?a ?q; (case h => exact cpow_ok (by decide)); (case a => simp only [Int.reduceToNat, Int.reducePow]; rfl))
  | (with_reducible refine' EW_glF ?h ?q; (case h => assumption))
  | fail)
local macro_rules | `(tactic| walk_at "goW") => `(tactic| repeat (walk_at "W"))
local macro_rules | `(tactic| walk_at "goK") => `(tactic| (walk_at "k"; walk_at "goW"))
local macro_rules | `(tactic| walk_at "pu") => `(tactic| first | exact Pu_c | (refine' Pu_var ?h ?hb; (case h => with_unfolding_all rfl); (case hb => with_unfolding_all rfl)) | (refine' Pu_op ?a ?b; (case a => walk_at "pu"); (case b => walk_at "pu")) | fail)
local macro_rules | `(tactic| walk_at "fz") => `(tactic| (with_reducible refine' EW_fz ?h ?hb ?q; (case h => with_unfolding_all rfl); (case hb => with_unfolding_all rfl)))
local macro_rules | `(tactic| walk_at "goF") => `(tactic| repeat (first | walk_at "W" | walk_at "fz"))
local macro_rules | `(tactic| walk_at "goKF") => `(tactic| (walk_at "k"; walk_at "goF"))
local macro_rules | `(tactic| walk_at "goZ") => `(tactic| repeat (first | with_reducible refine TupB_f ?_ | with_reducible refine LstB_f ?_ | walk_at "W" | walk_at "fz"))
/-! ### the text -/
def topS (i : Nat) : Stmt := PySem.Challenge.pw_farcuts_k33_sums_of_drawn_cuts.main.body.getD i (.Pass ⟨0, 0, 0, 0⟩)
abbrev s_wall : Stmt := topS 0
abbrev N_wall : List Str := ["k"]
abbrev P_wall : List Str := ["k"]
theorem sc_wall : FnScope N_wall P_wall (defScope s_wall) := ⟨rfl, rfl, rfl, by decide +kernel, rfl, by decide +kernel, by decide +kernel⟩
abbrev s_common_of : Stmt := topS 6
abbrev N_common_of : List Str := ["one", "other"]
abbrev P_common_of : List Str := ["one", "other"]
theorem sc_common_of : FnScope N_common_of P_common_of (defScope s_common_of) := ⟨rfl, rfl, rfl, by decide +kernel, rfl, by decide +kernel, by decide +kernel⟩
abbrev s_fraction : Stmt := topS 7
abbrev N_fraction : List Str := ["top", "bottom", "by"]
abbrev P_fraction : List Str := ["top", "bottom"]
theorem sc_fraction : FnScope N_fraction P_fraction (defScope s_fraction) := ⟨rfl, rfl, rfl, by decide +kernel, rfl, by decide +kernel, by decide +kernel⟩
abbrev s_Board___init__ : Stmt := inClass (topS 9) 0
abbrev N_Board___init__ : List Str := ["self", "rows", "sums", "many", "k", "i", "goal", "s", "row"]
abbrev P_Board___init__ : List Str := ["self", "rows", "sums"]
theorem sc_Board___init__ : FnScope N_Board___init__ P_Board___init__ (defScope s_Board___init__) := ⟨rfl, rfl, rfl, by decide +kernel, rfl, by decide +kernel, by decide +kernel⟩
abbrev s_Board_turned_row : Stmt := inClass (topS 9) 1
abbrev N_Board_turned_row : List Str := ["self", "row", "lead_row", "s", "by", "lead", "one", "other"]
abbrev P_Board_turned_row : List Str := ["self", "row", "lead_row", "s"]
theorem sc_Board_turned_row : FnScope N_Board_turned_row P_Board_turned_row (defScope s_Board_turned_row) := ⟨rfl, rfl, rfl, by decide +kernel, rfl, by decide +kernel, by decide +kernel⟩
abbrev s_Board_turn_about : Stmt := inClass (topS 9) 2
abbrev N_Board_turn_about : List Str := ["self", "r", "s", "lead_row", "turned", "i"]
abbrev P_Board_turn_about : List Str := ["self", "r", "s"]
theorem sc_Board_turn_about : FnScope N_Board_turn_about P_Board_turn_about (defScope s_Board_turn_about) := ⟨rfl, rfl, rfl, by decide +kernel, rfl, by decide +kernel, by decide +kernel⟩
abbrev s_Board_entering_column : Stmt := inClass (topS 9) 3
abbrev N_Board_entering_column : List Str := ["self", "s"]
abbrev P_Board_entering_column : List Str := ["self"]
theorem sc_Board_entering_column : FnScope N_Board_entering_column P_Board_entering_column (defScope s_Board_entering_column) := ⟨rfl, rfl, rfl, by decide +kernel, rfl, by decide +kernel, by decide +kernel⟩
abbrev s_Board_leaving_row : Stmt := inClass (topS 9) 4
abbrev N_Board_leaving_row : List Str := ["self", "s", "best", "i", "row", "mine", "other"]
abbrev P_Board_leaving_row : List Str := ["self", "s"]
theorem sc_Board_leaving_row : FnScope N_Board_leaving_row P_Board_leaving_row (defScope s_Board_leaving_row) := ⟨rfl, rfl, rfl, by decide +kernel, rfl, by decide +kernel, by decide +kernel⟩
abbrev s_Board_lead_down : Stmt := inClass (topS 9) 5
abbrev N_Board_lead_down : List Str := ["self", "s"]
abbrev P_Board_lead_down : List Str := ["self"]
theorem sc_Board_lead_down : FnScope N_Board_lead_down P_Board_lead_down (defScope s_Board_lead_down) := ⟨rfl, rfl, rfl, by decide +kernel, rfl, by decide +kernel, by decide +kernel⟩
abbrev s_Board_helping_row : Stmt := inClass (topS 9) 6
abbrev N_Board_helping_row : List Str := ["self", "s"]
abbrev P_Board_helping_row : List Str := ["self", "s"]
theorem sc_Board_helping_row : FnScope N_Board_helping_row P_Board_helping_row (defScope s_Board_helping_row) := ⟨rfl, rfl, rfl, by decide +kernel, rfl, by decide +kernel, by decide +kernel⟩
abbrev s_Board_aim_at : Stmt := inClass (topS 9) 7
abbrev N_Board_aim_at : List Str := ["self", "s"]
abbrev P_Board_aim_at : List Str := ["self", "s"]
theorem sc_Board_aim_at : FnScope N_Board_aim_at P_Board_aim_at (defScope s_Board_aim_at) := ⟨rfl, rfl, rfl, by decide +kernel, rfl, by decide +kernel, by decide +kernel⟩
abbrev s_Board_has_some : Stmt := inClass (topS 9) 8
abbrev N_Board_has_some : List Str := ["self", "s"]
abbrev P_Board_has_some : List Str := ["self", "s"]
theorem sc_Board_has_some : FnScope N_Board_has_some P_Board_has_some (defScope s_Board_has_some) := ⟨rfl, rfl, rfl, by decide +kernel, rfl, by decide +kernel, by decide +kernel⟩
abbrev s_Board_lead_to : Stmt := inClass (topS 9) 9
abbrev N_Board_lead_to : List Str := ["self", "aim"]
abbrev P_Board_lead_to : List Str := ["self", "aim"]
theorem sc_Board_lead_to : FnScope N_Board_lead_to P_Board_lead_to (defScope s_Board_lead_to) := ⟨rfl, rfl, rfl, by decide +kernel, rfl, by decide +kernel, by decide +kernel⟩
abbrev s_all_cuts : Stmt := topS 11
abbrev N_all_cuts : List Str := ["n", "found", "point", "cut"]
abbrev P_all_cuts : List Str := ["n"]
theorem sc_all_cuts : FnScope N_all_cuts P_all_cuts (defScope s_all_cuts) := ⟨rfl, rfl, rfl, by decide +kernel, rfl, by decide +kernel, by decide +kernel⟩
abbrev s_pairs_of : Stmt := topS 13
abbrev N_pairs_of : List Str := ["n", "pairs", "i", "j"]
abbrev P_pairs_of : List Str := ["n"]
theorem sc_pairs_of : FnScope N_pairs_of P_pairs_of (defScope s_pairs_of) := ⟨rfl, rfl, rfl, by decide +kernel, rfl, by decide +kernel, by decide +kernel⟩
abbrev s_whole_by : Stmt := topS 14
abbrev N_whole_by : List Str := ["table", "found", "row", "one"]
abbrev P_whole_by : List Str := ["table"]
theorem sc_whole_by : FnScope N_whole_by P_whole_by (defScope s_whole_by) := ⟨rfl, rfl, rfl, by decide +kernel, rfl, by decide +kernel, by decide +kernel⟩
abbrev s_ready_board : Stmt := topS 15
abbrev N_ready_board : List Str := ["table", "cuts", "by", "rows", "sums", "i", "j", "cut", "board"]
abbrev P_ready_board : List Str := ["table"]
theorem sc_ready_board : FnScope N_ready_board P_ready_board (defScope s_ready_board) := ⟨rfl, rfl, rfl, by decide +kernel, rfl, by decide +kernel, by decide +kernel⟩
abbrev s_cuts_on : Stmt := topS 16
abbrev N_cuts_on : List Str := ["table", "board", "cuts", "by", "found", "s", "row"]
abbrev P_cuts_on : List Str := ["table", "board"]
theorem sc_cuts_on : FnScope N_cuts_on P_cuts_on (defScope s_cuts_on) := ⟨rfl, rfl, rfl, by decide +kernel, rfl, by decide +kernel, by decide +kernel⟩
abbrev s_sum_told : Stmt := topS 17
abbrev N_sum_told : List Str := ["table", "board", "unit", "one"]
abbrev P_sum_told : List Str := ["table"]
theorem sc_sum_told : FnScope N_sum_told P_sum_told (defScope s_sum_told) := ⟨rfl, rfl, rfl, by decide +kernel, rfl, by decide +kernel, by decide +kernel⟩
abbrev s_l_cell_at : Stmt := topS 19
abbrev N_l_cell_at : List Str := ["script", "k"]
abbrev P_l_cell_at : List Str := ["script", "k"]
theorem sc_l_cell_at : FnScope N_l_cell_at P_l_cell_at (defScope s_l_cell_at) := ⟨rfl, rfl, rfl, by decide +kernel, rfl, by decide +kernel, by decide +kernel⟩
abbrev s_l_numbers : Stmt := topS 20
abbrev N_l_numbers : List Str := ["cell", "many", "found", "rest", "stir", "k", "again"]
abbrev P_l_numbers : List Str := ["cell", "many"]
theorem sc_l_numbers : FnScope N_l_numbers P_l_numbers (defScope s_l_numbers) := ⟨rfl, rfl, rfl, by decide +kernel, rfl, by decide +kernel, by decide +kernel⟩
abbrev s_l_low : Stmt := topS 21
abbrev N_l_low : List Str := ["top", "bottom", "one", "other", "rest"]
abbrev P_l_low : List Str := ["top", "bottom"]
theorem sc_l_low : FnScope N_l_low P_l_low (defScope s_l_low) := ⟨rfl, rfl, rfl, by decide +kernel, rfl, by decide +kernel, by decide +kernel⟩
abbrev s_l_plus : Stmt := topS 22
abbrev N_l_plus : List Str := ["q", "r"]
abbrev P_l_plus : List Str := ["q", "r"]
theorem sc_l_plus : FnScope N_l_plus P_l_plus (defScope s_l_plus) := ⟨rfl, rfl, rfl, by decide +kernel, rfl, by decide +kernel, by decide +kernel⟩
abbrev s_l_cuts : Stmt := topS 23
abbrev N_l_cuts : List Str := ["n", "found", "point", "cut"]
abbrev P_l_cuts : List Str := ["n"]
theorem sc_l_cuts : FnScope N_l_cuts P_l_cuts (defScope s_l_cuts) := ⟨rfl, rfl, rfl, by decide +kernel, rfl, by decide +kernel, by decide +kernel⟩
abbrev s_l_table : Stmt := topS 24
abbrev N_l_table : List Str := ["n", "cuts", "table", "i", "j", "cut", "weight"]
abbrev P_l_table : List Str := ["n", "cuts"]
theorem sc_l_table : FnScope N_l_table P_l_table (defScope s_l_table) := ⟨rfl, rfl, rfl, by decide +kernel, rfl, by decide +kernel, by decide +kernel⟩
abbrev s_l_weight : Stmt := topS 25
abbrev N_l_weight : List Str := ["number", "kind"]
abbrev P_l_weight : List Str := ["number", "kind"]
theorem sc_l_weight : FnScope N_l_weight P_l_weight (defScope s_l_weight) := ⟨rfl, rfl, rfl, by decide +kernel, rfl, by decide +kernel, by decide +kernel⟩
abbrev s_l_weighted : Stmt := topS 26
abbrev N_l_weighted : List Str := ["n", "xs", "cuts", "found", "k", "at", "one"]
abbrev P_l_weighted : List Str := ["n", "xs"]
theorem sc_l_weighted : FnScope N_l_weighted P_l_weighted (defScope s_l_weighted) := ⟨rfl, rfl, rfl, by decide +kernel, rfl, by decide +kernel, by decide +kernel⟩
abbrev s_l_is_fraction : Stmt := topS 27
abbrev N_l_is_fraction : List Str := ["found", "one"]
abbrev P_l_is_fraction : List Str := ["found"]
theorem sc_l_is_fraction : FnScope N_l_is_fraction P_l_is_fraction (defScope s_l_is_fraction) := ⟨rfl, rfl, rfl, by decide +kernel, rfl, by decide +kernel, by decide +kernel⟩
abbrev s_l_is_cut : Stmt := topS 28
abbrev N_l_is_cut : List Str := ["n", "cut", "k"]
abbrev P_l_is_cut : List Str := ["n", "cut"]
theorem sc_l_is_cut : FnScope N_l_is_cut P_l_is_cut (defScope s_l_is_cut) := ⟨rfl, rfl, rfl, by decide +kernel, rfl, by decide +kernel, by decide +kernel⟩
abbrev s_l_sum_of : Stmt := topS 29
abbrev N_l_sum_of : List Str := ["n", "cuts", "table", "one", "other"]
abbrev P_l_sum_of : List Str := ["n", "cuts", "table"]
theorem sc_l_sum_of : FnScope N_l_sum_of P_l_sum_of (defScope s_l_sum_of) := ⟨rfl, rfl, rfl, by decide +kernel, rfl, by decide +kernel, by decide +kernel⟩
abbrev s_l_copy : Stmt := topS 30
abbrev N_l_copy : List Str := ["table", "row"]
abbrev P_l_copy : List Str := ["table"]
theorem sc_l_copy : FnScope N_l_copy P_l_copy (defScope s_l_copy) := ⟨rfl, rfl, rfl, by decide +kernel, rfl, by decide +kernel, by decide +kernel⟩
abbrev s_l_size : Stmt := topS 31
abbrev N_l_size : List Str := ["number", "first", "n"]
abbrev P_l_size : List Str := ["number", "first"]
theorem sc_l_size : FnScope N_l_size P_l_size (defScope s_l_size) := ⟨rfl, rfl, rfl, by decide +kernel, rfl, by decide +kernel, by decide +kernel⟩
abbrev s_law : Stmt := topS 32
abbrev N_law : List Str := ["script", "k", "xs", "n", "table", "handed", "found"]
abbrev P_law : List Str := ["script"]
theorem sc_law : FnScope N_law P_law (defScope s_law) := ⟨rfl, rfl, rfl, by decide +kernel, rfl, by decide +kernel, by decide +kernel⟩
/-- the built-in names that the text leaves as they are -/
structure Tx (K : PySem.W.Frag) (mg : Str → Option Value) : Prop where
  abs_ : mg "abs" = none
  bool_ : mg "bool" = none
  int_ : mg "int" = none
  isinstance_ : mg "isinstance" = none
  len_ : mg "len" = none
  list_ : mg "list" = none
  max_ : mg "max" = none
  min_ : mg "min" = none
  range_ : mg "range" = none
  sorted_ : mg "sorted" = none
  sum_ : mg "sum" = none
  tuple_ : mg "tuple" = none
  zip_ : mg "zip" = none
local macro_rules | `(tactic| walk_at "O1") => `(tactic| first
  | (with_reducible refine' EW_ixFI ?h ?k ?c ?q; (case h => with_unfolding_all rfl); (case k => infer_instance); (case c => infer_instance))
  | (with_reducible refine' EW_cbF ?h ?k ?c ?q; (case h => with_unfolding_all rfl); (case k => infer_instance); (case c => infer_instance))
  | (with_reducible refine' EW_opFW ?h ?k ?c ?q; (case h => with_unfolding_all rfl); (case k => infer_instance); (case c => infer_instance))
  | (with_reducible refine' EW_appFI ?h ?k ?c ?q; (case h => with_unfolding_all rfl); (case k => infer_instance); (case c => infer_instance))
  | (with_reducible refine' GW_setFI ?h ?k ?c ?q; (case h => with_unfolding_all rfl); (case k => infer_instance); (case c => infer_instance))
  | fail)
local macro_rules | `(tactic| walk_at "O2") => `(tactic| first
  | (with_reducible refine' EW_fldI ?h ?k ?c ?q; (case h => with_unfolding_all rfl); (case k => infer_instance); (case c => infer_instance))
  | (with_reducible refine' OwnAt_i ?h ?q; (case h => with_unfolding_all rfl))
  | (with_reducible refine' FldS_put ?h ?k ?c ?l ?q; (case h => with_unfolding_all rfl); (case k => infer_instance); (case c => infer_instance); (case l => simp))
  | (with_reducible refine' FldS_putN ?h ?k ?c ?l ?q; (case h => with_unfolding_all rfl); (case k => infer_instance); (case c => infer_instance); (case l => simp))
  | (with_reducible refine' EW_methI ?h ?c ?q; (case h => with_unfolding_all rfl); (case c => infer_instance))
  | (with_reducible refine' ObB_i ?h ?q; (case h => with_unfolding_all rfl))
  | (with_reducible refine SWO_seq ?_)
  | (with_reducible refine' PutB_i ?c ?q; (case c => infer_instance))
  | with_reducible refine SWO_seq ?_
  | fail)
local macro_rules | `(tactic| walk_at "goO") => `(tactic| repeat (first | walk_at "O1" | walk_at "W" | walk_at "O2"))
local macro_rules | `(tactic| walk_at "goKO") => `(tactic| (walk_at "k"; walk_at "goO"))
local macro_rules | `(tactic| walk_at "goOF") => `(tactic| repeat (first | walk_at "O1" | walk_at "W" | walk_at "O2" | walk_at "fz"))
/-! ### the board: what its methods do -/
/-- what is left of a row when a leading row is taken from it -/
def turnR (u lead by_ : Int) (row lead_row : List Int) : List Int := List.zipWith (fun one other => (one * lead - by_ * other) / u) row lead_row
section
variable {P : Program} {w : World} {K : PySem.W.Frag} {mg : Str → Option Value} {base : Heap} {C : Addr} [h1 : HasF K C "main_count"] [h2 : HasF K C "number_rows"] [h3 : HasF K C "goal_row"] [h4 : HasF K C "stand_columns"] [h5 : HasF K C "unit_number"]
def pTurnedRow : Flds → List PyData → (Own → PyData → Flds → Prop) → Prop := fun fs ds Q => ∃ (m : Int) (rows : List (List Int)) (og : Own) (goal st : List Int) (u : Int) (row lead : List Int) (s : Nat), fs = bF m rows og goal st u ∧ ds = [IL row, IL lead, .int s] ∧
  row.length = lead.length ∧ s < row.length ∧ row.length ≤ 1000 ∧ (∀ z ∈ row, IB 3000 z) ∧ (∀ z ∈ lead, IB 3000 z) ∧ 0 < u ∧ IB 3000 u ∧ Q (.li .lf) (IL (turnR u (lead.getD s 0) (row.getD s 0) row lead)) fs
theorem ok_Board_turned_row {f : Addr} {fd : FuncData} (F : Fun K "turned_row" "Board.turned_row" s_Board_turned_row f fd) (T : Tx K mg) : FnOk P w K mg base CX0 1 f fd P_Board_turned_row (spO K C pTurnedRow) := by
  refine okO F sc_Board_turned_row (fun fs ds Q h => ?_) fun cdv A outer s H E hr => ⟨_, (pss_cons (ps_set (i := 4) sc_Board_turned_row.nd rfl (Or.inr rfl) (pe_ix (k_ixL (K := K)) (pv 1) (pv 3) (fun _ _ => rfl)))
  (pss_cons (ps_set (i := 5) sc_Board_turned_row.nd rfl (Or.inr rfl) (pe_ix (k_ixL (K := K)) (pv 2) (pv 3) (fun _ _ => rfl)))
  (pss_one (ps_ret (pe_lc (own := [("one", 6), ("other", 7)]) (tt := tYes) rfl sc_Board_turned_row.nd (k_zip (K := K) (by rfl) T.zip_ (pa_cons (pv 1) (pa_cons (pv 2) pa_nil))) (blkOk_by (own := [("one", 6), ("other", 7)]) (N := N_Board_turned_row) (sc := defScope s_Board_turned_row) (by decide +kernel)) (fun _ _ _ _ _ => (k_tup (K := K) (n := 2) rfl (pgs_cons (pg_name (i := 6) sc_Board_turned_row.nd rfl (Or.inl rfl)) (pgs_cons (pg_name (i := 7) sc_Board_turned_row.nd rfl (Or.inl rfl)) pgs_nil)))) (fun _ _ _ _ _ => pts_nil) (fun _ _ _ _ _ => (pe_op op_fdivW (pe_op op_sub (pe_op op_mulW (pv 6) (pv 5)) (pe_op op_mulW (pv 4) (pv 7))) (k_fld (K := K) (pv 0) rfl)))))))), fun w vs fs ds Q lv h => ?_⟩
  · obtain ⟨_, _, _, _, _, _, _, _, _, _, rfl, _⟩ := h
    rfl
  · obtain ⟨m, rows, og, goal, st, u, row, lead, s, rfl, rfl, l, hs, l2, br, bl, u0, bu, q⟩ := h
    walk_at "goKO"
    rw [show List.zipWith (fun x y => PyData.tuple [x, y]) (row.map PyData.int) (lead.map PyData.int) = (List.zip row lead).map (fun p => PyData.tuple [.int p.1, .int p.2]) by
      rw [List.zipWith_map, List.zip, List.map_zipWith]]
    have bs : IB 3000 (row.getD s 0) := by rw [List.getD_eq_getElem?_getD, List.getElem?_eq_getElem hs]; exact br _ (List.getElem_mem _)
    have bt : IB 3000 (lead.getD s 0) := by rw [List.getD_eq_getElem?_getD, List.getElem?_eq_getElem (by omega)]; exact bl _ (List.getElem_mem _)
    refine LcB_m .lf (fun p : Int × Int => .int ((p.1 * lead.getD s 0 - row.getD s 0 * p.2) / u)) (by rw [List.length_zip]; omega) (fun p hp => ?_) ?_
    · have b1 := br _ (List.of_mem_zip hp).1
      have b2 := bl _ (List.of_mem_zip hp).2
      refine GC_tupB rfl ?_
      walk_at "goO"
      refine GC_name (by decide) ?_
      walk_at "goO"
      refine GC_name (by decide) ?_
      walk_at "goO"
      refine OW_mul (IB.mulW (n := 3000) (m := 3000) b1 bt (by decide)) ?_
      walk_at "goO"
      refine OW_mul (IB.mulW (n := 3000) (m := 3000) bs b2 (by decide)) ?_
      walk_at "goO"
      refine OW_div (wide_div (b := 3000) u0 bu (by decide) (by decide)) ?_
      walk_at "goO"
      exact ⟨.inl rfl, rfl, rfl⟩
    rw [show (List.zip row lead).map (fun p : Int × Int => PyData.int ((p.1 * lead.getD s 0 - row.getD s 0 * p.2) / u)) = (turnR u (lead.getD s 0) (row.getD s 0) row lead).map PyData.int by unfold turnR; rw [List.zip, List.map_zipWith, List.map_zipWith]]
    exact ⟨_, _, rfl, q⟩
/-- the first column that makes the goal less -/
def enterF (goal : List Int) (m : Nat) : Option Nat := (List.range m).find? fun s => decide (goal.getD s 0 < 0)
theorem enter_at {goal : List Int} {m k : Nat} (hk : k < m) (hj : ∀ j, j < k → ¬ goal.getD j 0 < 0) (h : goal.getD k 0 < 0) : enterF goal m = some k := by
  unfold enterF
  rw [show List.range m = List.range k ++ (k :: (List.range (m - k - 1)).map fun j => k + 1 + j) by
    have : m = k + 1 + (m - k - 1) := by omega
    conv => lhs; rw [this, List.range_add, List.range_succ]
    rw [List.append_assoc]; rfl]
  rw [List.find?_append, List.find?_eq_none.mpr fun j hjm => by
    have := hj j (List.mem_range.mp hjm)
    simp only [decide_eq_true_eq]; exact this]
  rw [List.find?_cons_of_pos (by simpa using h)]
  rfl
def optD : Option Nat → PyData
  | some k => .int (k : Int)
  | none => .none
def pEnter : Flds → List PyData → (Own → PyData → Flds → Prop) → Prop := fun fs ds Q => ∃ (m : Nat) (rows : List (List Int)) (og : Own) (goal st : List Int) (u : Int), fs = bF m rows og goal st u ∧ ds = [] ∧ m ≤ goal.length ∧ m ≤ 100000 ∧ (og = .lf ∨ og = .li .lf) ∧ Q .lf (optD (enterF goal m)) fs
theorem ok_Board_entering_column {f : Addr} {fd : FuncData} (F : Fun K "entering_column" "Board.entering_column" s_Board_entering_column f fd) (T : Tx K mg) : FnOk P w K mg base CX0 1 f fd P_Board_entering_column (spO K C pEnter) := by
  refine okO F sc_Board_entering_column (fun fs ds Q h => ?_) fun cdv A outer s H E hr => ⟨_, (pss_cons (ps_for PassesOwn.never rfl (pi_range1 (by rfl) T.range_ (pa_cons (k_fld (K := K) (pv 0) rfl) pa_nil)) (pg_name (i := 1) sc_Board_entering_column.nd rfl (Or.inl rfl))
  (pss_one (ps_if (pt_cmpR op_lt (pe_ix (k_ixL (K := K)) (k_fld (K := K) (pv 0) rfl) (pv 1) (fun _ _ => rfl)) pe_int (nomark _))
  (pss_one (ps_ret (pv 1)))
  pss_nil)))
  (pss_one (ps_ret pe_non))), fun w vs fs ds Q lv h => ?_⟩
  · obtain ⟨_, _, _, _, _, _, _, rfl, _⟩ := h
    rfl
  · obtain ⟨m, rows, og, goal, st, u, rfl, rfl, hm, hm2, ho, q⟩ := h
    walk_at "goKO"
    refine ForB_rng (fun k Γ => ∃ (x1 : Sl), Γ = [.ob false w C (bF m rows og goal st u) vs, x1] ∧ ∀ j, j < k → ¬ goal.getD j 0 < 0) ⟨_, rfl, fun j hj => absurd hj (by omega)⟩ ?_ ?_
    · rintro k Γ hk ⟨x1, rfl, hj⟩
      rcases ho with rfl | rfl
      · walk_at "goO"
        refine ifD (fun h => ?_) (fun h => ?_)
        · walk_at "goO"
          have e : enterF goal m = some k := enter_at hk hj h
          rw [e] at q
          exact ⟨_, _, rfl, q⟩
        · walk_at "goO"
          refine ⟨_, rfl, fun j hjk => ?_⟩
          by_cases c : j = k
          · rw [c]; exact h
          · exact hj j (by omega)
      · walk_at "goO"
        refine ifD (fun h => ?_) (fun h => ?_)
        · walk_at "goO"
          have e : enterF goal m = some k := enter_at hk hj h
          rw [e] at q
          exact ⟨_, _, rfl, q⟩
        · walk_at "goO"
          refine ⟨_, rfl, fun j hjk => ?_⟩
          by_cases c : j = k
          · rw [c]; exact h
          · exact hj j (by omega)
    · rintro Γ ⟨x1, rfl, hj⟩
      walk_at "goO"
      have e : enterF goal m = none := List.find?_eq_none.mpr fun j hjm => by
        have := hj j (List.mem_range.mp hjm)
        simp only [decide_eq_true_eq]; exact this
      rw [e] at q
      exact ⟨_, _, rfl, q⟩
/-- the row that falls to nought first -/
def leaveS (rows : List (List Int)) (st : List Int) (s : Nat) (best : Option Nat) (i : Nat) : Option Nat :=
  if 0 < (rows.getD i []).getD s 0 then
    match best with
    | none => some i
    | some b => if (rows.getD i []).getD ((rows.getD i []).length - 1) 0 * (rows.getD b []).getD s 0 < (rows.getD b []).getD ((rows.getD b []).length - 1) 0 * (rows.getD i []).getD s 0 ∨
        ((rows.getD i []).getD ((rows.getD i []).length - 1) 0 * (rows.getD b []).getD s 0 = (rows.getD b []).getD ((rows.getD b []).length - 1) 0 * (rows.getD i []).getD s 0 ∧ st.getD i 0 < st.getD b 0) then some i else some b
  else best
def leaveF (rows : List (List Int)) (st : List Int) (s : Nat) (k : Nat) : Option Nat := (List.range k).foldl (leaveS rows st s) none
theorem leaveF_succ {rows : List (List Int)} {st : List Int} {s k : Nat} : leaveF rows st s (k + 1) = leaveS rows st s (leaveF rows st s k) k := by
  unfold leaveF
  rw [List.range_succ, List.foldl_append]; rfl
theorem ixB_last {r : List Int} {s : Own} {G : PyData → Prop} (h : 1 ≤ r.length) (hs : s = .lf ∨ s = .li .lf) (q : G (.int (r.getD (r.length - 1) 0))) : IxB s (IL r) (.int (-1)) G := by
  refine ⟨r.map PyData.int, -1, _, rfl, rfl, ?_, hs, q⟩
  have e : r = r.dropLast ++ [r.getD (r.length - 1) 0] := by
    have ne : r ≠ [] := fun e => by rw [e] at h; simp at h
    rw [List.getD_eq_getElem?_getD, List.getElem?_eq_getElem (by omega)]
    show r = r.dropLast ++ [r[r.length - 1]]
    rw [← List.getLast_eq_getElem ne]
    exact (List.dropLast_concat_getLast ne).symm
  conv => lhs; rw [e, List.map_append]
  exact atI_last
def pLeave : Flds → List PyData → (Own → PyData → Flds → Prop) → Prop := fun fs ds Q => ∃ (m : Nat) (rows : List (List Int)) (og : Own) (goal st : List Int) (u : Int) (s c : Nat), fs = bF m rows og goal st u ∧ ds = [.int s] ∧ rows.length ≤ 1000 ∧ st.length = rows.length ∧ 1 ≤ c ∧ s < c ∧ c ≤ 1000 ∧ (∀ r ∈ rows, r.length = c ∧ ∀ z ∈ r, IB 3000 z) ∧ Q .lf (optD (leaveF rows st s rows.length)) fs
theorem ok_Board_leaving_row {f : Addr} {fd : FuncData} (F : Fun K "leaving_row" "Board.leaving_row" s_Board_leaving_row f fd) (T : Tx K mg) : FnOk P w K mg base CX0 1 f fd P_Board_leaving_row (spO K C pLeave) := by
  refine okO F sc_Board_leaving_row (fun fs ds Q h => ?_) fun cdv A outer s H E hr => ⟨_, (pss_cons (ps_set (i := 2) sc_Board_leaving_row.nd rfl (Or.inl rfl) pe_non)
  (pss_cons (ps_for PassesOwn.never rfl (pi_range1 (by rfl) T.range_ (pa_cons (pe_callB (k_len (K := K)) (by rfl) T.len_ (by decide +kernel) (pa_cons (k_fld (K := K) (pv 0) rfl) pa_nil)) pa_nil)) (pg_name (i := 3) sc_Board_leaving_row.nd rfl (Or.inl rfl))
  (pss_cons (ps_set (i := 4) sc_Board_leaving_row.nd rfl (Or.inl rfl) (pe_ix (k_ixL (K := K)) (k_fld (K := K) (pv 0) rfl) (pv 3) (fun _ _ => rfl)))
  (pss_one (ps_if (PW.pt (pw_and (pt_cmpR op_gt (pe_ix (k_ixL (K := K)) (pv 4) (pv 1) (fun _ _ => rfl)) pe_int (nomark _)) (pw_and1 (pt_cmpR op_isN1 (pv 2) pe_non (nomark _)))))
  (pss_one (ps_set (i := 2) sc_Board_leaving_row.nd rfl (Or.inl rfl) (pv 3)))
  (pss_one (ps_if (pt_cmpR op_gt (pe_ix (k_ixL (K := K)) (pv 4) (pv 1) (fun _ _ => rfl)) pe_int (nomark _))
  (pss_cons (ps_set (i := 5) sc_Board_leaving_row.nd rfl (Or.inl rfl) (pe_op op_mulW (pe_ix (k_ixL (K := K)) (pv 4) (pe_un un_neg pe_int) (fun _ _ => rfl)) (pe_ix (k_ixL (K := K)) (pe_ix (k_ixL (K := K)) (k_fld (K := K) (pv 0) rfl) (pv 2) (fun _ _ => rfl)) (pv 1) (fun _ _ => rfl))))
  (pss_cons (ps_set (i := 6) sc_Board_leaving_row.nd rfl (Or.inl rfl) (pe_op op_mulW (pe_ix (k_ixL (K := K)) (pe_ix (k_ixL (K := K)) (k_fld (K := K) (pv 0) rfl) (pv 2) (fun _ _ => rfl)) (pe_un un_neg pe_int) (fun _ _ => rfl)) (pe_ix (k_ixL (K := K)) (pv 4) (pv 1) (fun _ _ => rfl))))
  (pss_one (ps_if (PW.pt (pw_or (pt_cmpR op_lt (pv 5) (pv 6) (nomark _)) (pw_or1 (PW.pt (pw_and (pt_cmpR op_eq (pv 5) (pv 6) (nomark _)) (pw_and1 (pt_cmpR op_lt (pe_ix (k_ixL (K := K)) (k_fld (K := K) (pv 0) rfl) (pv 3) (fun _ _ => rfl)) (pe_ix (k_ixL (K := K)) (k_fld (K := K) (pv 0) rfl) (pv 2) (fun _ _ => rfl)) (nomark _))))))))
  (pss_one (ps_set (i := 2) sc_Board_leaving_row.nd rfl (Or.inl rfl) (pv 3)))
  pss_nil))))
  pss_nil))))))
  (pss_one (ps_ret (pv 2))))), fun w vs fs ds Q lv h => ?_⟩
  · obtain ⟨_, _, _, _, _, _, _, _, _, rfl, _⟩ := h
    rfl
  · obtain ⟨m, rows, og, goal, st, u, s, c, rfl, rfl, hr1, hst, c1, hs, hc, hrow, q⟩ := h
    walk_at "goKO"
    have brow : ∀ i, i < rows.length → (rows.getD i []).length = c ∧ ∀ j, j < c → IB 3000 ((rows.getD i []).getD j 0) := fun i hi => by
      have e : rows.getD i [] = rows[i] := by rw [List.getD_eq_getElem?_getD, List.getElem?_eq_getElem hi]; rfl
      obtain ⟨a1, a2⟩ := hrow _ (List.getElem_mem hi)
      rw [e]
      exact ⟨a1, fun j hj => by rw [List.getD_eq_getElem?_getD, List.getElem?_eq_getElem (by omega)]; exact a2 _ (List.getElem_mem _)⟩
    refine ForB_rng (fun k Γ => ∃ (x3 x4 x5 x6 : Sl), Γ = [.ob false w C (bF m rows og goal st u) vs, .v .lf (.int s), .v .lf (optD (leaveF rows st s k)), x3, x4, x5, x6] ∧ ∀ b, leaveF rows st s k = some b → b < k) ⟨_, _, _, _, rfl, fun b h => by cases h⟩ ?_ ?_
    · rintro k Γ hk ⟨x3, x4, x5, x6, rfl, hb⟩
      rw [leaveF_succ]
      obtain ⟨l1, l2⟩ := brow k hk
      have l1' : (rows.getD k default).length = c := l1
      have e1 : (rows.getD k default) = rows.getD k [] := rfl
      have bl := l2 (c - 1) (by omega)
      have bs := l2 s hs
      have ln := hb
      cases hbest : leaveF rows st s k with
      | none =>
        rw [hbest] at hb
        have ev : leaveS rows st s none k = if 0 < (rows.getD k []).getD s 0 then some k else none := rfl
        rw [ev, show optD none = PyData.none from rfl]
        walk_at "goO"
        rw [e1]
        refine ifD (fun h => ?_) (fun h => ?_)
        · have h : 0 < (rows.getD k []).getD s 0 := h
          rw [if_pos h]
          walk_at "goO"
          exact ⟨_, _, _, _, rfl, fun b hb => by cases hb; omega⟩
        · have h : ¬ 0 < (rows.getD k []).getD s 0 := h
          rw [if_neg h]
          walk_at "goO"
          refine ifD (fun h2 => absurd h2 h) (fun _ => ?_)
          walk_at "goO"
          exact ⟨_, _, _, _, rfl, fun b hb => by cases hb⟩
      | some b =>
        rw [hbest] at hb
        have hbk := hb b rfl
        obtain ⟨m1, m2⟩ := brow b (by omega)
        have m1' : (rows.getD b default).length = c := m1
        have f1 : (rows.getD b default) = rows.getD b [] := rfl
        have cl := m2 (c - 1) (by omega)
        have cs := m2 s hs
        have ev : leaveS rows st s (some b) k = if 0 < (rows.getD k []).getD s 0 then (if (rows.getD k []).getD (c - 1) 0 * (rows.getD b []).getD s 0 < (rows.getD b []).getD (c - 1) 0 * (rows.getD k []).getD s 0 ∨
            ((rows.getD k []).getD (c - 1) 0 * (rows.getD b []).getD s 0 = (rows.getD b []).getD (c - 1) 0 * (rows.getD k []).getD s 0 ∧ st.getD k 0 < st.getD b 0) then some k else some b) else some b := by
          unfold leaveS
          dsimp only
          rw [l1, m1]
        rw [ev, show optD (some b) = PyData.int (b : Int) from rfl]
        walk_at "goO"
        rw [e1]
        refine ifD (fun h => ?_) (fun h => ?_)
        · have h : 0 < (rows.getD k []).getD s 0 := h
          rw [if_pos h]
          walk_at "goO"
          generalize hR : (if (rows.getD k []).getD (c - 1) 0 * (rows.getD b []).getD s 0 < (rows.getD b []).getD (c - 1) 0 * (rows.getD k []).getD s 0 ∨
            ((rows.getD k []).getD (c - 1) 0 * (rows.getD b []).getD s 0 = (rows.getD b []).getD (c - 1) 0 * (rows.getD k []).getD s 0 ∧ st.getD k 0 < st.getD b 0) then some k else some b) = R
          refine ifD (fun _ => ?_) (fun h2 => absurd h h2)
          walk_at "goO"
          refine ixB_last (by omega) (.inl rfl) ?_
          rw [l1]
          walk_at "goO"
          rw [f1]
          refine OW_mul (IB.mulW (n := 3000) (m := 3000) bl cs (by decide)) ?_
          walk_at "goO"
          rw [f1]
          refine ixB_last (by omega) (.inl rfl) ?_
          rw [m1]
          walk_at "goO"
          refine OW_mul (IB.mulW (n := 3000) (m := 3000) cl bs (by decide)) ?_
          walk_at "goO"
          have hst1 : k < st.length := by omega
          have hst2 : b < st.length := by omega
          refine ifD (fun c1' => ?_) (fun c1' => ?_)
          · have eR : R = some k := by rw [← hR]; exact if_pos (.inl c1')
            rw [eR]
            walk_at "goO"
            exact ⟨_, _, _, _, rfl, fun b' hb' => by cases hb'; omega⟩
          · walk_at "goO"
            refine ifD (fun c2' => ?_) (fun c2' => ?_)
            · walk_at "goO"
              refine ifD (fun c3' => ?_) (fun c3' => ?_)
              · have eR : R = some k := by rw [← hR]; exact if_pos (.inr ⟨c2', c3'⟩)
                rw [eR]
                walk_at "goO"
                exact ⟨_, _, _, _, rfl, fun b' hb' => by cases hb'; omega⟩
              · have eR : R = some b := by rw [← hR]; exact if_neg (by rintro (x | ⟨_, x⟩); exact c1' x; exact c3' x)
                rw [eR]
                walk_at "goO"
                exact ⟨_, _, _, _, rfl, fun b' hb' => by cases hb'; omega⟩
            · have eR : R = some b := by rw [← hR]; exact if_neg (by rintro (x | ⟨x, _⟩); exact c1' x; exact c2' x)
              rw [eR]
              walk_at "goO"
              exact ⟨_, _, _, _, rfl, fun b' hb' => by cases hb'; omega⟩
        · have h : ¬ 0 < (rows.getD k []).getD s 0 := h
          rw [if_neg h]
          walk_at "goO"
          refine ifD (fun h2 => absurd h2 h) (fun _ => ?_)
          walk_at "goO"
          exact ⟨_, _, _, _, rfl, fun b' hb' => by cases hb'; omega⟩
    · rintro Γ ⟨x3, x4, x5, x6, rfl, hb⟩
      walk_at "goO"
      exact ⟨_, _, rfl, q⟩
end
local macro_rules | `(tactic| walk_at "O1") => `(tactic| first
  | (with_reducible refine' EW_ixFI ?h ?k ?c ?q; (case h => with_unfolding_all rfl); (case k => infer_instance); (case c => infer_instance))
  | (with_reducible refine' EW_cbF ?h ?k ?c ?q; (case h => with_unfolding_all rfl); (case k => infer_instance); (case c => infer_instance))
  | (with_reducible refine' EW_opFW ?h ?k ?c ?q; (case h => with_unfolding_all rfl); (case k => infer_instance); (case c => infer_instance))
  | (with_reducible refine' EW_appFI ?h ?k ?c ?q; (case h => with_unfolding_all rfl); (case k => infer_instance); (case c => infer_instance))
  | (with_reducible refine' GW_setFI ?h ?k ?c ?q; (case h => with_unfolding_all rfl); (case k => infer_instance); (case c => infer_instance))
  | fail)
local macro_rules | `(tactic| walk_at "O2") => `(tactic| first
  | (with_reducible refine' EW_fldI ?h ?k ?c ?q; (case h => with_unfolding_all rfl); (case k => infer_instance); (case c => infer_instance))
  | (with_reducible refine' OwnAt_i ?h ?q; (case h => with_unfolding_all rfl))
  | (with_reducible refine' FldS_put ?h ?k ?c ?l ?q; (case h => with_unfolding_all rfl); (case k => infer_instance); (case c => infer_instance); (case l => simp))
  | (with_reducible refine' FldS_putN ?h ?k ?c ?l ?q; (case h => with_unfolding_all rfl); (case k => infer_instance); (case c => infer_instance); (case l => simp))
  | (with_reducible refine' EW_methI ?h ?c ?q; (case h => with_unfolding_all rfl); (case c => infer_instance))
  | (with_reducible refine' ObB_i ?h ?q; (case h => with_unfolding_all rfl))
  | (with_reducible refine SWO_seq ?_)
  | (with_reducible refine' PutB_i ?c ?q; (case c => infer_instance))
  | with_reducible refine SWO_seq ?_
  | fail)
local macro_rules | `(tactic| walk_at "goO") => `(tactic| repeat (first | walk_at "O1" | walk_at "W" | walk_at "O2"))
local macro_rules | `(tactic| walk_at "goKO") => `(tactic| (walk_at "k"; walk_at "goO"))
local macro_rules | `(tactic| walk_at "goOF") => `(tactic| repeat (first | walk_at "O1" | walk_at "W" | walk_at "O2" | walk_at "fz"))
/-! ### the board turned about -/
/-- all rows -/
def turnRows (u : Int) (r s : Nat) (rows : List (List Int)) : List (List Int) := (List.range rows.length).map fun i => if i = r then rows.getD r [] else turnR u ((rows.getD r []).getD s 0) ((rows.getD i []).getD s 0) (rows.getD i []) (rows.getD r [])
section
variable {P : Program} {w : World} {K : PySem.W.Frag} {mg : Str → Option Value} {base : Heap} {C : Addr} [h1 : HasF K C "main_count"] [h2 : HasF K C "number_rows"] [h3 : HasF K C "goal_row"] [h4 : HasF K C "stand_columns"] [h5 : HasF K C "unit_number"]
/-- rows of one width, of bounded numbers -/
structure Wid (c : Nat) (rows : List (List Int)) : Prop where
  le : rows.length ≤ 1000
  c1 : c ≤ 1000
  row : ∀ r ∈ rows, r.length = c ∧ ∀ z ∈ r, IB 3000 z
theorem Wid.at_ {c i : Nat} {rows : List (List Int)} (W : Wid c rows) (hi : i < rows.length) : (rows.getD i []).length = c ∧ ∀ z ∈ rows.getD i [], IB 3000 z := by
  have e : rows.getD i [] = rows[i] := by rw [List.getD_eq_getElem?_getD, List.getElem?_eq_getElem hi]; rfl
  rw [e]
  exact W.row _ (List.getElem_mem hi)
def pTurn : Flds → List PyData → (Own → PyData → Flds → Prop) → Prop := fun fs ds Q => ∃ (m : Int) (rows : List (List Int)) (og : Own) (goal st : List Int) (u : Int) (r s c : Nat), fs = bF m rows og goal st u ∧ ds = [.int r, .int s] ∧ Wid c rows ∧ r < rows.length ∧ s < c ∧ st.length = rows.length ∧ goal.length = c ∧ (∀ z ∈ goal, IB 3000 z) ∧ 0 < u ∧ IB 3000 u ∧
  Q .lf .none (bF m (turnRows u r s rows) (.li .lf) (turnR u ((rows.getD r []).getD s 0) (goal.getD s 0) goal (rows.getD r [])) (st.set r s) ((rows.getD r []).getD s 0))
theorem ok_Board_turn_about {f : Addr} {fd : FuncData} (F : Fun K "turn_about" "Board.turn_about" s_Board_turn_about f fd) (T : Tx K mg) (m_Board_turned_row : C8.Met P w K mg base 1 C "turned_row" (spO K C pTurnedRow) []) : FnOk P w K mg base CX0 2 f fd P_Board_turn_about (spO K C pTurn) := by
  refine okO F sc_Board_turn_about (fun fs ds Q h => ?_) fun cdv A outer s H E hr => ⟨_, (pss_cons (ps_set (i := 3) sc_Board_turn_about.nd rfl (Or.inl rfl) (pe_ix (k_ixL (K := K)) (k_fld (K := K) (pv 0) rfl) (pv 1) (fun _ _ => rfl)))
  (pss_cons (ps_set (i := 4) sc_Board_turn_about.nd rfl (Or.inl rfl) (pe_lst pa_nil))
  (pss_cons (ps_for PassesOwn.never rfl (pi_range1 (by rfl) T.range_ (pa_cons (pe_callB (k_len (K := K)) (by rfl) T.len_ (by decide +kernel) (pa_cons (k_fld (K := K) (pv 0) rfl) pa_nil)) pa_nil)) (pg_name (i := 5) sc_Board_turn_about.nd rfl (Or.inl rfl))
  (pss_one (ps_if (pt_cmpR op_eq (pv 5) (pv 1) (nomark _))
  (pss_one (ps_expr (pe_bm PySem.F.plainAttrs_list PySem.F.slot_list_append PySem.F.type_list_append mt_append (pv 4) (pa_cons (pv 3) pa_nil))))
  (pss_one (ps_expr (pe_bm PySem.F.plainAttrs_list PySem.F.slot_list_append PySem.F.type_list_append mt_append (pv 4) (pa_cons (C8.pe_mt m_Board_turned_row hr (by decide) (pv 0) (pa_cons (pe_ix (k_ixL (K := K)) (k_fld (K := K) (pv 0) rfl) (pv 5) (fun _ _ => rfl)) (pa_cons (pv 3) (pa_cons (pv 2) pa_nil)))) pa_nil)))))))
  (pss_cons (ps_fld (pv 0) (C8.pe_mt m_Board_turned_row hr (by decide) (pv 0) (pa_cons (k_fld (K := K) (pv 0) rfl) (pa_cons (pv 3) (pa_cons (pv 2) pa_nil)))) rfl)
  (pss_cons (ps_fld (pv 0) (pv 4) rfl)
  (pss_cons (ps_asg (pv 2) (pg_sub (k_fld (K := K) (pv 0) rfl) (pv 1) set_list))
  (pss_one (ps_fld (pv 0) (pe_ix (k_ixL (K := K)) (pv 3) (pv 2) (fun _ _ => rfl)) rfl)))))))), fun w vs fs ds Q lv h => ?_⟩
  · obtain ⟨_, _, _, _, _, _, _, _, _, _, rfl, _⟩ := h
    rfl
  · obtain ⟨m, rows, og, goal, st, u, r, s, c, rfl, rfl, W, hr1, hs, hst, hg, bg, u0, bu, q⟩ := h
    obtain ⟨l1, b1⟩ := W.at_ hr1
    have hle := W.le
    have hc1 := W.c1
    walk_at "goKO"
    rw [show (rows.getD r default) = rows.getD r [] from rfl]
    generalize hL : rows.getD r [] = lead at l1 b1 q
    refine ForB_rng (fun k Γ => ∃ (vs' : List V) (x5 : Sl), vs'.length = 5 ∧ Γ = [.ob false w C (bF m rows og goal st u) vs', .v .lf (.int r), .v .lf (.int s), .v .lf (IL lead), .v (.li .lf) (LD ((turnRows u r s rows).take k)), x5]) ⟨vs, _, lv, rfl⟩ ?_ ?_
    · rintro k Γ hk ⟨vs', x5, lv', rfl⟩
      obtain ⟨l2, b2⟩ := W.at_ hk
      have et : (turnRows u r s rows).take (k + 1) = (turnRows u r s rows).take k ++ [if k = r then lead else turnR u (lead.getD s 0) ((rows.getD k []).getD s 0) (rows.getD k []) lead] := by
        have ek : (turnRows u r s rows)[k]? = some (if k = r then lead else turnR u (lead.getD s 0) ((rows.getD k []).getD s 0) (rows.getD k []) lead) := by
          unfold turnRows
          rw [List.getElem?_map, List.getElem?_range hk, hL]
          rfl
        rw [List.take_add_one, ek]
        rfl
      have lt : ((turnRows u r s rows).take k).length ≤ k := by rw [List.length_take]; omega
      rw [et]
      walk_at "goO"
      refine ifD (fun h => ?_) (fun h => ?_)
      · have e : k = r := by omega
        rw [if_pos e]
        walk_at "goO"
        exact ⟨_, _, lv', rfl⟩
      · have e : ¬ k = r := by omega
        rw [if_neg e]
        walk_at "goO"
        refine ⟨m, rows, og, goal, st, u, rows.getD k [], lead, s, rfl, rfl, by omega, by omega, by omega, b2, b1, u0, bu, fun vs2 lv2 => ?_⟩
        walk_at "goO"
        exact ⟨_, _, lv2, rfl⟩
    · rintro Γ ⟨vs', x5, lv', rfl⟩
      walk_at "goO"
      have eT : (turnRows u r s rows).take rows.length = turnRows u r s rows := List.take_of_length_le (by unfold turnRows; rw [List.length_map, List.length_range]; exact Nat.le_refl _)
      rw [eT]
      refine EW_fldFI rfl inferInstance inferInstance inferInstance ?_
      walk_at "goO"
      refine ⟨m, rows, .lf, goal, st, u, goal, lead, s, rfl, rfl, by omega, by omega, by omega, bg, b1, u0, bu, fun vs2 lv2 => ?_⟩
      walk_at "goO"
      intro vs3 lv3
      refine SW_seq ?_
      refine SW_fld (EW_mv rfl rfl ?_)
      walk_at "goO"
      intro vs4 lv4
      walk_at "goO"
      refine ⟨r, rfl, ?_⟩
      walk_at "goO"
      refine ⟨by rw [List.length_map]; omega, .inl rfl, ?_⟩
      walk_at "goO"
      intro vs5 lv5
      walk_at "goO"
      refine ⟨_, _, rfl, ?_⟩
      rw [show PyData.list ((st.map PyData.int).set r (PyData.int (s : Int))) = IL (st.set r s) by show _ = PyData.list _; rw [List.map_set]]
      exact q
end
local macro_rules | `(tactic| walk_at "O1") => `(tactic| first
  | (with_reducible refine' EW_ixFI ?h ?k ?c ?q; (case h => with_unfolding_all rfl); (case k => infer_instance); (case c => infer_instance))
  | (with_reducible refine' EW_cbF ?h ?k ?c ?q; (case h => with_unfolding_all rfl); (case k => infer_instance); (case c => infer_instance))
  | (with_reducible refine' EW_opFW ?h ?k ?c ?q; (case h => with_unfolding_all rfl); (case k => infer_instance); (case c => infer_instance))
  | (with_reducible refine' EW_appFI ?h ?k ?c ?q; (case h => with_unfolding_all rfl); (case k => infer_instance); (case c => infer_instance))
  | (with_reducible refine' GW_setFI ?h ?k ?c ?q; (case h => with_unfolding_all rfl); (case k => infer_instance); (case c => infer_instance))
  | fail)
local macro_rules | `(tactic| walk_at "O2") => `(tactic| first
  | (with_reducible refine' EW_fldI ?h ?k ?c ?q; (case h => with_unfolding_all rfl); (case k => infer_instance); (case c => infer_instance))
  | (with_reducible refine' OwnAt_i ?h ?q; (case h => with_unfolding_all rfl))
  | (with_reducible refine' FldS_put ?h ?k ?c ?l ?q; (case h => with_unfolding_all rfl); (case k => infer_instance); (case c => infer_instance); (case l => simp))
  | (with_reducible refine' FldS_putN ?h ?k ?c ?l ?q; (case h => with_unfolding_all rfl); (case k => infer_instance); (case c => infer_instance); (case l => simp))
  | (with_reducible refine' EW_methI ?h ?c ?q; (case h => with_unfolding_all rfl); (case c => infer_instance))
  | (with_reducible refine' ObB_i ?h ?q; (case h => with_unfolding_all rfl))
  | (with_reducible refine SWO_seq ?_)
  | (with_reducible refine' PutB_i ?c ?q; (case c => infer_instance))
  | with_reducible refine SWO_seq ?_
  | fail)
local macro_rules | `(tactic| walk_at "goO") => `(tactic| repeat (first | walk_at "O1" | walk_at "W" | walk_at "O2"))
local macro_rules | `(tactic| walk_at "goKO") => `(tactic| (walk_at "k"; walk_at "goO"))
local macro_rules | `(tactic| walk_at "goOF") => `(tactic| repeat (first | walk_at "O1" | walk_at "W" | walk_at "O2" | walk_at "fz"))
/-! ### the board led down -/
structure BoS where
  rows : List (List Int)
  goal : List Int
  st : List Int
  u : Int
def BoS.turn (B : BoS) (r s : Nat) : BoS := ⟨turnRows B.u r s B.rows, turnR B.u ((B.rows.getD r []).getD s 0) (B.goal.getD s 0) B.goal (B.rows.getD r []), B.st.set r s, (B.rows.getD r []).getD s 0⟩
/-- its sizes -/
structure BoS.Ok (c : Nat) (B : BoS) : Prop where
  w : Wid c B.rows
  st : B.st.length = B.rows.length
  gl : B.goal.length = c
  gb : ∀ z ∈ B.goal, IB 3000 z
  u0 : 0 < B.u
  ub : IB 3000 B.u
/-- what is kept while a board is led down; the numbers count how long that lasts -/
structure LedI (m c : Nat) (Inv : Nat → BoS → Prop) : Prop where
  ok : ∀ k B, Inv k B → B.Ok c
  go : ∀ k B s, Inv k B → enterF B.goal m = some s → ∃ r, leaveF B.rows B.st s B.rows.length = some r ∧ r < B.rows.length ∧ ∃ k', k' < k ∧ Inv k' (B.turn r s)
section
variable {P : Program} {w : World} {K : PySem.W.Frag} {mg : Str → Option Value} {base : Heap} {C : Addr} [h1 : HasF K C "main_count"] [h2 : HasF K C "number_rows"] [h3 : HasF K C "goal_row"] [h4 : HasF K C "stand_columns"] [h5 : HasF K C "unit_number"]
theorem enterF_lt {goal : List Int} {m s : Nat} (h : enterF goal m = some s) : s < m := List.mem_range.mp (List.mem_of_find?_eq_some h)
def pLead : Flds → List PyData → (Own → PyData → Flds → Prop) → Prop := fun fs ds Q => ∃ (m c : Nat) (B : BoS) (Inv : Nat → BoS → Prop) (k : Nat), fs = bF m B.rows (.li .lf) B.goal B.st B.u ∧ ds = [] ∧ m ≤ c ∧ 1 ≤ c ∧ LedI m c Inv ∧ Inv k B ∧
  ∀ k' B', Inv k' B' → enterF B'.goal m = none → Q .lf .none (bF m B'.rows (.li .lf) B'.goal B'.st B'.u)
theorem ok_Board_lead_down {f : Addr} {fd : FuncData} (F : Fun K "lead_down" "Board.lead_down" s_Board_lead_down f fd) (T : Tx K mg) (m_Board_turn_about : C8.Met P w K mg base 2 C "turn_about" (spO K C pTurn) []) (m_Board_entering_column : C8.Met P w K mg base 1 C "entering_column" (spO K C pEnter) []) (m_Board_leaving_row : C8.Met P w K mg base 1 C "leaving_row" (spO K C pLeave) []) : FnOk P w K mg base CX0 3 f fd P_Board_lead_down (spO K C pLead) := by
  refine okO F sc_Board_lead_down (fun fs ds Q h => ?_) fun cdv A outer s H E hr => ⟨_, (pss_cons (ps_set (i := 1) sc_Board_lead_down.nd rfl (Or.inl rfl) (C8.pe_mt0 m_Board_entering_column hr (by decide) (pv 0)))
  (pss_one (ps_while PassesOwn.never (pt_cmpR op_notN1 (pv 1) pe_non (nomark _))
  (pss_cons (ps_expr (C8.pe_mt m_Board_turn_about hr (by decide) (pv 0) (pa_cons (C8.pe_mt m_Board_leaving_row hr (by decide) (pv 0) (pa_cons (pv 1) pa_nil)) (pa_cons (pv 1) pa_nil))))
  (pss_one (ps_set (i := 1) sc_Board_lead_down.nd rfl (Or.inl rfl) (C8.pe_mt0 m_Board_entering_column hr (by decide) (pv 0)))))))), fun w vs fs ds Q lv h => ?_⟩
  · obtain ⟨_, _, _, _, _, _, rfl, _⟩ := h
    rfl
  · obtain ⟨m, c, B, Inv, k, rfl, rfl, mc, c1, LI, hi, q⟩ := h
    have ok := LI.ok k B hi
    have hc1 := ok.w.c1
    walk_at "goKO"
    refine ⟨m, B.rows, .li .lf, B.goal, B.st, B.u, rfl, rfl, by rw [ok.gl]; exact mc, by omega, .inr rfl, fun vs2 lv2 => ?_⟩
    walk_at "goO"
    refine SW_while ⟨fun k Γ => ∃ (B : BoS) (vs : List V), vs.length = 5 ∧ Γ = [.ob false w C (bF m B.rows (.li .lf) B.goal B.st B.u) vs, .v .lf (optD (enterF B.goal m))] ∧ Inv k B, ⟨k, B, vs2, lv2, rfl, hi⟩, ?_⟩
    rintro k Γ ⟨B, vs3, lv3, rfl, hi⟩
    have ok := LI.ok k B hi
    cases he : enterF B.goal m with
    | none =>
      rw [show optD none = PyData.none from rfl]
      walk_at "goO"
      exact ⟨_, _, rfl, q k B hi he⟩
    | some s =>
      rw [show optD (some s) = PyData.int (s : Int) from rfl]
      have hs := enterF_lt he
      obtain ⟨r, hl, hr2, k', hk', hi'⟩ := LI.go k B s hi he
      have ok' := LI.ok k' _ hi'
      walk_at "goO"
      refine ⟨m, B.rows, .li .lf, B.goal, B.st, B.u, s, c, rfl, rfl, ok.w.le, ok.st, c1, by omega, hc1, ok.w.row, fun vs4 lv4 => ?_⟩
      rw [hl, show optD (some r) = PyData.int (r : Int) from rfl]
      walk_at "goO"
      refine ⟨m, B.rows, .li .lf, B.goal, B.st, B.u, r, s, c, rfl, rfl, ok.w, hr2, by omega, ok.st, ok.gl, ok.gb, ok.u0, ok.ub, fun vs5 lv5 => ?_⟩
      walk_at "goO"
      refine ⟨m, (B.turn r s).rows, .li .lf, (B.turn r s).goal, (B.turn r s).st, (B.turn r s).u, rfl, rfl, by rw [ok'.gl]; exact mc, by omega, .inr rfl, fun vs6 lv6 => ?_⟩
      walk_at "goO"
      exact ⟨k', hk', B.turn r s, _, lv6, rfl, hi'⟩
end
local macro_rules | `(tactic| walk_at "O1") => `(tactic| first
  | (with_reducible refine' EW_ixFI ?h ?k ?c ?q; (case h => with_unfolding_all rfl); (case k => infer_instance); (case c => infer_instance))
  | (with_reducible refine' EW_cbF ?h ?k ?c ?q; (case h => with_unfolding_all rfl); (case k => infer_instance); (case c => infer_instance))
  | (with_reducible refine' EW_opFW ?h ?k ?c ?q; (case h => with_unfolding_all rfl); (case k => infer_instance); (case c => infer_instance))
  | (with_reducible refine' EW_appFI ?h ?k ?c ?q; (case h => with_unfolding_all rfl); (case k => infer_instance); (case c => infer_instance))
  | (with_reducible refine' GW_setFI ?h ?k ?c ?q; (case h => with_unfolding_all rfl); (case k => infer_instance); (case c => infer_instance))
  | fail)
local macro_rules | `(tactic| walk_at "O2") => `(tactic| first
  | (with_reducible refine' EW_fldI ?h ?k ?c ?q; (case h => with_unfolding_all rfl); (case k => infer_instance); (case c => infer_instance))
  | (with_reducible refine' OwnAt_i ?h ?q; (case h => with_unfolding_all rfl))
  | (with_reducible refine' FldS_put ?h ?k ?c ?l ?q; (case h => with_unfolding_all rfl); (case k => infer_instance); (case c => infer_instance); (case l => simp))
  | (with_reducible refine' FldS_putN ?h ?k ?c ?l ?q; (case h => with_unfolding_all rfl); (case k => infer_instance); (case c => infer_instance); (case l => simp))
  | (with_reducible refine' EW_methI ?h ?c ?q; (case h => with_unfolding_all rfl); (case c => infer_instance))
  | (with_reducible refine' ObB_i ?h ?q; (case h => with_unfolding_all rfl))
  | (with_reducible refine SWO_seq ?_)
  | (with_reducible refine' PutB_i ?c ?q; (case c => infer_instance))
  | with_reducible refine SWO_seq ?_
  | fail)
local macro_rules | `(tactic| walk_at "goO") => `(tactic| repeat (first | walk_at "O1" | walk_at "W" | walk_at "O2"))
local macro_rules | `(tactic| walk_at "goKO") => `(tactic| (walk_at "k"; walk_at "goO"))
local macro_rules | `(tactic| walk_at "goOF") => `(tactic| repeat (first | walk_at "O1" | walk_at "W" | walk_at "O2" | walk_at "fz"))
/-! ### a board made -/
def initRow (rows : List (List Int)) (sums : List Int) (k : Nat) : List Int := rows.getD k [] ++ ((List.range rows.length).map fun i => if k = i then (1 : Int) else 0) ++ [sums.getD k 0]
def initRows (rows : List (List Int)) (sums : List Int) : List (List Int) := (List.range rows.length).map (initRow rows sums)
def initGoal (m : Nat) (rows : List (List Int)) (sums : List Int) : List Int := ((List.range m).map fun s => 0 - (rows.map fun r => r.getD s 0).sum) ++ (rowG rows.length fun _ => (0 : Int)) ++ [0 - sums.sum]
def initSt (m n : Nat) : List Int := (List.range n).map fun k : Nat => (m : Int) + (k : Int)
section
variable {P : Program} {w : World} {K : PySem.W.Frag} {mg : Str → Option Value} {base : Heap} {C : Addr} [h1 : HasF K C "main_count"] [h2 : HasF K C "number_rows"] [h3 : HasF K C "goal_row"] [h4 : HasF K C "stand_columns"] [h5 : HasF K C "unit_number"]
def pInit : Flds → List PyData → (Own → PyData → Flds → Prop) → Prop := fun fs ds Q => ∃ (m : Nat) (rows : List (List Int)) (sums : List Int), fs = [] ∧ ds = [LD rows, IL sums] ∧ 1 ≤ rows.length ∧ rows.length ≤ 300 ∧ m ≤ 300 ∧ sums.length = rows.length ∧ (∀ r ∈ rows, r.length = m) ∧
  Q .lf .none (bF m (initRows rows sums) (.li .lf) (initGoal m rows sums) (initSt m rows.length) 1)
theorem ok_Board___init__ {f : Addr} {fd : FuncData} (F : Fun K "__init__" "Board.__init__" s_Board___init__ f fd) (T : Tx K mg) : FnOk P w K mg base CX0 1 f fd P_Board___init__ (spO K C pInit) := by
  refine okO F sc_Board___init__ (fun fs ds Q h => ?_) fun cdv A outer s H E hr => ⟨_, (pss_cons (ps_set (i := 3) sc_Board___init__.nd rfl (Or.inl rfl) (pe_callB (k_len (K := K)) (by rfl) T.len_ (by decide +kernel) (pa_cons (pv 1) pa_nil)))
  (pss_cons (ps_fld (pv 0) (pe_callB (k_len (K := K)) (by rfl) T.len_ (by decide +kernel) (pa_cons (pe_ix (k_ixL (K := K)) (pv 1) pe_int (fun _ _ => rfl)) pa_nil)) rfl)
  (pss_cons (ps_fld (pv 0) (pe_lst pa_nil) rfl)
  (pss_cons (ps_for PassesOwn.never rfl (pi_range1 (by rfl) T.range_ (pa_cons (pv 3) pa_nil)) (pg_name (i := 4) sc_Board___init__.nd rfl (Or.inr rfl))
  (pss_one (ps_expr (pe_bm PySem.F.plainAttrs_list PySem.F.slot_list_append PySem.F.type_list_append mt_append (k_fld (K := K) (pv 0) rfl) (pa_cons (pe_op op_cat (pe_op op_cat (pe_ix (k_ixL (K := K)) (pv 1) (pv 4) (fun _ _ => rfl)) (pe_lc (own := [("i", 5)]) (g := gName 5) (tt := tYes) rfl sc_Board___init__.nd (pi_range1 (by rfl) T.range_ (pa_cons (pv 3) pa_nil)) (blkOk_by (own := [("i", 5)]) (N := N_Board___init__) (sc := defScope s_Board___init__) (by decide +kernel)) (fun _ _ _ _ _ => (pg_name (i := 5) sc_Board___init__.nd rfl (Or.inl rfl))) (fun _ _ _ _ _ => pts_nil) (fun _ _ _ _ _ => (pe_callTy cr_int1 (by rfl) T.int_ (by decide +kernel) (pa_cons (pe_cmpR op_eq (pv 4) (pv 5) (nomark _)) pa_nil))))) (pe_lst (pa_cons (pe_ix (k_ixL (K := K)) (pv 2) (pv 4) (fun _ _ => rfl)) pa_nil))) pa_nil)))))
  (pss_cons (ps_setLc (i := 6) (own := [("s", 7)]) (g := gName 7) (tt := tYes) rfl sc_Board___init__.nd rfl rfl (sw_true rfl rfl rfl (by decide +kernel)) (pi_range1 (by rfl) T.range_ (pa_cons (k_fld (K := K) (pv 0) rfl) pa_nil)) (blkOk_by (own := [("s", 7)]) (N := N_Board___init__) (sc := defScope s_Board___init__) (by decide +kernel)) (fun _ _ _ _ _ => (pg_name (i := 7) sc_Board___init__.nd rfl (Or.inr rfl))) (fun _ _ _ _ _ => pts_nil) (fun _ _ _ _ _ => (pe_op op_sub pe_int (pe_callB (k_sum (K := K)) (by rfl) T.sum_ (by decide +kernel) (pa_cons (pe_lc (own := [("row", 8)]) (g := gName 8) (tt := tYes) rfl sc_Board___init__.nd (k_piL (K := K) (pv 1)) (blkOk_by (own := [("row", 8)]) (by rfl)) (fun _ _ _ _ _ => (pg_name (i := 8) sc_Board___init__.nd rfl (Or.inl rfl))) (fun _ _ _ _ _ => pts_nil) (fun _ _ _ _ _ => (pe_ix (k_ixL (K := K)) (pv 8) (pv 7) (fun _ _ => rfl)))) pa_nil)))))
  (pss_cons (ps_fld (pv 0) (pe_op op_cat (pe_op op_cat (pv 6) (pe_op op_rep (pe_lst (pa_cons pe_int pa_nil)) (pv 3))) (pe_lst (pa_cons (pe_op op_sub pe_int (pe_callB (k_sum (K := K)) (by rfl) T.sum_ (by decide +kernel) (pa_cons (pv 2) pa_nil))) pa_nil))) rfl)
  (pss_cons (ps_fld (pv 0) (pe_lc (own := [("k", 4)]) (g := gName 4) (tt := tYes) rfl sc_Board___init__.nd (pi_range1 (by rfl) T.range_ (pa_cons (pv 3) pa_nil)) (blkOk_by (own := [("k", 4)]) (N := N_Board___init__) (sc := defScope s_Board___init__) (by decide +kernel)) (fun _ _ _ _ _ => (pg_name (i := 4) sc_Board___init__.nd rfl (Or.inl rfl))) (fun _ _ _ _ _ => pts_nil) (fun _ _ _ _ _ => (pe_op op_add (k_fld (K := K) (pv 0) rfl) (pv 4)))) rfl)
  (pss_one (ps_fld (pv 0) pe_int rfl))))))))), fun w vs fs ds Q lv h => ?_⟩
  · obtain ⟨_, _, _, _, rfl, _⟩ := h
    rfl
  · obtain ⟨m, rows, sums, rfl, rfl, r1, r2, m2, ls, hw, q⟩ := h
    have lrow : ∀ k, k < rows.length → (rows.getD k []).length = m := fun k hk => by
      rw [List.getD_eq_getElem?_getD, List.getElem?_eq_getElem hk]
      exact hw _ (List.getElem_mem hk)
    have l0 := lrow 0 (by omega)
    have l0' : (rows.getD 0 default).length = m := l0
    walk_at "goKO"
    rw [show (rows.getD (Int.toNat 0) default).length = m from l0]
    intro vs1 lv1
    walk_at "goO"
    intro vs2 lv2
    walk_at "goO"
    refine ForB_rng (fun k Γ => ∃ (vs' : List V) (x4 : Sl), vs'.length = 2 ∧ Γ = [.ob false w C [("main_count", .lf, .int m), ("number_rows", .li .lf, LD ((initRows rows sums).take k))] vs', .v .lf (LD rows), .v .lf (IL sums), .v .lf (.int rows.length), x4, .un, .un, .un, .un]) ⟨vs2, _, lv2, rfl⟩ ?_ ?_
    · rintro k Γ hk ⟨vs', x4, lv', rfl⟩
      have lk := lrow k hk
      have lk' : (rows.getD k default).length = m := lk
      have hks : k < sums.length := by omega
      have ek : (initRows rows sums)[k]? = some (initRow rows sums k) := by
        unfold initRows
        rw [List.getElem?_map, List.getElem?_range hk]; rfl
      have et : (initRows rows sums).take (k + 1) = (initRows rows sums).take k ++ [initRow rows sums k] := by rw [List.take_add_one, ek]; rfl
      have lt : ((initRows rows sums).take k).length ≤ k := by rw [List.length_take]; omega
      rw [et]
      walk_at "goO"
      refine LcB_m .lf (fun i : Nat => .int (if k = i then (1 : Int) else 0)) (by rw [List.length_range]; omega) (fun i hi => ?_) ?_
      · refine GC_name (by decide) ?_
        walk_at "goO"
        refine ⟨.inl rfl, ?_, rfl⟩
        congr 1
        by_cases c : k = i
        · rw [if_pos c, if_pos (by simp [c])]
        · rw [if_neg c, if_neg (by rw [decide_eq_true_eq]; omega)]
      · walk_at "goO"
        refine ⟨.inr rfl, by rw [List.length_map]; omega, ?_⟩
        have eL : PyData.list (((initRows rows sums).take k).map IL ++ [PyData.list ((rows.getD k default).map PyData.int ++ (List.range rows.length).map (fun i : Nat => PyData.int (if k = i then (1 : Int) else 0)) ++ [PyData.int (sums.getD k 0)])]) = LD ((initRows rows sums).take k ++ [initRow rows sums k]) := by
          show PyData.list _ = PyData.list _
          rw [List.map_append]
          congr 2
          show [PyData.list _] = [PyData.list _]
          unfold initRow
          rw [List.map_append, List.map_append, List.map_map]
          rfl
        rw [eL]
        walk_at "goO"
        exact ⟨_, _, lv', rfl⟩
    · rintro Γ ⟨vs', x4, lv', rfl⟩
      rw [show (initRows rows sums).take rows.length = initRows rows sums from List.take_of_length_le (by unfold initRows; rw [List.length_map, List.length_range]; exact Nat.le_refl _)]
      walk_at "goO"
      refine LcB_m .lf (fun s : Nat => .int (0 - (rows.map fun r => r.getD s 0).sum)) (by rw [List.length_range]; omega) (fun s hs => ?_) ?_
      · have hs := List.mem_range.mp hs
        refine GC_name (by decide) ?_
        walk_at "goO"
        refine LcB_m .lf (fun r : List Int => .int (r.getD s 0)) (by omega) (fun r hr => ?_) ?_
        · have lr := hw r hr
          have hsr : s < r.length := by omega
          refine GC_name (by decide) ?_
          walk_at "goO"
          exact ⟨.inl rfl, rfl, rfl⟩
        rw [show rows.map (fun r : List Int => PyData.int (r.getD s 0)) = (rows.map fun r => r.getD s 0).map PyData.int by rw [List.map_map]; rfl]
        walk_at "goO"
        exact ⟨.inl rfl, rfl, rfl⟩
      rw [show (List.range m).map (fun s : Nat => PyData.int (0 - (rows.map fun r => r.getD s 0).sum)) = ((List.range m).map fun s => 0 - (rows.map fun r => r.getD s 0).sum).map PyData.int by rw [List.map_map]; rfl]
      walk_at "goOF"
      intro vs3 lv3
      walk_at "goO"
      refine LcB_m .lf (fun k : Nat => .int ((m : Int) + (k : Int))) (by rw [List.length_range]; omega) (fun k hk => ?_) ?_
      · refine GC_name (by decide) ?_
        walk_at "goO"
        exact ⟨.inl rfl, rfl, rfl⟩
      rw [show (List.range rows.length).map (fun k : Nat => PyData.int ((m : Int) + (k : Int))) = (initSt m rows.length).map PyData.int by unfold initSt; rw [List.map_map]; rfl]
      walk_at "goO"
      intro vs4 lv4
      walk_at "goO"
      intro vs5 lv5
      exact ⟨_, _, rfl, q⟩
end

/-! ### a determinant of one's own (plain law for the boards) -/
abbrev Vec := Nat → Int
def sumN (f : Nat → Int) : Nat → Int
  | 0 => 0
  | n + 1 => sumN f n + f n
theorem sumN_congr {f g : Nat → Int} : ∀ {n : Nat}, (∀ j, j < n → f j = g j) → sumN f n = sumN g n
  | 0, _ => rfl
  | n + 1, h => by
    show sumN f n + f n = sumN g n + g n
    rw [sumN_congr fun j hj => h j (by omega), h n (by omega)]
theorem sumN_lin {f g : Nat → Int} {a b : Int} : ∀ n : Nat, sumN (fun j => a * f j + b * g j) n = a * sumN f n + b * sumN g n
  | 0 => by simp [sumN]
  | n + 1 => by
    show sumN _ n + (a * f n + b * g n) = a * (sumN f n + f n) + b * (sumN g n + g n)
    rw [sumN_lin n, Int.mul_add, Int.mul_add]; omega
theorem sumN_zero {f : Nat → Int} : ∀ {n : Nat}, (∀ j, j < n → f j = 0) → sumN f n = 0
  | 0, _ => rfl
  | n + 1, h => by
    show sumN f n + f n = 0
    rw [sumN_zero fun j hj => h j (by omega), h n (by omega)]; rfl
theorem sumN_one {f : Nat → Int} {p : Nat} : ∀ {n : Nat}, p < n → (∀ j, j < n → j ≠ p → f j = 0) → sumN f n = f p
  | n + 1, hp, h => by
    show sumN f n + f n = f p
    by_cases c : p = n
    · subst c
      rw [sumN_zero fun j hj => h j (by omega) (by omega), Int.zero_add]
    · rw [sumN_one (n := n) (by omega) fun j hj hn => h j (by omega) hn, h n (by omega) (by omega), Int.add_zero]
theorem sumN_two {f : Nat → Int} {p q : Nat} (pq : p ≠ q) : ∀ {n : Nat}, p < n → q < n → (∀ j, j < n → j ≠ p → j ≠ q → f j = 0) → sumN f n = f p + f q
  | n + 1, hp, hq, h => by
    show sumN f n + f n = f p + f q
    by_cases c : p = n
    · subst c
      rw [sumN_one (p := q) (by omega) fun j hj hn => h j (by omega) (by omega) hn]; omega
    · by_cases c2 : q = n
      · subst c2
        rw [sumN_one (p := p) (by omega) fun j hj hn => h j (by omega) hn (by omega)]
      · rw [sumN_two pq (n := n) (by omega) (by omega) fun j hj h1 h2 => h j (by omega) h1 h2, h n (by omega) (by omega) (by omega), Int.add_zero]
def del (j : Nat) (v : Nat → Vec) : Nat → Vec := fun i => if i < j then v i else v (i + 1)
def put (p : Nat) (x : Vec) (v : Nat → Vec) : Nat → Vec := fun i => if i = p then x else v i
def sg (j : Nat) : Int := if j % 2 = 0 then 1 else -1
def det : Nat → Nat → (Nat → Vec) → Int
  | 0, _, _ => 1
  | n + 1, k, v => sumN (fun j => sg j * v j k * det n (k + 1) (del j v)) (n + 1)
theorem det_succ {n k : Nat} {v : Nat → Vec} : det (n + 1) k v = sumN (fun j => sg j * v j k * det n (k + 1) (del j v)) (n + 1) := rfl
theorem det_congr : ∀ {n k : Nat} {v w : Nat → Vec}, (∀ i, i < n → v i = w i) → det n k v = det n k w
  | 0, _, _, _, _ => rfl
  | n + 1, k, v, w, h => by
    rw [det_succ, det_succ]
    refine sumN_congr fun j hj => ?_
    try dsimp only
    rw [h j hj, det_congr (n := n) (v := del j v) (w := del j w) fun i hi => by
      unfold del
      split
      · exact h i (by omega)
      · exact h (i + 1) (by omega)]
theorem put_at {p : Nat} {x : Vec} {v : Nat → Vec} : put p x v p = x := if_pos rfl
theorem put_ne {p i : Nat} {x : Vec} {v : Nat → Vec} (h : i ≠ p) : put p x v i = v i := if_neg h
theorem del_put {p : Nat} {x : Vec} {v : Nat → Vec} : del p (put p x v) = del p v := by
  funext i
  unfold del put
  split
  · rw [if_neg (by omega)]
  · rw [if_neg (by omega)]
theorem del_put_ne {p j : Nat} {x : Vec} {v : Nat → Vec} (h : j ≠ p) : del j (put p x v) = put (if p < j then p else p - 1) x (del j v) := by
  funext i
  unfold del put
  try dsimp only
  by_cases c : p < j
  · rw [if_pos c]
    by_cases c2 : i < j
    · rw [if_pos c2, if_pos c2]
    · rw [if_neg c2, if_neg c2, if_neg (by omega), if_neg (by omega)]
  · rw [if_neg c]
    by_cases c2 : i < j
    · rw [if_pos c2, if_pos c2, if_neg (by omega), if_neg (by omega)]
    · rw [if_neg c2, if_neg c2]
      by_cases c3 : i + 1 = p
      · rw [if_pos c3, if_pos (by omega)]
      · rw [if_neg c3, if_neg (by omega)]
/-- linear in each column -/
theorem det_lin {a b : Int} {x y : Vec} : ∀ {n k p : Nat} {v : Nat → Vec}, p < n → det n k (put p (fun c => a * x c + b * y c) v) = a * det n k (put p x v) + b * det n k (put p y v)
  | n + 1, k, p, v, hp => by
    rw [det_succ, det_succ, det_succ, ← sumN_lin]
    refine sumN_congr fun j hj => ?_
    try dsimp only
    by_cases c : j = p
    · subst c
      rw [put_at, put_at, put_at, del_put, del_put, del_put, Int.mul_add, Int.add_mul, ← Int.mul_assoc a, ← Int.mul_assoc b, ← Int.mul_assoc a, ← Int.mul_assoc b, Int.mul_comm a (sg j), Int.mul_comm b (sg j), ← Int.mul_assoc, ← Int.mul_assoc]
    · rw [put_ne c, put_ne c, put_ne c, del_put_ne c, del_put_ne c, del_put_ne c, det_lin (n := n) (by split <;> omega), Int.mul_add, Int.mul_left_comm _ a, Int.mul_left_comm _ b]
theorem sg_succ (j : Nat) : sg (j + 1) = - sg j := by
  unfold sg
  by_cases c : j % 2 = 0
  · rw [if_pos c, if_neg (by omega)]
  · rw [if_neg c, if_pos (by omega)]; rfl
/-- two neighbours alike -/
theorem det_adj : ∀ {n k p : Nat} {v : Nat → Vec}, p + 1 < n → v p = v (p + 1) → det n k v = 0
  | n + 1, k, p, v, hp, e => by
    rw [det_succ, sumN_two (p := p) (q := p + 1) (by omega) (by omega) hp]
    · try dsimp only
      have ed : del p v = del (p + 1) v := by
        funext i
        unfold del
        by_cases c : i < p
        · rw [if_pos c, if_pos (by omega)]
        · rw [if_neg c]
          by_cases c2 : i = p
          · subst c2; rw [if_pos (by omega), e]
          · rw [if_neg (by omega)]
      rw [ed, e, sg_succ, Int.neg_mul, Int.neg_mul]
      omega
    · intro j hj h1 h2
      try dsimp only
      have z : det n (k + 1) (del j v) = 0 := by
        by_cases c : j < p
        · refine det_adj (n := n) (p := p - 1) (by omega) ?_
          unfold del
          rw [if_neg (by omega), if_neg (by omega), show p - 1 + 1 = p by omega, e]
        · refine det_adj (n := n) (p := p) (by omega) ?_
          unfold del
          rw [if_pos (by omega), if_pos (by omega), e]
      rw [z, Int.mul_zero]
theorem put_put {p : Nat} {x y : Vec} {v : Nat → Vec} : put p x (put p y v) = put p x v := by
  funext i; unfold put; split <;> rfl
theorem put_self {p : Nat} {v : Nat → Vec} : put p (v p) v = v := by
  funext i
  unfold put
  split
  · rename_i h; rw [h]
  · rfl
theorem put_comm {p q : Nat} {x y : Vec} {v : Nat → Vec} (h : p ≠ q) : put p x (put q y v) = put q y (put p x v) := by
  funext i
  unfold put
  by_cases c : i = p
  · rw [if_pos c, if_neg (by omega), if_pos c]
  · rw [if_neg c, if_neg c]
/-- from columns alike to columns exchanged -/
theorem det_swap_of {n k p q : Nat} (hp : p < n) (hq : q < n) (pq : p ≠ q) (al : ∀ v : Nat → Vec, v p = v q → det n k v = 0) (x y : Vec) (v : Nat → Vec) : det n k (put p x (put q y v)) = - det n k (put p y (put q x v)) := by
  have e : det n k (put p (fun c => 1 * x c + 1 * y c) (put q (fun c => 1 * x c + 1 * y c) v)) = 0 := al _ (by rw [put_at, put_ne (fun e => pq e.symm), put_at])
  rw [det_lin hp, put_comm pq, put_comm pq (x := y), det_lin hq, det_lin hq, ← put_comm pq, ← put_comm pq, ← put_comm pq, ← put_comm pq] at e
  have z1 : det n k (put p x (put q x v)) = 0 := al _ (by rw [put_at, put_ne (fun e => pq e.symm), put_at])
  have z2 : det n k (put p y (put q y v)) = 0 := al _ (by rw [put_at, put_ne (fun e => pq e.symm), put_at])
  rw [z1, z2] at e
  omega
/-- two columns alike -/
theorem det_alike {n k : Nat} : ∀ {d p : Nat} {v : Nat → Vec}, p + 1 + d < n → v p = v (p + 1 + d) → det n k v = 0
  | 0, p, v, h, e => det_adj h e
  | d + 1, p, v, h, e => by
    have s := det_swap_of (n := n) (k := k) (p := p + 1 + d) (q := p + 1 + d + 1) (by omega) (by omega) (by omega) (fun v e => det_adj (by omega) e) (v (p + 1 + d)) (v (p + 1 + d + 1)) v
    rw [show put (p + 1 + d + 1) (v (p + 1 + d + 1)) v = v from put_self, put_self] at s
    rw [s, det_alike (d := d) (p := p) (by omega)]
    · rfl
    · rw [put_ne (by omega), put_ne (by omega), put_at]; exact e
theorem det_eq {n k p q : Nat} {v : Nat → Vec} (hp : p < n) (hq : q < n) (pq : p ≠ q) (e : v p = v q) : det n k v = 0 := by
  rcases Nat.lt_or_gt_of_ne pq with l | l
  · exact det_alike (d := q - p - 1) (p := p) (by omega) (by rw [show p + 1 + (q - p - 1) = q by omega]; exact e)
  · exact det_alike (d := p - q - 1) (p := q) (by omega) (by rw [show q + 1 + (p - q - 1) = p by omega]; exact e.symm)
theorem det_swap {n k p q : Nat} (hp : p < n) (hq : q < n) (pq : p ≠ q) (x y : Vec) (v : Nat → Vec) : det n k (put p x (put q y v)) = - det n k (put p y (put q x v)) :=
  det_swap_of hp hq pq (fun v e => det_eq hp hq pq e) x y v
/-- the unit columns -/
theorem det_unit : ∀ {n k : Nat}, det n k (fun i c => if c = k + i then 1 else 0) = 1
  | 0, _ => rfl
  | n + 1, k => by
    rw [det_succ, sumN_one (p := 0) (by omega)]
    · try dsimp only
      have e : del 0 (fun i c => if c = k + i then (1 : Int) else 0) = fun i c => if c = k + 1 + i then 1 else 0 := by
        funext i c
        unfold del
        rw [if_neg (by omega)]
        show (if c = k + (i + 1) then (1 : Int) else 0) = _
        rw [show k + (i + 1) = k + 1 + i by omega]
      rw [e, det_unit, if_pos (by omega)]
      rfl
    · intro j _ hj
      try dsimp only
      rw [if_neg (by omega), Int.mul_zero, Int.zero_mul]
/-- a column that is a sum of columns -/
theorem det_sum {n k p : Nat} (hp : p < n) {w : Nat → Vec} {a : Nat → Int} {v : Nat → Vec} : ∀ m : Nat, det n k (put p (fun c => sumN (fun j => a j * w j c) m) v) = sumN (fun j => a j * det n k (put p (w j) v)) m
  | 0 => by
    have e := det_lin (n := n) (k := k) (p := p) (v := v) (a := 0) (b := 0) (x := fun _ => 0) (y := fun _ => 0) hp
    rw [Int.zero_mul, Int.zero_mul] at e
    show det n k (put p (fun _ => 0) v) = 0
    rw [show (fun _ : Nat => (0 : Int)) = fun c => 0 * (fun _ => (0 : Int)) c + 0 * (fun _ => (0 : Int)) c from by funext c; simp]
    exact e
  | m + 1 => by
    have e := det_lin (n := n) (k := k) (p := p) (v := v) (a := 1) (b := a m) (x := fun c => sumN (fun j => a j * w j c) m) (y := w m) hp
    rw [det_sum hp m, Int.one_mul] at e
    rw [show (fun c => sumN (fun j => a j * w j c) (m + 1)) = fun c => 1 * sumN (fun j => a j * w j c) m + a m * w m c from by funext c; rw [Int.one_mul]; rfl]
    exact e
theorem det_mul {n k p : Nat} (hp : p < n) {a : Int} {x : Vec} {v : Nat → Vec} : det n k (put p (fun c => a * x c) v) = a * det n k (put p x v) := by
  have e := det_lin (n := n) (k := k) (p := p) (v := v) (a := a) (b := 0) (x := x) (y := x) hp
  rw [Int.zero_mul, Int.add_zero] at e
  rw [← e]
  congr 2
  funext c
  rw [Int.zero_mul, Int.add_zero]
/-! ### the numbers on a board are determinants (plain law) -/
theorem sumN_mul {f : Nat → Int} {a : Int} : ∀ n : Nat, sumN (fun j => a * f j) n = a * sumN f n
  | 0 => by simp [sumN]
  | n + 1 => by
    show sumN _ n + a * f n = a * (sumN f n + f n)
    rw [sumN_mul n, Int.mul_add]
section
variable {n : Nat} {A : Nat → Vec}
/-- a basis' columns; the numbers of a board -/
def colsB (A : Nat → Vec) (bs : Nat → Nat) : Nat → Vec := fun i => A (bs i)
def Dt (n : Nat) (A : Nat → Vec) (bs : Nat → Nat) : Int := det n 0 (colsB A bs)
def Et (n : Nat) (A : Nat → Vec) (bs : Nat → Nat) (i t : Nat) : Int := det n 0 (put i (A t) (colsB A bs))
def setB (bs : Nat → Nat) (r s : Nat) : Nat → Nat := fun i => if i = r then s else bs i
theorem cols_set {bs : Nat → Nat} {r s : Nat} : colsB A (setB bs r s) = put r (A s) (colsB A bs) := by
  funext i
  unfold colsB setB put
  split <;> rfl
theorem Dt_set {bs : Nat → Nat} {r s : Nat} : Dt n A (setB bs r s) = Et n A bs r s := by unfold Dt Et; rw [cols_set]
/-- each column is made of a basis' -/
def Spans (n : Nat) (A : Nat → Vec) (bs : Nat → Nat) : Prop := ∀ t c, c < n → Dt n A bs * A t c = sumN (fun j => Et n A bs j t * A (bs j) c) n
theorem det_congrC : ∀ {n k : Nat} {v w : Nat → Vec}, (∀ i c, i < n → k ≤ c → c < k + n → v i c = w i c) → det n k v = det n k w
  | 0, _, _, _, _ => rfl
  | n + 1, k, v, w, h => by
    rw [det_succ, det_succ]
    refine sumN_congr fun j hj => ?_
    try dsimp only
    rw [h j k hj (Nat.le_refl _) (by omega), det_congrC (n := n) (v := del j v) (w := del j w) fun i c hi h1 h2 => by
      unfold del
      split
      · exact h i c (by omega) (by omega) (by omega)
      · exact h (i + 1) c (by omega) (by omega) (by omega)]
theorem Et_self {bs : Nat → Nat} {i j : Nat} (hi : i < n) (hj : j < n) : Et n A bs i (bs j) = if i = j then Dt n A bs else 0 := by
  by_cases c : i = j
  · subst c
    rw [if_pos rfl]
    unfold Et Dt
    rw [show put i (A (bs i)) (colsB A bs) = colsB A bs from put_self (v := colsB A bs)]
  · rw [if_neg c]
    unfold Et
    refine det_eq hi hj c ?_
    rw [put_at, put_ne (fun e => c e.symm)]
    rfl
/-- the exchange's identity -/
theorem exchange {bs : Nat → Nat} (S : Spans n A bs) {r s i t : Nat} (hr : r < n) (hi : i < n) (ne : i ≠ r) : Dt n A bs * Et n A (setB bs r s) i t = Et n A bs i t * Et n A bs r s - Et n A bs i s * Et n A bs r t := by
  unfold Et
  rw [cols_set, ← det_mul hi]
  have e : det n 0 (put i (fun c => Dt n A bs * A t c) (put r (A s) (colsB A bs))) = det n 0 (put i (fun c => sumN (fun j => Et n A bs j t * A (bs j) c) n) (put r (A s) (colsB A bs))) := by
    refine det_congrC fun q c hq _ hc => ?_
    unfold put
    split
    · exact S t c (by omega)
    · rfl
  rw [e, det_sum hi]
  rw [sumN_two (p := i) (q := r) ne hi hr]
  · have e1 : put i (A (bs i)) (put r (A s) (colsB A bs)) = put r (A s) (colsB A bs) := by
      have : A (bs i) = (put r (A s) (colsB A bs)) i := by rw [put_ne ne]; rfl
      rw [this, put_self]
    have e2 : det n 0 (put i (A (bs r)) (put r (A s) (colsB A bs))) = - det n 0 (put i (A s) (colsB A bs)) := by
      rw [det_swap hi hr ne]
      rw [show put r (A (bs r)) (colsB A bs) = colsB A bs from put_self (v := colsB A bs)]
    rw [e1, e2]
    show Et n A bs i t * _ + Et n A bs r t * - Et n A bs i s = _
    unfold Et
    rw [Int.mul_neg, Int.mul_comm (det n 0 (put r (A t) (colsB A bs)))]
    omega
  · intro j hj h1 h2
    have z : det n 0 (put i (A (bs j)) (put r (A s) (colsB A bs))) = 0 := by
      refine det_eq hi hj (fun e => h1 e.symm) ?_
      rw [put_at, put_ne h1, put_ne h2]; rfl
    rw [z, Int.mul_zero]
theorem Et_same {bs : Nat → Nat} {r s t : Nat} : Et n A (setB bs r s) r t = Et n A bs r t := by
  unfold Et
  rw [cols_set, put_put]
/-- what is made of a basis is made of the next one -/
theorem Spans.next {bs : Nat → Nat} (S : Spans n A bs) {r s : Nat} (hr : r < n) (u0 : Dt n A bs ≠ 0) : Spans n A (setB bs r s) := by
  intro t c hc
  have key : ∀ f : Nat → Int, (sumN f n) = (sumN (fun j => if j = r then 0 else f j) n) + f r := fun f => by
    have l := sumN_lin (f := fun j => if j = r then 0 else f j) (g := fun j => if j = r then f r else 0) (a := 1) (b := 1) n
    rw [Int.one_mul, Int.one_mul] at l
    rw [sumN_one (f := fun j => if j = r then f r else 0) hr fun j _ h => if_neg h, if_pos rfl] at l
    rw [← l]
    refine sumN_congr fun j _ => ?_
    split
    · rename_i h; rw [h]; omega
    · omega
  refine Int.eq_of_mul_eq_mul_left u0 ?_
  have h1 := S t c hc
  have h2 := S s c hc
  rw [key] at h1 h2
  rw [key (fun j => Et n A (setB bs r s) j t * A (setB bs r s j) c), Dt_set, Et_same]
  have e1 : setB bs r s r = s := if_pos rfl
  rw [e1]
  have e2 : Dt n A bs * sumN (fun j => if j = r then 0 else Et n A (setB bs r s) j t * A (setB bs r s j) c) n = Et n A bs r s * sumN (fun j => if j = r then 0 else Et n A bs j t * A (bs j) c) n - Et n A bs r t * sumN (fun j => if j = r then 0 else Et n A bs j s * A (bs j) c) n := by
    have l := sumN_lin (f := fun j => if j = r then 0 else Et n A bs j t * A (bs j) c) (g := fun j => if j = r then 0 else Et n A bs j s * A (bs j) c) (a := Et n A bs r s) (b := - Et n A bs r t) n
    have l2 := sumN_mul (f := fun j => if j = r then 0 else Et n A (setB bs r s) j t * A (setB bs r s j) c) (a := Dt n A bs) n
    rw [← l2, Int.sub_eq_add_neg, ← Int.neg_mul, ← l]
    refine sumN_congr fun j hj => ?_
    try dsimp only
    by_cases k : j = r
    · rw [if_pos k, if_pos k, if_pos k]; simp
    · rw [if_neg k, if_neg k, if_neg k, show setB bs r s j = bs j from if_neg k, ← Int.mul_assoc, exchange S hr hj k, Int.sub_mul, Int.neg_mul, ← Int.mul_assoc, ← Int.mul_assoc, Int.mul_comm (Et n A bs j t), Int.mul_comm (Et n A bs j s)]
      omega
  rw [Int.mul_add, e2]
  generalize sumN (fun j => if j = r then 0 else Et n A bs j t * A (bs j) c) n = X at h1 e2
  generalize sumN (fun j => if j = r then 0 else Et n A bs j s * A (bs j) c) n = Y at h2 e2
  have h3 : Dt n A bs * (Et n A bs r s * A t c) = Et n A bs r s * (X + Et n A bs r t * A (bs r) c) := by rw [← h1, Int.mul_left_comm]
  have h4 : Dt n A bs * (Et n A bs r t * A s c) = Et n A bs r t * (Y + Et n A bs r s * A (bs r) c) := by rw [← h2, Int.mul_left_comm]
  rw [h3, h4, Int.mul_add, Int.mul_add, Int.mul_left_comm (Et n A bs r t) (Et n A bs r s)]
  omega
end
/-! ### Bland's rule ends (plain law) -/
section
variable {n N m : Nat} {A : Nat → Vec} {cost : Nat → Int}
/-- the goal's number at a column -/
def Gt (n : Nat) (A : Nat → Vec) (cost : Nat → Int) (bs : Nat → Nat) (t : Nat) : Int := Dt n A bs * cost t - sumN (fun i => cost (bs i) * Et n A bs i t) n
structure Good (n N : Nat) (A : Nat → Vec) (bs : Nat → Nat) : Prop where
  sp : Spans n A bs
  u0 : 0 < Dt n A bs
  b0 : ∀ i, i < n → 0 ≤ Et n A bs i N
  lt : ∀ i, i < n → bs i < N
structure Piv (n N m : Nat) (A : Nat → Vec) (cost : Nat → Int) (bs : Nat → Nat) (r s : Nat) : Prop where
  sm : s < m
  neg : Gt n A cost bs s < 0
  fst : ∀ j, j < s → 0 ≤ Gt n A cost bs j
  rn : r < n
  pos : 0 < Et n A bs r s
  rat : ∀ i, i < n → 0 < Et n A bs i s → Et n A bs r N * Et n A bs i s ≤ Et n A bs i N * Et n A bs r s ∧ (Et n A bs r N * Et n A bs i s = Et n A bs i N * Et n A bs r s → bs r ≤ bs i)
theorem sumN_split {f : Nat → Int} {r : Nat} (hr : r < n) : sumN f n = sumN (fun j => if j = r then 0 else f j) n + f r := by
  have l := sumN_lin (f := fun j => if j = r then 0 else f j) (g := fun j => if j = r then f r else 0) (a := 1) (b := 1) n
  rw [Int.one_mul, Int.one_mul] at l
  rw [sumN_one (f := fun j => if j = r then f r else 0) hr fun j _ h => if_neg h, if_pos rfl] at l
  rw [← l]
  refine sumN_congr fun j _ => ?_
  try dsimp only
  split
  · rename_i h; rw [h]; omega
  · omega
theorem Gt_self {bs : Nat → Nat} {i : Nat} (hi : i < n) : Gt n A cost bs (bs i) = 0 := by
  unfold Gt
  rw [sumN_one hi fun j hj ne => by rw [Et_self hj hi, if_neg ne, Int.mul_zero]]
  rw [Et_self hi hi, if_pos rfl, Int.mul_comm]
  omega
/-- the goal's row goes over to the next basis like the others -/
theorem Gt_next {bs : Nat → Nat} (S : Spans n A bs) {r s t : Nat} (hr : r < n) : Dt n A bs * Gt n A cost (setB bs r s) t = Gt n A cost bs t * Et n A bs r s - Gt n A cost bs s * Et n A bs r t := by
  unfold Gt
  rw [Dt_set, sumN_split (f := fun i => cost (setB bs r s i) * Et n A (setB bs r s) i t) hr, sumN_split (f := fun i => cost (bs i) * Et n A bs i t) hr, sumN_split (f := fun i => cost (bs i) * Et n A bs i s) hr, Et_same, show setB bs r s r = s from if_pos rfl]
  have e : Dt n A bs * sumN (fun j => if j = r then 0 else cost (setB bs r s j) * Et n A (setB bs r s) j t) n = Et n A bs r s * sumN (fun j => if j = r then 0 else cost (bs j) * Et n A bs j t) n + (- Et n A bs r t) * sumN (fun j => if j = r then 0 else cost (bs j) * Et n A bs j s) n := by
    rw [← sumN_mul, ← sumN_lin]
    refine sumN_congr fun j hj => ?_
    try dsimp only
    by_cases k : j = r
    · rw [if_pos k, if_pos k, if_pos k]; simp
    · rw [if_neg k, if_neg k, if_neg k, show setB bs r s j = bs j from if_neg k, Int.mul_left_comm, exchange S hr hj k, Int.mul_sub, Int.neg_mul, Int.mul_comm (Et n A bs j t), Int.mul_comm (Et n A bs j s), Int.mul_left_comm (cost _), Int.mul_left_comm (cost _)]
      omega
  generalize sumN (fun j => if j = r then 0 else cost (setB bs r s j) * Et n A (setB bs r s) j t) n = X at e ⊢
  generalize sumN (fun j => if j = r then 0 else cost (bs j) * Et n A bs j t) n = Y at e ⊢
  generalize sumN (fun j => if j = r then 0 else cost (bs j) * Et n A bs j s) n = Z at e ⊢
  generalize Dt n A bs = u at e ⊢
  generalize Et n A bs r s = p at e ⊢
  generalize Et n A bs r t = q at e ⊢
  generalize cost (bs r) = cr at e ⊢
  rw [Int.mul_sub, Int.mul_add, e]
  simp only [Int.sub_mul, Int.add_mul, Int.neg_mul]
  rw [show u * (p * cost t) = u * cost t * p by ac_rfl, show u * (cost s * q) = u * cost s * q by ac_rfl, show cr * q * p = cr * p * q by ac_rfl, Int.mul_comm p Y, Int.mul_comm q Z]
  omega
theorem sumN_add {f g : Nat → Int} : ∀ n : Nat, sumN (fun j => f j + g j) n = sumN f n + sumN g n
  | 0 => rfl
  | n + 1 => by
    show sumN _ n + (f n + g n) = (sumN f n + f n) + (sumN g n + g n)
    rw [sumN_add n]; omega
theorem sumN_comm {f : Nat → Nat → Int} {k : Nat} : ∀ n : Nat, sumN (fun i => sumN (fun j => f i j) k) n = sumN (fun j => sumN (fun i => f i j) n) k
  | 0 => by
    show (0 : Int) = sumN (fun j => 0) k
    rw [sumN_zero fun _ _ => rfl]
  | n + 1 => by
    show sumN (fun i => sumN (fun j => f i j) k) n + sumN (fun j => f n j) k = _
    rw [sumN_comm n, ← sumN_add]; rfl
/-- a column in one basis' numbers, the numbers read in another's -/
theorem Et_over {bs bz : Nat → Nat} (S : Spans n A bs) {k s : Nat} (hk : k < n) : Dt n A bs * Et n A bz k s = sumN (fun i => Et n A bs i s * Et n A bz k (bs i)) n := by
  unfold Et
  rw [← det_mul hk]
  have e : det n 0 (put k (fun c => Dt n A bs * A s c) (colsB A bz)) = det n 0 (put k (fun c => sumN (fun j => Et n A bs j s * A (bs j) c) n) (colsB A bz)) := by
    refine det_congrC fun q c hq _ hc => ?_
    unfold put
    split
    · exact S s c (by omega)
    · rfl
  rw [e, det_sum hk]
  rfl
/-- how two goal rows hang together -/
theorem Gt_over {bs bz : Nat → Nat} (S : Spans n A bs) {s : Nat} : Dt n A bs * Gt n A cost bz s - sumN (fun i => Et n A bs i s * Gt n A cost bz (bs i)) n = Dt n A bz * Gt n A cost bs s := by
  have e1 : sumN (fun i => Et n A bs i s * Gt n A cost bz (bs i)) n = Dt n A bz * sumN (fun i => cost (bs i) * Et n A bs i s) n + (-1) * sumN (fun k => cost (bz k) * (Dt n A bs * Et n A bz k s)) n := by
    have e2 : sumN (fun k => cost (bz k) * (Dt n A bs * Et n A bz k s)) n = sumN (fun i => Et n A bs i s * sumN (fun k => cost (bz k) * Et n A bz k (bs i)) n) n := by
      have : sumN (fun k => cost (bz k) * (Dt n A bs * Et n A bz k s)) n = sumN (fun k => sumN (fun i => cost (bz k) * (Et n A bs i s * Et n A bz k (bs i))) n) n := sumN_congr fun k hk => by
        try dsimp only
        rw [Et_over S hk, sumN_mul]
      rw [this, sumN_comm]
      refine sumN_congr fun i hi => ?_
      try dsimp only
      rw [← sumN_mul]
      exact sumN_congr fun k _ => Int.mul_left_comm _ _ _
    rw [e2, ← sumN_lin]
    refine sumN_congr fun i hi => ?_
    unfold Gt
    try dsimp only
    rw [Int.mul_sub, Int.mul_left_comm, Int.mul_comm (Et n A bs i s) (cost _)]
    omega
  have e3 : sumN (fun k => cost (bz k) * (Dt n A bs * Et n A bz k s)) n = Dt n A bs * sumN (fun k => cost (bz k) * Et n A bz k s) n := by
    rw [← sumN_mul]
    exact sumN_congr fun k _ => Int.mul_left_comm _ _ _
  rw [e1, e3]
  unfold Gt
  rw [Int.mul_sub, Int.mul_sub, Int.mul_left_comm]
  omega
theorem Good.inj {bs : Nat → Nat} (G : Good n N A bs) {i j : Nat} (hi : i < n) (hj : j < n) (e : bs i = bs j) : i = j := by
  by_cases c : i = j
  · exact c
  · have z : Dt n A bs = 0 := det_eq hi hj c (by unfold colsB; rw [e])
    have := G.u0
    omega
theorem Piv.next {bs : Nat → Nat} {r s : Nat} (G : Good n N A bs) (H : Piv n N m A cost bs r s) (mN : m ≤ N) : Good n N A (setB bs r s) := by
  have u0 := G.u0
  refine ⟨G.sp.next H.rn (by omega), by rw [Dt_set]; exact H.pos, fun i hi => ?_, fun i hi => ?_⟩
  · by_cases c : i = r
    · subst c; rw [Et_same]; exact G.b0 i hi
    · have e := exchange G.sp (s := s) (t := N) H.rn hi c
      have k : 0 ≤ Dt n A bs * Et n A (setB bs r s) i N := by
        rw [e]
        by_cases p : 0 < Et n A bs i s
        · have := (H.rat i hi p).1
          rw [Int.mul_comm (Et n A bs i s)]; omega
        · have a1 := Int.mul_nonneg (G.b0 i hi) (Int.le_of_lt H.pos)
          have a2 := Int.mul_nonneg (a := - Et n A bs i s) (by omega) (G.b0 r H.rn)
          rw [Int.neg_mul] at a2
          omega
      exact Int.le_of_mul_le_mul_left (a := Dt n A bs) (by rw [Int.mul_zero]; exact k) u0
  · unfold setB
    split
    · have := H.sm; omega
    · exact G.lt i hi
/-- no basis comes again -/
theorem bland_no {hist : Nat → Nat → Nat} {rr ss : Nat → Nat} {a b : Nat} (ab : a < b) (mN : m ≤ N) (G : ∀ k, a ≤ k → k ≤ b → Good n N A (hist k)) (H : ∀ k, a ≤ k → k < b → Piv n N m A cost (hist k) (rr k) (ss k)) (nx : ∀ k, a ≤ k → k < b → hist (k + 1) = setB (hist k) (rr k) (ss k)) (again : hist a = hist b) : False := by
  -- the goal never falls
  have up : ∀ k, a ≤ k → k < b → Gt n A cost (hist k) N * Dt n A (hist (k + 1)) ≤ Gt n A cost (hist (k + 1)) N * Dt n A (hist k) ∧ (Gt n A cost (hist k) N * Dt n A (hist (k + 1)) = Gt n A cost (hist (k + 1)) N * Dt n A (hist k) → Et n A (hist k) (rr k) N = 0) := fun k h1 h2 => by
    have P := H k h1 h2
    have GG := G k h1 (by omega)
    have e := Gt_next (cost := cost) GG.sp (r := rr k) (s := ss k) (t := N) P.rn
    rw [← nx k h1 h2] at e
    rw [nx k h1 h2, Dt_set, ← nx k h1 h2, Int.mul_comm (Gt n A cost (hist (k + 1)) N), e]
    have b0 := GG.b0 _ P.rn
    have ng := P.neg
    have a1 := Int.mul_nonneg (a := - Gt n A cost (hist k) (ss k)) (by omega) b0
    rw [Int.neg_mul] at a1
    refine ⟨by omega, fun z => ?_⟩
    have z2 : Gt n A cost (hist k) (ss k) * Et n A (hist k) (rr k) N = 0 := by omega
    rcases Int.mul_eq_zero.mp z2 with z3 | z3
    · omega
    · exact z3
  have tr : ∀ {x y z : Int} {p q r : Int}, 0 < q → 0 < p → 0 < r → x * q ≤ y * p → y * r ≤ z * q → x * r ≤ z * p := fun {x y z p q r} hq hp hr h1 h2 => by
    have k1 := Int.mul_le_mul_of_nonneg_right h1 (Int.le_of_lt hr)
    have k2 := Int.mul_le_mul_of_nonneg_right h2 (Int.le_of_lt hp)
    refine Int.le_of_mul_le_mul_left (a := q) ?_ hq
    rw [show q * (x * r) = x * q * r by ac_rfl, show q * (z * p) = z * q * p by ac_rfl]
    rw [show y * p * r = y * r * p by ac_rfl] at k1
    omega
  have mono : ∀ d k, a ≤ k → k + d ≤ b → Gt n A cost (hist k) N * Dt n A (hist (k + d)) ≤ Gt n A cost (hist (k + d)) N * Dt n A (hist k) := fun d => by
    induction d with
    | zero => intro k _ _; exact Int.le_refl _
    | succ d ih =>
      intro k h1 h2
      exact tr (G (k + d) (by omega) (by omega)).u0 (G k h1 (by omega)).u0 (G (k + (d + 1)) (by omega) (by omega)).u0 (ih k h1 (by omega)) (up (k + d) (by omega) (by omega)).1
  have still : ∀ k, a ≤ k → k < b → Et n A (hist k) (rr k) N = 0 := fun k h1 h2 => by
    refine (up k h1 h2).2 (Int.le_antisymm (up k h1 h2).1 ?_)
    have m1 := mono (b - (k + 1)) (k + 1) (by omega) (by omega)
    rw [show k + 1 + (b - (k + 1)) = b by omega, ← again] at m1
    have m2 := mono (k - a) a (Nat.le_refl _) (by omega)
    rw [show a + (k - a) = k by omega] at m2
    exact tr (G a (Nat.le_refl _) (by omega)).u0 (G (k + 1) (by omega) (by omega)).u0 (G k h1 (by omega)).u0 m1 m2
  -- the values stay
  have val : ∀ k q, a ≤ k → k < b → ((∀ i, i < n → hist k i = q → Et n A (hist k) i N = 0) ↔ (∀ i, i < n → hist (k + 1) i = q → Et n A (hist (k + 1)) i N = 0)) := fun k q h1 h2 => by
    have P := H k h1 h2
    have GG := G k h1 (by omega)
    have z := still k h1 h2
    have ne : ∀ i, i < n → i ≠ rr k → (Et n A (hist k) i N = 0 ↔ Et n A (hist (k + 1)) i N = 0) := fun i hi c => by
      have e := exchange GG.sp (s := ss k) (t := N) P.rn hi c
      rw [z, Int.mul_zero, Int.sub_zero, ← nx k h1 h2] at e
      have u0 := GG.u0
      have p0 := P.pos
      constructor
      · intro h
        rw [h, Int.zero_mul] at e
        rcases Int.mul_eq_zero.mp e with z3 | z3
        · omega
        · exact z3
      · intro h
        rw [h, Int.mul_zero] at e
        rcases Int.mul_eq_zero.mp e.symm with z3 | z3
        · exact z3
        · omega
    constructor
    · intro h i hi hq
      by_cases c : i = rr k
      · rw [nx k h1 h2, c, Et_same]; exact z
      · refine (ne i hi c).mp (h i hi ?_)
        rw [← hq, nx k h1 h2]; exact (if_neg c).symm
    · intro h i hi hq
      by_cases c : i = rr k
      · rw [c]; exact z
      · refine (ne i hi c).mpr (h i hi ?_)
        rw [← hq, nx k h1 h2]; exact if_neg c
  have valA : ∀ d q, a + d ≤ b → ((∀ i, i < n → hist a i = q → Et n A (hist a) i N = 0) ↔ (∀ i, i < n → hist (a + d) i = q → Et n A (hist (a + d)) i N = 0)) := fun d q => by
    induction d with
    | zero => intro _; exact Iff.rfl
    | succ d ih => intro h; exact (ih (by omega)).trans (val (a + d) q (by omega) (by omega))
  have zero : ∀ k l q, a ≤ k → k ≤ b → a ≤ l → l ≤ b → (∀ i, i < n → hist l i ≠ q) → ∀ i, i < n → hist k i = q → Et n A (hist k) i N = 0 := fun k l q k1 k2 l1 l2 no => by
    have e1 := valA (k - a) q (by omega)
    have e2 := valA (l - a) q (by omega)
    rw [show a + (k - a) = k by omega] at e1
    rw [show a + (l - a) = l by omega] at e2
    exact e1.mp (e2.mpr fun i hi h => absurd h (no i hi))
  -- the last column that comes
  have big : ∀ d, a + d + 1 ≤ b → ∃ k, a ≤ k ∧ k < a + d + 1 ∧ ∀ l, a ≤ l → l < a + d + 1 → ss l ≤ ss k := fun d => by
    induction d with
    | zero => intro h; exact ⟨a, Nat.le_refl _, by omega, fun l h1 h2 => by rw [show l = a by omega]; exact Nat.le_refl _⟩
    | succ d ih =>
      intro h
      obtain ⟨k, k1, k2, k3⟩ := ih (by omega)
      by_cases c : ss k ≤ ss (a + d + 1)
      · refine ⟨a + d + 1, by omega, by omega, fun l h1 h2 => ?_⟩
        by_cases e : l = a + d + 1
        · rw [e]; exact Nat.le_refl _
        · exact Nat.le_trans (k3 l h1 (by omega)) c
      · refine ⟨k, k1, by omega, fun l h1 h2 => ?_⟩
        by_cases e : l = a + d + 1
        · rw [e]; omega
        · exact k3 l h1 (by omega)
  obtain ⟨kz, kz1, kz2, kz3⟩ := big (b - a - 1) (by omega)
  rw [show a + (b - a - 1) + 1 = b by omega] at kz2 kz3
  have PZ := H kz kz1 kz2
  have GZ := G kz kz1 (by omega)
  -- what goes in and out
  have turn : ∀ (In : Nat → Prop), (In a ↔ In b) → ∀ k l, a ≤ k → k ≤ b → a ≤ l → l ≤ b → (∀ j, a ≤ j → j < b → In j → In (j + 1)) → In k → In l := fun In ab2 k l k1 k2 l1 l2 st ik => by
    have go : ∀ d j, a ≤ j → j + d ≤ b → In j → In (j + d) := fun d => by
      induction d with
      | zero => intro j _ _ h; exact h
      | succ d ih => intro j h1 h2 h; exact st (j + d) (by omega) (by omega) (ih j h1 (by omega) h)
    have ib := go (b - k) k k1 (by omega) ik
    rw [show k + (b - k) = b by omega] at ib
    have := go (l - a) a (Nat.le_refl _) (by omega) (ab2.mpr ib)
    rwa [show a + (l - a) = l by omega] at this
  have outZ : ∀ q, Gt n A cost (hist kz) q ≠ 0 → ∀ i, i < n → hist kz i ≠ q := fun q hq i hi e => hq (by rw [← e]; exact Gt_self hi)
  have noT : ∀ i, i < n → hist kz i ≠ ss kz := outZ _ (by have := PZ.neg; omega)
  have inT : ∃ i, i < n ∧ hist (kz + 1) i = ss kz := ⟨rr kz, PZ.rn, by rw [nx kz kz1 kz2]; exact if_pos rfl⟩
  -- a time at which it goes
  obtain ⟨kq, q1, q2, i0, hi0, ei0, nq⟩ : ∃ k, a ≤ k ∧ k < b ∧ ∃ i, i < n ∧ hist k i = ss kz ∧ ∀ i, i < n → hist (k + 1) i ≠ ss kz := by
    refine Classical.byContradiction fun hno => ?_
    obtain ⟨i, hi, he⟩ := turn (fun k => ∃ i, i < n ∧ hist k i = ss kz) (by rw [again]) (kz + 1) kz (by omega) (by omega) kz1 (by omega) (fun j j1 j2 ⟨i, hi, he⟩ => Classical.byContradiction fun hn => hno ⟨j, j1, j2, i, hi, he, fun i2 hi2 he2 => hn ⟨i2, hi2, he2⟩⟩) inT
    exact noT i hi he
  have PQ := H kq q1 q2
  have GQ := G kq q1 (by omega)
  have er : i0 = rr kq := Classical.byContradiction fun c => nq i0 hi0 (by rw [nx kq q1 q2, ← ei0]; exact if_neg c)
  rw [er] at ei0
  have sle := kz3 kq q1 q2
  have sne : ss kq ≠ ss kz := fun e => by
    have := PQ.neg
    rw [e, ← ei0, Gt_self PQ.rn] at this
    omega
  have gs := PZ.fst (ss kq) (by omega)
  have ov := Gt_over (cost := cost) (bz := hist kz) GQ.sp (s := ss kq)
  have neg := Int.mul_neg_of_pos_of_neg GZ.u0 PQ.neg
  have p1 := Int.mul_nonneg (Int.le_of_lt GQ.u0) gs
  have some : ∀ (f : Nat → Int) (n : Nat), 0 < sumN f n → ∃ i, i < n ∧ 0 < f i := fun f n => by
    induction n with
    | zero => intro h; exact absurd h (Int.lt_irrefl _)
    | succ n ih =>
      intro h
      by_cases c : 0 < f n
      · exact ⟨n, by omega, c⟩
      · obtain ⟨i, hi, h2⟩ := ih (by have : 0 < sumN f n + f n := h; omega)
        exact ⟨i, by omega, h2⟩
  obtain ⟨i, hi, hpos⟩ := some _ n (show 0 < sumN (fun i => Et n A (hist kq) i (ss kq) * Gt n A cost (hist kz) (hist kq i)) n by omega)
  try dsimp only at hpos
  have gne : Gt n A cost (hist kz) (hist kq i) ≠ 0 := fun e => by rw [e, Int.mul_zero] at hpos; omega
  have outq := outZ _ gne
  -- it comes
  have comes : ∃ k, a ≤ k ∧ k < b ∧ ss k = hist kq i := by
    refine Classical.byContradiction fun hno => ?_
    refine turn (fun k => ∀ i2, i2 < n → hist k i2 ≠ hist kq i) (by rw [again]) kz kq kz1 (by omega) q1 (by omega) (fun j j1 j2 hj i2 hi2 he => ?_) outq i hi rfl
    rw [nx j j1 j2] at he
    unfold setB at he
    split at he
    · exact hno ⟨j, j1, j2, he⟩
    · exact hj i2 hi2 he
  obtain ⟨kc, c1, c2, c3⟩ := comes
  have qle := kz3 kc c1 c2
  rw [c3] at qle
  have qne : hist kq i ≠ ss kz := fun e => by
    have ii := GQ.inj hi PQ.rn (e.trans ei0.symm)
    rw [e, ii] at hpos
    have := Int.mul_neg_of_pos_of_neg PQ.pos PZ.neg
    omega
  have gq := PZ.fst (hist kq i) (by omega)
  have epos : 0 < Et n A (hist kq) i (ss kq) := Classical.byContradiction fun c => by
    have := Int.mul_nonneg (a := - Et n A (hist kq) i (ss kq)) (by omega) gq
    rw [Int.neg_mul] at this
    omega
  have bz := zero kq kz (hist kq i) q1 (by omega) kz1 (by omega) outq i hi rfl
  have br := still kq q1 q2
  have := (PQ.rat i hi epos).2 (by rw [br, bz, Int.zero_mul, Int.zero_mul])
  rw [ei0] at this
  omega
end
/-! ### the board's rows are a basis' numbers; the leaving row (plain law) -/
theorem ratio_tr {x y z p q r : Int} (hq : 0 < q) (hp : 0 < p) (hr : 0 < r) (h1 : x * q ≤ y * p) (h2 : y * r ≤ z * q) : x * r ≤ z * p := by
  have k1 := Int.mul_le_mul_of_nonneg_right h1 (Int.le_of_lt hr)
  have k2 := Int.mul_le_mul_of_nonneg_right h2 (Int.le_of_lt hp)
  refine Int.le_of_mul_le_mul_left (a := q) ?_ hq
  rw [show q * (x * r) = x * q * r by ac_rfl, show q * (z * p) = z * q * p by ac_rfl]
  rw [show y * p * r = y * r * p by ac_rfl] at k1
  omega
/-- what the leaving row has over all rows -/
structure LeaveOk (e b : Nat → Int) (st : Nat → Int) (k : Nat) (r : Nat) : Prop where
  rk : r < k
  pos : 0 < e r
  rat : ∀ i, i < k → 0 < e i → b r * e i ≤ b i * e r ∧ (b r * e i = b i * e r → st r ≤ st i)
theorem leaveF_ok {rows : List (List Int)} {st : List Int} {s N : Nat} (hl : ∀ i, i < rows.length → (rows.getD i []).length = N + 1) : ∀ k, k ≤ rows.length → (leaveF rows st s k = none ∧ ∀ i, i < k → (rows.getD i []).getD s 0 ≤ 0) ∨ ∃ r, leaveF rows st s k = some r ∧ LeaveOk (fun i => (rows.getD i []).getD s 0) (fun i => (rows.getD i []).getD N 0) (fun i => st.getD i 0) k r
  | 0, _ => .inl ⟨rfl, fun i hi => absurd hi (Nat.not_lt_zero _)⟩
  | k + 1, hk => by
    rw [leaveF_succ]
    have lk : (rows.getD k []).length - 1 = N := by rw [hl k hk]; rfl
    rcases leaveF_ok hl k (by omega) with ⟨e1, h1⟩ | ⟨r, e1, h1⟩
    · rw [e1]
      unfold leaveS
      by_cases c : 0 < (rows.getD k []).getD s 0
      · rw [if_pos c]
        refine .inr ⟨k, rfl, by omega, c, fun i hi hp => ?_⟩
        have hik : i = k := by
          by_cases c2 : i = k
          · exact c2
          · have := h1 i (by omega)
            omega
        subst hik
        exact ⟨Int.le_refl _, fun _ => Int.le_refl _⟩
      · rw [if_neg c]
        refine .inl ⟨rfl, fun i hi => ?_⟩
        by_cases c2 : i = k
        · subst c2; omega
        · exact h1 i (by omega)
    · rw [e1]
      right
      have lr : (rows.getD r []).length - 1 = N := by rw [hl r (by have := h1.rk; omega)]; rfl
      have p1 := h1.pos
      have rk := h1.rk
      have rt := h1.rat
      unfold leaveS
      rw [lk]
      try dsimp only
      rw [lr]
      try dsimp only at p1 rt
      by_cases c : 0 < (rows.getD k []).getD s 0
      · rw [if_pos c]
        by_cases c2 : (rows.getD k []).getD N 0 * (rows.getD r []).getD s 0 < (rows.getD r []).getD N 0 * (rows.getD k []).getD s 0 ∨ ((rows.getD k []).getD N 0 * (rows.getD r []).getD s 0 = (rows.getD r []).getD N 0 * (rows.getD k []).getD s 0 ∧ st.getD k 0 < st.getD r 0)
        · rw [if_pos c2]
          refine ⟨k, rfl, by omega, c, fun i hi hp => ?_⟩
          by_cases e : i = k
          · subst e; exact ⟨Int.le_refl _, fun _ => Int.le_refl _⟩
          · have ri := rt i (by omega) hp
            have kr : (rows.getD k []).getD N 0 * (rows.getD r []).getD s 0 ≤ (rows.getD r []).getD N 0 * (rows.getD k []).getD s 0 := by omega
            refine ⟨ratio_tr p1 c hp kr ri.1, fun eq => ?_⟩
            have back : (rows.getD r []).getD N 0 * (rows.getD k []).getD s 0 ≤ (rows.getD k []).getD N 0 * (rows.getD r []).getD s 0 := ratio_tr hp p1 c ri.1 (Int.le_of_eq eq.symm)
            have ir : (rows.getD i []).getD N 0 * (rows.getD r []).getD s 0 ≤ (rows.getD r []).getD N 0 * (rows.getD i []).getD s 0 := ratio_tr c hp p1 (Int.le_of_eq eq.symm) kr
            have := ri.2 (by omega)
            omega
        · rw [if_neg c2]
          refine ⟨r, rfl, by omega, p1, fun i hi hp => ?_⟩
          by_cases e : i = k
          · subst e
            refine ⟨by omega, fun eq => ?_⟩
            omega
          · exact rt i (by omega) hp
      · rw [if_neg c]
        refine ⟨r, rfl, by omega, p1, fun i hi hp => ?_⟩
        by_cases e : i = k
        · subst e; exact absurd hp c
        · exact rt i (by omega) hp
/-- a board in the numbers of a basis -/
structure Rep (n N : Nat) (A : Nat → Vec) (cost : Nat → Int) (bs : Nat → Nat) (B : BoS) : Prop where
  rl : B.rows.length = n
  wl : ∀ i, i < n → (B.rows.getD i []).length = N + 1
  e : ∀ i t, i < n → t ≤ N → (B.rows.getD i []).getD t 0 = Et n A bs i t
  sl : B.st.length = n
  st : ∀ i, i < n → B.st.getD i 0 = (bs i : Int)
  gl : B.goal.length = N + 1
  g : ∀ t, t ≤ N → B.goal.getD t 0 = Gt n A cost bs t
  u : B.u = Dt n A bs
theorem turnR_len {u lead b : Int} {row lr : List Int} (h : row.length = lr.length) : (turnR u lead b row lr).length = row.length := by
  unfold turnR
  rw [List.length_zipWith, ← h, Nat.min_self]
theorem turnR_at {u lead b : Int} {row lr : List Int} {t : Nat} (h1 : t < row.length) (h2 : t < lr.length) : (turnR u lead b row lr).getD t 0 = (row.getD t 0 * lead - b * lr.getD t 0) / u := by
  unfold turnR
  rw [List.getD_eq_getElem?_getD, List.getElem?_zipWith, List.getElem?_eq_getElem h1, List.getElem?_eq_getElem h2, List.getD_eq_getElem?_getD, List.getD_eq_getElem?_getD, List.getElem?_eq_getElem h1, List.getElem?_eq_getElem h2]
  rfl
theorem turnRows_at {u : Int} {r s i : Nat} {rows : List (List Int)} (hi : i < rows.length) : (turnRows u r s rows).getD i [] = if i = r then rows.getD r [] else turnR u ((rows.getD r []).getD s 0) ((rows.getD i []).getD s 0) (rows.getD i []) (rows.getD r []) := by
  unfold turnRows
  rw [List.getD_eq_getElem?_getD, List.getElem?_map, List.getElem?_range hi]
  rfl
theorem Rep.turn {n N : Nat} {A : Nat → Vec} {cost : Nat → Int} {bs : Nat → Nat} {B : BoS} (R : Rep n N A cost bs B) (S : Spans n A bs) (u0 : Dt n A bs ≠ 0) {r s : Nat} (hr : r < n) (hs : s ≤ N) : Rep n N A cost (setB bs r s) (B.turn r s) := by
  have lr := R.wl r hr
  refine ⟨?_, fun i hi => ?_, fun i t hi ht => ?_, ?_, fun i hi => ?_, ?_, fun t ht => ?_, ?_⟩
  · show (turnRows _ _ _ _).length = n
    unfold turnRows
    rw [List.length_map, List.length_range, R.rl]
  · show ((turnRows _ _ _ _).getD i []).length = N + 1
    rw [turnRows_at (by rw [R.rl]; exact hi)]
    split
    · exact lr
    · rw [turnR_len (by rw [R.wl i hi, lr]), R.wl i hi]
  · show ((turnRows _ _ _ _).getD i []).getD t 0 = _
    rw [turnRows_at (by rw [R.rl]; exact hi)]
    by_cases c : i = r
    · subst c
      rw [if_pos rfl, R.e i t hi ht, Et_same]
    · rw [if_neg c, turnR_at (by rw [R.wl i hi]; omega) (by rw [lr]; omega), R.e r s hr hs, R.e i s hi hs, R.e i t hi ht, R.e r t hr ht, R.u, ← exchange S hr hi c, Int.mul_ediv_cancel_left _ u0]
  · show (B.st.set r _).length = n
    rw [List.length_set, R.sl]
  · show (B.st.set r (s : Int)).getD i 0 = _
    rw [List.getD_eq_getElem?_getD, List.getElem?_set]
    unfold setB
    by_cases c : i = r
    · subst c
      rw [if_pos rfl, if_pos (by rw [R.sl]; exact hi), if_pos rfl]; rfl
    · rw [if_neg (fun e => c e.symm), if_neg c, ← List.getD_eq_getElem?_getD, R.st i hi]
  · show (turnR _ _ _ _ _).length = N + 1
    rw [turnR_len (by rw [R.gl, lr]), R.gl]
  · show (turnR _ _ _ _ _).getD t 0 = _
    rw [turnR_at (by rw [R.gl]; omega) (by rw [lr]; omega), R.e r s hr hs, R.e r t hr ht, R.g t ht, R.g s hs, R.u, ← Gt_next S hr, Int.mul_ediv_cancel_left _ u0]
  · show (B.rows.getD r []).getD s 0 = _
    rw [R.e r s hr hs, Dt_set]
/-- no more than so many different numbers -/
theorem few : ∀ (M L : Nat) (f : Nat → Nat), (∀ i, i < L → f i < M) → (∀ i j, i < j → j < L → f i ≠ f j) → L ≤ M
  | 0, L, f, h, _ => by
    by_cases c : L = 0
    · omega
    · exact absurd (h 0 (by omega)) (Nat.not_lt_zero _)
  | M + 1, L, f, h, ne => by
    by_cases c : ∃ i, i < L ∧ f i = M
    · obtain ⟨i, hi, e⟩ := c
      have := few M (L - 1) (fun j => if j < i then f j else f (j + 1)) (fun j hj => by
        have hM : ∀ j, j < L → j ≠ i → f j < M := fun j hj hji => by
          have := h j hj
          have hne : f j ≠ f i := by
            rcases Nat.lt_or_gt_of_ne hji with l | l
            · exact ne j i l hi
            · exact fun e => ne i j l hj e.symm
          omega
        try dsimp only
        split
        · exact hM j (by omega) (by omega)
        · exact hM (j + 1) (by omega) (by omega)) (fun a b ab hb => by
        try dsimp only
        split
        · split
          · exact ne a b ab (by omega)
          · exact ne a (b + 1) (by omega) (by omega)
        · rw [if_neg (by omega)]
          exact ne (a + 1) (b + 1) (by omega) (by omega))
      omega
    · have := few M L f (fun i hi => by
        have := h i hi
        have : f i ≠ M := fun e => c ⟨i, hi, e⟩
        omega) ne
      omega
/-- a number for each choice of columns -/
def codeB (N : Nat) (bs : Nat → Nat) : Nat → Nat
  | 0 => 0
  | n + 1 => codeB N bs n * N + bs n
theorem codeB_lt {N : Nat} {bs : Nat → Nat} : ∀ {n : Nat}, (∀ i, i < n → bs i < N) → codeB N bs n < N ^ n
  | 0, _ => by simp [codeB]
  | n + 1, h => by
    have h1 := codeB_lt (n := n) fun i hi => h i (by omega)
    have h2 := h n (by omega)
    show codeB N bs n * N + bs n < N ^ (n + 1)
    have h3 : (codeB N bs n + 1) * N ≤ N ^ n * N := Nat.mul_le_mul_right N h1
    rw [Nat.pow_succ]
    rw [Nat.add_mul] at h3
    omega
theorem codeB_inj {N : Nat} {bs bz : Nat → Nat} : ∀ {n : Nat}, (∀ i, i < n → bs i < N) → (∀ i, i < n → bz i < N) → codeB N bs n = codeB N bz n → ∀ i, i < n → bs i = bz i
  | n + 1, h1, h2, e, i, hi => by
    have a1 := h1 n (by omega)
    have a2 := h2 n (by omega)
    have e' : codeB N bs n * N + bs n = codeB N bz n * N + bz n := e
    have m1 : (codeB N bs n * N + bs n) % N = bs n := by rw [Nat.mul_comm, Nat.mul_add_mod, Nat.mod_eq_of_lt a1]
    have m2 : (codeB N bz n * N + bz n) % N = bz n := by rw [Nat.mul_comm, Nat.mul_add_mod, Nat.mod_eq_of_lt a2]
    have en : bs n = bz n := by rw [← m1, ← m2, e']
    have ec : codeB N bs n = codeB N bz n := by
      have : codeB N bs n * N = codeB N bz n * N := by omega
      exact Nat.eq_of_mul_eq_mul_right (by omega) this
    by_cases c : i = n
    · rw [c]; exact en
    · exact codeB_inj (n := n) (fun i hi => h1 i (by omega)) (fun i hi => h2 i (by omega)) ec i (by omega)
/-! ### a board led down (plain law) -/
structure SzB (n N : Nat) (A : Nat → Vec) (cost : Nat → Int) : Prop where
  n1 : n ≤ 1000
  N1 : N + 1 ≤ 1000
  d : ∀ bs : Nat → Nat, (∀ i, i < n → bs i ≤ N) → IB 3000 (Dt n A bs)
  g : ∀ bs : Nat → Nat, (∀ i, i < n → bs i ≤ N) → ∀ t, t ≤ N → IB 3000 (Gt n A cost bs t)
def InvB (n N m : Nat) (A : Nat → Vec) (cost : Nat → Int) (k : Nat) (B : BoS) : Prop := ∃ (L : Nat) (hist : Nat → Nat → Nat) (rr ss : Nat → Nat), k = N ^ n - L ∧ (∀ i, i ≤ L → Good n N A (hist i)) ∧ (∀ i, i < L → Piv n N m A cost (hist i) (rr i) (ss i) ∧ hist (i + 1) = setB (hist i) (rr i) (ss i)) ∧ (∀ j i, j ≤ L → n ≤ i → hist j i = 0) ∧ Rep n N A cost (hist L) B
theorem enterF_some {goal : List Int} {m s : Nat} (h : enterF goal m = some s) : s < m ∧ goal.getD s 0 < 0 ∧ ∀ j, j < s → 0 ≤ goal.getD j 0 := by
  have h0 : (List.range m).find? (fun s => decide (goal.getD s 0 < 0)) = some s := h
  rw [List.find?_range_eq_some] at h0
  obtain ⟨h1, h2, h3⟩ := h0
  refine ⟨List.mem_range.mp h2, of_decide_eq_true h1, fun j hj => ?_⟩
  have := h3 j hj
  simp only [Bool.not_eq_true', decide_eq_false_iff_not] at this
  omega
theorem enterF_none {goal : List Int} {m : Nat} (h : enterF goal m = none) : ∀ j, j < m → 0 ≤ goal.getD j 0 := fun j hj => by
  have := List.find?_eq_none.mp h j (List.mem_range.mpr hj)
  simp only [decide_eq_true_eq] at this
  omega
theorem mem_getD {z : Int} {r : List Int} (h : z ∈ r) : ∃ j, j < r.length ∧ z = r.getD j 0 := by
  obtain ⟨j, hj, e⟩ := List.mem_iff_getElem.mp h
  exact ⟨j, hj, by rw [List.getD_eq_getElem?_getD, List.getElem?_eq_getElem hj, ← e]; rfl⟩
section
variable {n N m : Nat} {A : Nat → Vec} {cost : Nat → Int}
theorem Et_set {bs : Nat → Nat} {i t : Nat} : Et n A bs i t = Dt n A (setB bs i t) := Dt_set.symm
theorem Rep.ok {bs : Nat → Nat} {B : BoS} (R : Rep n N A cost bs B) (Z : SzB n N A cost) (G : Good n N A bs) : B.Ok (N + 1) := by
  have le : ∀ i, i < n → bs i ≤ N := fun i hi => Nat.le_of_lt (G.lt i hi)
  refine ⟨⟨by rw [R.rl]; exact Z.n1, Z.N1, fun r hr => ?_⟩, by rw [R.sl, R.rl], R.gl, fun z hz => ?_, by rw [R.u]; exact G.u0, by rw [R.u]; exact Z.d bs le⟩
  · obtain ⟨i, hi, e⟩ := List.mem_iff_getElem.mp hr
    have hin : i < n := by rw [← R.rl]; exact hi
    have e2 : r = B.rows.getD i [] := by rw [List.getD_eq_getElem?_getD, List.getElem?_eq_getElem hi, ← e]; rfl
    rw [e2]
    refine ⟨R.wl i hin, fun z hz => ?_⟩
    obtain ⟨t, ht, ez⟩ := mem_getD hz
    rw [R.wl i hin] at ht
    rw [ez, R.e i t hin (by omega), Et_set]
    refine Z.d _ fun j hj => ?_
    unfold setB
    split
    · omega
    · exact le j hj
  · obtain ⟨t, ht, ez⟩ := mem_getD hz
    rw [R.gl] at ht
    rw [ez, R.g t (by omega)]
    exact Z.g bs le t (by omega)
theorem Piv.of {bs : Nat → Nat} {B : BoS} (R : Rep n N A cost bs B) (mN : m ≤ N) {r s : Nat} (he : enterF B.goal m = some s) (L : LeaveOk (fun i => (B.rows.getD i []).getD s 0) (fun i => (B.rows.getD i []).getD N 0) (fun i => B.st.getD i 0) n r) : Piv n N m A cost bs r s := by
  obtain ⟨h1, h2, h3⟩ := enterF_some he
  have hr := L.rk
  have p := L.pos
  have rt := L.rat
  try dsimp only at p rt
  rw [R.e r s hr (by omega)] at p
  refine ⟨h1, by rw [← R.g s (by omega)]; exact h2, fun j hj => by rw [← R.g j (by omega)]; exact h3 j hj, hr, p, fun i hi hp => ?_⟩
  have := rt i hi (by rw [R.e i s hi (by omega)]; exact hp)
  rw [R.e i s hi (by omega), R.e r s hr (by omega), R.e r N hr (Nat.le_refl _), R.e i N hi (Nat.le_refl _), R.st r hr, R.st i hi] at this
  exact ⟨this.1, fun e => by have := this.2 e; omega⟩
theorem led_ex (Z : SzB n N A cost) (mN : m ≤ N) (ex : ∀ bs s, Good n N A bs → s < m → Gt n A cost bs s < 0 → ∃ i, i < n ∧ 0 < Et n A bs i s) : LedI m (N + 1) (InvB n N m A cost) := by
  refine ⟨fun k B ⟨L, hist, rr, ss, ek, G, H, out, R⟩ => R.ok Z (G L (Nat.le_refl _)), fun k B s ⟨L, hist, rr, ss, ek, G, H, out, R⟩ he => ?_⟩
  have GL := G L (Nat.le_refl _)
  have es := enterF_some he
  rcases leaveF_ok (s := s) (st := B.st) (N := N) (fun i hi => R.wl i (by rw [← R.rl]; exact hi)) B.rows.length (Nat.le_refl _) with ⟨_, no⟩ | ⟨r, el, lv⟩
  · have ng := es.2.1
    rw [R.g s (by omega)] at ng
    obtain ⟨i, hi, hp⟩ := ex (hist L) s GL es.1 ng
    have := no i (by rw [R.rl]; exact hi)
    rw [R.e i s hi (by omega)] at this
    omega
  · have hr := lv.rk
    rw [R.rl] at lv hr
    have PV := Piv.of R mN he lv
    have GN := PV.next GL mN
    have u0 := GL.u0
    have RN := R.turn GL.sp (by omega) hr (show s ≤ N by omega)
    have len : L + 1 ≤ N ^ n := by
      refine few _ _ (fun i => codeB N (hist i) n) (fun i hi => codeB_lt fun j hj => (G i (by omega)).lt j hj) fun a b ab hb e => ?_
      refine bland_no (m := m) (cost := cost) ab mN (fun k _ h => G k (by omega)) (fun k _ h => (H k (by omega)).1) (fun k _ h => (H k (by omega)).2) ?_
      funext i
      by_cases c : i < n
      · exact codeB_inj (fun j hj => (G a (by omega)).lt j hj) (fun j hj => (G b (by omega)).lt j hj) e i c
      · rw [out a i (by omega) (by omega), out b i (by omega) (by omega)]
    refine ⟨r, el, by rw [R.rl]; exact hr, N ^ n - (L + 1), by omega, L + 1, fun i => if i ≤ L then hist i else setB (hist L) r s, fun i => if i < L then rr i else r, fun i => if i < L then ss i else s, rfl, fun i hi => ?_, fun i hi => ?_, fun j i hj hi => ?_, ?_⟩
    · try dsimp only
      split
      · exact G i (by omega)
      · exact GN
    · try dsimp only
      by_cases c : i < L
      · rw [if_pos (show i ≤ L by omega), if_pos c, if_pos c, if_pos (show i + 1 ≤ L by omega)]
        exact H i c
      · have : i = L := by omega
        subst this
        rw [if_pos (Nat.le_refl _), if_neg c, if_neg c, if_neg (by omega)]
        exact ⟨PV, rfl⟩
    · try dsimp only
      split
      · exact out j i (by omega) hi
      · unfold setB
        rw [if_neg (by omega)]
        exact out L i (Nat.le_refl _) hi
    · try dsimp only
      rw [if_neg (by omega)]
      exact RN
/-- what costs nothing below 0 falls by some row -/
theorem ex_cost (c0 : ∀ t, 0 ≤ cost t) {bs : Nat → Nat} {s : Nat} (G : Good n N A bs) (ng : Gt n A cost bs s < 0) : ∃ i, i < n ∧ 0 < Et n A bs i s := by
  refine Classical.byContradiction fun hno => ?_
  have : ∀ k, k ≤ n → sumN (fun i => cost (bs i) * Et n A bs i s) k ≤ 0 := fun k => by
    induction k with
    | zero => intro _; exact Int.le_refl _
    | succ k ih =>
      intro hk
      have h1 := ih (by omega)
      have h2 : Et n A bs k s ≤ 0 := Int.not_lt.mp fun h => hno ⟨k, by omega, h⟩
      have h3 := Int.mul_nonneg (c0 (bs k)) (b := - Et n A bs k s) (by omega)
      rw [Int.mul_neg] at h3
      show sumN _ k + cost (bs k) * Et n A bs k s ≤ 0
      omega
  have h1 := this n (Nat.le_refl _)
  have h2 := Int.mul_nonneg (Int.le_of_lt G.u0) (c0 s)
  unfold Gt at ng
  omega
end
/-! ### how great a determinant is; the board made (plain law) -/
theorem natAbs_sumN {f : Nat → Int} {b : Nat} : ∀ {n : Nat}, (∀ j, j < n → (f j).natAbs ≤ b) → (sumN f n).natAbs ≤ n * b
  | 0, _ => by simp [sumN]
  | n + 1, h => by
    have h1 := natAbs_sumN (n := n) fun j hj => h j (by omega)
    have h2 := h n (by omega)
    have h3 := Int.natAbs_add_le (sumN f n) (f n)
    show (sumN f n + f n).natAbs ≤ (n + 1) * b
    rw [Nat.add_mul]
    omega
theorem sg_abs (j : Nat) (x : Int) : (sg j * x).natAbs = x.natAbs := by
  unfold sg
  split
  · rw [Int.one_mul]
  · rw [Int.neg_mul, Int.one_mul, Int.natAbs_neg]
theorem det_abs {M : Nat} (M1 : 1 ≤ M) : ∀ {n k p : Nat} {v : Nat → Vec}, (∀ i c, i ≠ p → (v i c).natAbs ≤ 1) → (∀ c, (v p c).natAbs ≤ M) → (det n k v).natAbs ≤ n ^ n * M := by
  have one : ∀ {n k : Nat} {v : Nat → Vec}, (∀ i c, (v i c).natAbs ≤ 1) → (det n k v).natAbs ≤ n ^ n := fun {n} => by
    induction n with
    | zero => intro k v _; exact Nat.le_refl _
    | succ n ih =>
      intro k v h
      rw [det_succ]
      refine Nat.le_trans (natAbs_sumN (b := n ^ n) fun j hj => ?_) ?_
      · rw [Int.mul_assoc, sg_abs, Int.natAbs_mul]
        have h1 := ih (k := k + 1) (v := del j v) fun i c => by
          unfold del
          split <;> exact h _ c
        have h2 := Nat.mul_le_mul (h j k) h1
        omega
      · rw [Nat.pow_succ, Nat.mul_comm]
        exact Nat.mul_le_mul_right _ (Nat.pow_le_pow_left (by omega) n)
  intro n
  induction n with
  | zero => intro k p v _ _; show 1 ≤ _; simp; exact M1
  | succ n ih =>
    intro k p v h hM
    rw [det_succ]
    refine Nat.le_trans (natAbs_sumN (b := n ^ n * M) fun j hj => ?_) ?_
    · rw [Int.mul_assoc, sg_abs, Int.natAbs_mul]
      by_cases c : j = p
      · subst c
        have h1 := one (n := n) (k := k + 1) (v := del j v) fun i c => by
          unfold del
          split
          · exact h _ c (by omega)
          · exact h _ c (by omega)
        have h2 := Nat.mul_le_mul (hM k) h1
        rw [Nat.mul_comm (n ^ n)]; exact h2
      · have h1 := ih (k := k + 1) (p := if p < j then p else p - 1) (v := del j v) (fun i c2 hi => by
          unfold del
          split
          · refine h _ c2 ?_
            rename_i l
            split at hi
            · exact hi
            · omega
          · refine h _ c2 ?_
            rename_i l
            split at hi
            · omega
            · omega) (fun c2 => by
          unfold del
          by_cases l : p < j
          · rw [if_pos l, if_pos l]; exact hM c2
          · rw [if_neg l, if_neg (by omega), show p - 1 + 1 = p by omega]; exact hM c2)
        have h2 := Nat.mul_le_mul (h j k c) h1
        omega
    · rw [Nat.pow_succ, Nat.mul_comm ((n + 1) ^ n), Nat.mul_assoc, ← Nat.mul_assoc]
      rw [Nat.mul_assoc]
      exact Nat.mul_le_mul_left _ (Nat.mul_le_mul_right _ (Nat.pow_le_pow_left (by omega) n))
section
variable {n N m : Nat} {A : Nat → Vec} {cost : Nat → Int}
theorem SzB.of {M : Nat} (n30 : n ≤ 30) (N1 : N + 1 ≤ 1000) (M1 : 1 ≤ M) (hM : M < 2 ^ 2700) (a1 : ∀ t c, t < N → (A t c).natAbs ≤ 1) (aM : ∀ c, (A N c).natAbs ≤ M) (c1 : ∀ t, (cost t).natAbs ≤ 1) : SzB n N A cost := by
  have key : ∀ bs : Nat → Nat, (∀ i, i < n → bs i ≤ N) → (Dt n A bs).natAbs ≤ n ^ n * M := fun bs h => by
    have h2 : ∀ p, (∀ i, i < n → i ≠ p → bs i ≠ N) → (p < n → bs p = N) → (Dt n A bs).natAbs ≤ n ^ n * M := fun p hp hp2 => by
      have e : Dt n A bs = det n 0 (fun i c => if i < n then A (bs i) c else 0) := det_congrC fun i c hi _ _ => by
        rw [if_pos hi]; rfl
      rw [e]
      refine det_abs M1 (p := p) (fun i c hi => ?_) (fun c => ?_)
      · try dsimp only
        split
        · rename_i hin
          have := h i hin
          have := hp i hin hi
          exact a1 _ _ (by omega)
        · exact Nat.zero_le _
      · try dsimp only
        split
        · rename_i hin
          rw [hp2 hin]; exact aM c
        · exact Nat.zero_le _
    by_cases c : ∃ p, p < n ∧ bs p = N
    · obtain ⟨p, hp, ep⟩ := c
      by_cases c2 : ∃ q, q < n ∧ q ≠ p ∧ bs q = N
      · obtain ⟨q, hq, ne, eq⟩ := c2
        have : Dt n A bs = 0 := det_eq hq hp ne (by unfold colsB; rw [ep, eq])
        rw [this]
        exact Nat.zero_le _
      · exact h2 p (fun i hi ne e => c2 ⟨i, hi, ne, e⟩) fun _ => ep
    · exact h2 n (fun i hi _ e => c ⟨i, hi, e⟩) fun h => absurd h (Nat.lt_irrefl _)
  have nn : n ^ n * M * 31 < 2 ^ 3000 := by
    have h1 : n ^ n ≤ 30 ^ 30 := Nat.le_trans (Nat.pow_le_pow_left n30 n) (Nat.pow_le_pow_right (by decide) n30)
    have h2 : (30 : Nat) ^ 30 ≤ 2 ^ 150 := by decide +kernel
    have h3 : n ^ n * M < 2 ^ 150 * 2 ^ 2700 := Nat.lt_of_le_of_lt (Nat.mul_le_mul_right M (Nat.le_trans h1 h2)) (Nat.mul_lt_mul_of_pos_left hM (by decide +kernel))
    have h4 : (2 : Nat) ^ 150 * 2 ^ 2700 * 31 ≤ 2 ^ 3000 := by decide +kernel
    exact Nat.lt_of_lt_of_le (Nat.mul_lt_mul_of_pos_right h3 (by decide)) h4
  refine ⟨by omega, N1, fun bs h => ?_, fun bs h t ht => ?_⟩
  · have := key bs h
    show _ < _
    omega
  · have k1 := key bs h
    have k2 : (sumN (fun i => cost (bs i) * Et n A bs i t) n).natAbs ≤ n * (n ^ n * M) := natAbs_sumN fun j hj => by
      rw [Int.natAbs_mul]
      have h1 := key (setB bs j t) fun i hi => by
        unfold setB
        split
        · exact ht
        · exact h i hi
      rw [← Et_set] at h1
      have := Nat.mul_le_mul (c1 (bs j)) h1
      omega
    have k3 : (Dt n A bs * cost t).natAbs ≤ n ^ n * M := by
      rw [Int.natAbs_mul]
      have := Nat.mul_le_mul k1 (c1 t)
      omega
    unfold Gt IB
    have k4 : n * (n ^ n * M) ≤ 30 * (n ^ n * M) := Nat.mul_le_mul_right _ n30
    omega
end
/-! ### the board made (plain law) -/
def colA (m n : Nat) (rows : List (List Int)) (sums : List Int) : Nat → Vec := fun t c => if t < m then (rows.getD c []).getD t 0 else if t < m + n then (if c = t - m then 1 else 0) else sums.getD c 0
def cost1 (m n : Nat) : Nat → Int := fun t => if m ≤ t ∧ t < m + n then 1 else 0
def bs0 (m n : Nat) : Nat → Nat := fun i => if i < n then m + i else 0
section
variable {m n : Nat} {rows : List (List Int)} {sums : List Int}
theorem det_units {v : Nat → Vec} (h : ∀ i c, i < n → c < n → v i c = if c = i then 1 else 0) : det n 0 v = 1 := by
  have e : det n 0 v = det n 0 (fun i c => if c = 0 + i then 1 else 0) := det_congrC fun i c hi _ hc => by
    rw [h i c hi (by omega), Nat.zero_add]
  rw [e, det_unit]
theorem det_unitP {v : Nat → Vec} (h : ∀ i c, i < n → c < n → v i c = if c = i then 1 else 0) {i : Nat} (hi : i < n) (x : Vec) : det n 0 (put i x v) = x i := by
  have e : det n 0 (put i x v) = det n 0 (put i (fun c => sumN (fun j => x j * v j c) n) v) := det_congrC fun q c hq _ hc => by
    unfold put
    split
    · show x c = sumN (fun j => x j * v j c) n
      have hc' : c < n := by omega
      rw [sumN_one hc' fun j hj ne => by rw [h j c hj hc', if_neg (fun e => ne e.symm), Int.mul_zero]]
      rw [h c c hc' hc', if_pos rfl, Int.mul_one]
    · rfl
  rw [e, det_sum hi, sumN_one hi fun j hj ne => by
    rw [show det n 0 (put i (v j) v) = 0 from det_eq hi hj (fun e => ne e.symm) (by rw [put_at, put_ne ne]), Int.mul_zero]]
  rw [put_self, det_units h, Int.mul_one]
theorem cols0 {i c : Nat} (hi : i < n) : colsB (colA m n rows sums) (bs0 m n) i c = if c = i then 1 else 0 := by
  unfold colsB colA bs0
  rw [if_pos hi, if_neg (by omega), if_pos (by omega), show m + i - m = i by omega]
theorem Dt0 : Dt n (colA m n rows sums) (bs0 m n) = 1 := det_units fun i c hi _ => cols0 hi
theorem Et0 {i t : Nat} (hi : i < n) : Et n (colA m n rows sums) (bs0 m n) i t = colA m n rows sums t i := det_unitP (fun i c hi _ => cols0 hi) hi _
theorem sums0 (h : ∀ z ∈ sums, 0 ≤ z) (i : Nat) : 0 ≤ sums.getD i 0 := by
  rw [List.getD_eq_getElem?_getD]
  cases e : sums[i]? with
  | none => exact Int.le_refl _
  | some z => exact h z (List.mem_of_getElem? e)
theorem Good0 (h : ∀ z ∈ sums, 0 ≤ z) (n1 : 1 ≤ m + n) : Good n (m + n) (colA m n rows sums) (bs0 m n) := by
  refine ⟨fun t c hc => ?_, by rw [Dt0]; decide, fun i hi => ?_, fun i hi => ?_⟩
  · rw [Dt0, Int.one_mul, sumN_one hc fun j hj ne => by
      rw [show colA m n rows sums (bs0 m n j) c = if c = j then 1 else 0 from cols0 hj, if_neg (fun e => ne e.symm), Int.mul_zero]]
    rw [show colA m n rows sums (bs0 m n c) c = if c = c then 1 else 0 from cols0 hc, if_pos rfl, Int.mul_one, Et0 hc]
  · rw [Et0 hi]
    unfold colA
    rw [if_neg (by omega), if_neg (by omega)]
    exact sums0 h i
  · unfold bs0
    rw [if_pos hi]; omega
theorem initRow_len {k : Nat} (hk : k < rows.length) (hw : ∀ r ∈ rows, r.length = m) : (initRow rows sums k).length = m + rows.length + 1 := by
  unfold initRow
  have : (rows.getD k []).length = m := by
    rw [List.getD_eq_getElem?_getD, List.getElem?_eq_getElem hk]
    exact hw _ (List.getElem_mem hk)
  rw [List.length_append, List.length_append, List.length_map, List.length_range, this]
  rfl
theorem initRow_at {k t : Nat} (hk : k < rows.length) (hw : ∀ r ∈ rows, r.length = m) (ht : t ≤ m + rows.length) : (initRow rows sums k).getD t 0 = colA m rows.length rows sums t k := by
  have l : (rows.getD k []).length = m := by
    rw [List.getD_eq_getElem?_getD, List.getElem?_eq_getElem hk]
    exact hw _ (List.getElem_mem hk)
  unfold initRow colA
  by_cases c : t < m
  · rw [if_pos c, List.getD_eq_getElem?_getD, List.append_assoc, List.getElem?_append_left (by omega), ← List.getD_eq_getElem?_getD]
  · rw [if_neg c, List.getD_eq_getElem?_getD, List.append_assoc, List.getElem?_append_right (by omega), l]
    by_cases c2 : t < m + rows.length
    · rw [if_pos c2, List.getElem?_append_left (by rw [List.length_map, List.length_range]; omega), List.getElem?_map, List.getElem?_range (by omega)]
      rfl
    · rw [if_neg c2, List.getElem?_append_right (by rw [List.length_map, List.length_range]; omega), List.length_map, List.length_range, show t - m - rows.length = 0 by omega]
      rfl
theorem sumN_head {f : Nat → Int} : ∀ n : Nat, sumN f (n + 1) = f 0 + sumN (fun i => f (i + 1)) n
  | 0 => by show (0 : Int) + f 0 = f 0 + 0; omega
  | n + 1 => by
    show sumN f (n + 1) + f (n + 1) = f 0 + (sumN (fun i => f (i + 1)) n + f (n + 1))
    rw [sumN_head n]; omega
theorem sum_sumN : ∀ (l : List Int), l.sum = sumN (fun i => l.getD i 0) l.length
  | [] => rfl
  | x :: l => by
    rw [List.sum_cons, sum_sumN l, List.length_cons, sumN_head]
    rfl
theorem Gt0 {t : Nat} : Gt n (colA m n rows sums) (cost1 m n) (bs0 m n) t = cost1 m n t - sumN (fun i => colA m n rows sums t i) n := by
  unfold Gt
  rw [Dt0, Int.one_mul]
  congr 1
  refine sumN_congr fun i hi => ?_
  rw [Et0 hi, show cost1 m n (bs0 m n i) = 1 by unfold cost1 bs0; rw [if_pos hi, if_pos (by omega)], Int.one_mul]
theorem initGoal_at {t : Nat} (ls : sums.length = rows.length) (ht : t ≤ m + rows.length) : (initGoal m rows sums).getD t 0 = Gt rows.length (colA m rows.length rows sums) (cost1 m rows.length) (bs0 m rows.length) t := by
  rw [Gt0]
  unfold initGoal cost1 colA
  by_cases c : t < m
  · rw [List.getD_eq_getElem?_getD, List.append_assoc, List.getElem?_append_left (by rw [List.length_map, List.length_range]; exact c), List.getElem?_map, List.getElem?_range c]
    rw [if_neg (by omega)]
    show 0 - (rows.map fun r => r.getD t 0).sum = _
    rw [sum_sumN, List.length_map]
    congr 1
    refine sumN_congr fun i hi => ?_
    rw [if_pos c, List.getD_eq_getElem?_getD, List.getElem?_map, List.getElem?_eq_getElem hi, List.getD_eq_getElem?_getD (l := rows), List.getElem?_eq_getElem hi]
    rfl
  · rw [List.getD_eq_getElem?_getD, List.append_assoc, List.getElem?_append_right (by rw [List.length_map, List.length_range]; omega), List.length_map, List.length_range]
    by_cases c2 : t < m + rows.length
    · rw [List.getElem?_append_left (by unfold rowG; rw [List.length_map, List.length_range]; omega)]
      rw [if_pos (by omega)]
      have : sumN (fun i => if t < m then (rows.getD i []).getD t 0 else if t < m + rows.length then (if i = t - m then 1 else 0) else sums.getD i 0) rows.length = 1 := by
        rw [sumN_one (p := t - m) (by omega) fun j hj ne => by rw [if_neg c, if_pos c2, if_neg ne]]
        rw [if_neg c, if_pos c2, if_pos rfl]
      rw [this]
      unfold rowG
      rw [List.getElem?_map, List.getElem?_range (by omega)]
      rfl
    · rw [List.getElem?_append_right (by unfold rowG; rw [List.length_map, List.length_range]; omega)]
      rw [if_neg (by omega)]
      unfold rowG
      rw [List.length_map, List.length_range, show t - m - rows.length = 0 by omega]
      show 0 - sums.sum = _
      rw [sum_sumN, ls]
      congr 1
      refine sumN_congr fun i hi => ?_
      rw [if_neg c, if_neg c2]
def board0 (m : Nat) (rows : List (List Int)) (sums : List Int) : BoS := ⟨initRows rows sums, initGoal m rows sums, initSt m rows.length, 1⟩
theorem Rep0 (ls : sums.length = rows.length) (hw : ∀ r ∈ rows, r.length = m) : Rep rows.length (m + rows.length) (colA m rows.length rows sums) (cost1 m rows.length) (bs0 m rows.length) (board0 m rows sums) := by
  have at_ : ∀ i, i < rows.length → (initRows rows sums).getD i [] = initRow rows sums i := fun i hi => by
    unfold initRows
    rw [List.getD_eq_getElem?_getD, List.getElem?_map, List.getElem?_range hi]; rfl
  refine ⟨?_, fun i hi => ?_, fun i t hi ht => ?_, ?_, fun i hi => ?_, ?_, fun t ht => ?_, Dt0.symm⟩
  · show (initRows rows sums).length = _
    unfold initRows
    rw [List.length_map, List.length_range]
  · show ((initRows rows sums).getD i []).length = _
    rw [at_ i hi, initRow_len hi hw]
  · show ((initRows rows sums).getD i []).getD t 0 = _
    rw [at_ i hi, initRow_at hi hw ht, Et0 hi]
  · show (initSt m rows.length).length = _
    unfold initSt
    rw [List.length_map, List.length_range]
  · show (initSt m rows.length).getD i 0 = _
    unfold initSt bs0
    rw [if_pos hi, List.getD_eq_getElem?_getD, List.getElem?_map, List.getElem?_range hi]
    show (m : Int) + (i : Int) = _
    omega
  · show (initGoal m rows sums).length = _
    unfold initGoal rowG
    rw [List.length_append, List.length_append, List.length_map, List.length_range, List.length_map, List.length_range]
    rfl
  · exact initGoal_at ls ht
/-- the board made is one that can be led down -/
theorem Inv0 (ls : sums.length = rows.length) (hw : ∀ r ∈ rows, r.length = m) (h : ∀ z ∈ sums, 0 ≤ z) (n1 : 1 ≤ rows.length) : InvB rows.length (m + rows.length) m (colA m rows.length rows sums) (cost1 m rows.length) ((m + rows.length) ^ rows.length) (board0 m rows sums) := by
  refine ⟨0, fun _ => bs0 m rows.length, fun _ => 0, fun _ => 0, by omega, fun i _ => Good0 h (by omega), fun i hi => absurd hi (Nat.not_lt_zero _), fun j i _ hi => ?_, Rep0 ls hw⟩
  try dsimp only
  unfold bs0
  rw [if_neg (by omega)]
theorem Led1 {M : Nat} (hw : ∀ r ∈ rows, r.length = m) (n30 : rows.length ≤ 30) (m1 : m ≤ 900) (M1 : 1 ≤ M) (hM : M < 2 ^ 2700) (r1 : ∀ r ∈ rows, ∀ z ∈ r, z.natAbs ≤ 1) (s1 : ∀ z ∈ sums, z.natAbs ≤ M) : LedI m (m + rows.length + 1) (InvB rows.length (m + rows.length) m (colA m rows.length rows sums) (cost1 m rows.length)) := by
  have c0 : ∀ t, 0 ≤ cost1 m rows.length t := fun t => by unfold cost1; split <;> decide
  refine led_ex (SzB.of n30 (by omega) M1 hM (fun t c ht => ?_) (fun c => ?_) fun t => ?_) (by omega) fun bs s G _ ng => ex_cost c0 G ng
  · unfold colA
    split
    · rw [List.getD_eq_getElem?_getD (l := rows)]
      cases e : rows[c]? with
      | none => exact Nat.zero_le _
      | some r =>
        show (r.getD t 0).natAbs ≤ 1
        rw [List.getD_eq_getElem?_getD]
        cases e2 : r[t]? with
        | none => exact Nat.zero_le _
        | some z => exact r1 r (List.mem_of_getElem? e) z (List.mem_of_getElem? e2)
    · try rw [if_pos ht]
      split <;> decide
  · unfold colA
    rw [if_neg (by omega), if_neg (by omega), List.getD_eq_getElem?_getD]
    cases e : sums[c]? with
    | none => exact Nat.zero_le _
    | some z => exact s1 z (List.mem_of_getElem? e)
  · unfold cost1
    split <;> decide
end
/-! ### what a board led down tells (plain law) -/
section
variable {m n : Nat} {rows : List (List Int)} {sums : List Int} {bs : Nat → Nat}
theorem Inv_end {N : Nat} {A : Nat → Vec} {cost : Nat → Int} {k : Nat} {B : BoS} (I : InvB n N m A cost k B) (mN : m ≤ N) (he : enterF B.goal m = none) : ∃ bs, Good n N A bs ∧ Rep n N A cost bs B ∧ ∀ t, t < m → 0 ≤ Gt n A cost bs t := by
  obtain ⟨L, hist, _, _, _, G, _, _, R⟩ := I
  refine ⟨hist L, G L (Nat.le_refl _), R, fun t ht => ?_⟩
  rw [← R.g t (by omega)]
  exact enterF_none he t ht
/-- what bars are made of -/
def dualY (m n : Nat) (rows : List (List Int)) (sums : List Int) (bs : Nat → Nat) (c : Nat) : Int := Dt n (colA m n rows sums) bs - Gt n (colA m n rows sums) (cost1 m n) bs (m + c)
theorem colA_unit {c d : Nat} (hc : c < n) : colA m n rows sums (m + c) d = if d = c then 1 else 0 := by
  unfold colA
  rw [if_neg (by omega), if_pos (by omega), show m + c - m = c by omega]
theorem dual_at {c : Nat} (hc : c < n) : dualY m n rows sums bs c = sumN (fun i => cost1 m n (bs i) * Et n (colA m n rows sums) bs i (m + c)) n := by
  unfold dualY Gt
  rw [show cost1 m n (m + c) = 1 by unfold cost1; rw [if_pos (by omega)]]
  omega
theorem dual_sum (t : Nat) : sumN (fun i => cost1 m n (bs i) * Et n (colA m n rows sums) bs i t) n = sumN (fun c => colA m n rows sums t c * dualY m n rows sums bs c) n := by
  have h : ∀ i, i < n → Et n (colA m n rows sums) bs i t = sumN (fun c => colA m n rows sums t c * Et n (colA m n rows sums) bs i (m + c)) n := fun i hi => by
    unfold Et
    have e : det n 0 (put i (colA m n rows sums t) (colsB (colA m n rows sums) bs)) = det n 0 (put i (fun d => sumN (fun c => colA m n rows sums t c * colA m n rows sums (m + c) d) n) (colsB (colA m n rows sums) bs)) := det_congrC fun q d hq _ hd => by
      unfold put
      split
      · show _ = sumN (fun c => colA m n rows sums t c * colA m n rows sums (m + c) d) n
        have hd' : d < n := by omega
        rw [sumN_one hd' fun j hj ne => by rw [colA_unit hj, if_neg (fun e => ne e.symm), Int.mul_zero]]
        rw [colA_unit hd', if_pos rfl, Int.mul_one]
      · rfl
    rw [e, det_sum hi (w := fun c => colA m n rows sums (m + c)) (a := fun c => colA m n rows sums t c)]
  rw [sumN_congr (g := fun i => sumN (fun c => colA m n rows sums t c * (cost1 m n (bs i) * Et n (colA m n rows sums) bs i (m + c))) n) fun i hi => by
    rw [h i hi, ← sumN_mul]
    exact sumN_congr fun c _ => Int.mul_left_comm _ _ _]
  rw [sumN_comm]
  refine sumN_congr fun c hc => ?_
  rw [dual_at hc, ← sumN_mul]
theorem dual_main {t : Nat} (ht : t < m) (h : 0 ≤ Gt n (colA m n rows sums) (cost1 m n) bs t) : sumN (fun c => colA m n rows sums t c * dualY m n rows sums bs c) n ≤ 0 := by
  rw [← dual_sum]
  unfold Gt at h
  rw [show cost1 m n t = 0 by unfold cost1; rw [if_neg (by omega)], Int.mul_zero] at h
  omega
theorem dual_last : sumN (fun c => sums.getD c 0 * dualY m n rows sums bs c) n = - Gt n (colA m n rows sums) (cost1 m n) bs (m + n) := by
  have e := dual_sum (m := m) (n := n) (rows := rows) (sums := sums) (bs := bs) (m + n)
  have e2 : sumN (fun c => colA m n rows sums (m + n) c * dualY m n rows sums bs c) n = sumN (fun c => sums.getD c 0 * dualY m n rows sums bs c) n := sumN_congr fun c _ => by
    try dsimp only
    rw [show colA m n rows sums (m + n) c = sums.getD c 0 by unfold colA; rw [if_neg (by omega), if_neg (by omega)]]
  rw [← e2, ← e]
  unfold Gt
  rw [show cost1 m n (m + n) = 0 by unfold cost1; rw [if_neg (by omega)]]
  omega
theorem sumN_nonneg {f : Nat → Int} : ∀ {n : Nat}, (∀ j, j < n → 0 ≤ f j) → 0 ≤ sumN f n
  | 0, _ => Int.le_refl _
  | n + 1, h => by
    have h1 := sumN_nonneg (n := n) fun j hj => h j (by omega)
    have h2 := h n (by omega)
    show 0 ≤ sumN f n + f n
    omega
theorem sumN_null {f : Nat → Int} : ∀ {n : Nat}, (∀ j, j < n → 0 ≤ f j) → sumN f n = 0 → ∀ j, j < n → f j = 0
  | n + 1, h, e, j, hj => by
    have h1 := sumN_nonneg (n := n) fun j hj => h j (by omega)
    have h2 := h n (by omega)
    have e' : sumN f n + f n = 0 := e
    by_cases c : j = n
    · subst c; omega
    · exact sumN_null (n := n) (fun j hj => h j (by omega)) (by omega) j (by omega)
theorem cost1_0 (t : Nat) : 0 ≤ cost1 m n t := by unfold cost1; split <;> decide
theorem last_nonneg (G : Good n (m + n) (colA m n rows sums) bs) : Gt n (colA m n rows sums) (cost1 m n) bs (m + n) ≤ 0 := by
  have := sumN_nonneg (f := fun i => cost1 m n (bs i) * Et n (colA m n rows sums) bs i (m + n)) (n := n) fun j hj => Int.mul_nonneg (cost1_0 _) (G.b0 j hj)
  unfold Gt
  rw [show cost1 m n (m + n) = 0 by unfold cost1; rw [if_neg (by omega)]]
  omega
theorem last_zero (G : Good n (m + n) (colA m n rows sums) bs) (h : Gt n (colA m n rows sums) (cost1 m n) bs (m + n) = 0) {i : Nat} (hi : i < n) (hb : m ≤ bs i) : Et n (colA m n rows sums) bs i (m + n) = 0 := by
  have h2 : sumN (fun i => cost1 m n (bs i) * Et n (colA m n rows sums) bs i (m + n)) n = 0 := by
    unfold Gt at h
    rw [show cost1 m n (m + n) = 0 by unfold cost1; rw [if_neg (by omega)]] at h
    omega
  have := sumN_null (f := fun i => cost1 m n (bs i) * Et n (colA m n rows sums) bs i (m + n)) (fun j hj => Int.mul_nonneg (cost1_0 _) (G.b0 j hj)) h2 i hi
  try dsimp only at this
  rwa [show cost1 m n (bs i) = 1 by unfold cost1; rw [if_pos ⟨hb, by have := G.lt i hi; omega⟩], Int.one_mul] at this
/-- the weights solve the equations -/
theorem last_solves (G : Good n (m + n) (colA m n rows sums) bs) (h : Gt n (colA m n rows sums) (cost1 m n) bs (m + n) = 0) {c : Nat} (hc : c < n) : sumN (fun i => if bs i < m then Et n (colA m n rows sums) bs i (m + n) * (rows.getD c []).getD (bs i) 0 else 0) n = Dt n (colA m n rows sums) bs * sums.getD c 0 := by
  have e := G.sp (m + n) c hc
  rw [show colA m n rows sums (m + n) c = sums.getD c 0 by unfold colA; rw [if_neg (by omega), if_neg (by omega)]] at e
  rw [e]
  refine sumN_congr fun i hi => ?_
  try dsimp only
  by_cases c2 : bs i < m
  · rw [if_pos c2]
    unfold colA
    rw [if_pos c2]
  · rw [if_neg c2, last_zero G h hi (by omega), Int.zero_mul]
end
/-! ### fractions over one bottom, of either sign -/
def Zs (b M : Int) (x : Rat) : Prop := ∃ z : Int, x = Rat.divInt z b ∧ -M ≤ z ∧ z ≤ M
theorem divInt_addZs {z u b : Int} (hb : 0 < b) : Rat.divInt z b + Rat.divInt u b = Rat.divInt (z + u) b := by
  rw [Rat.divInt_add_divInt _ _ (by omega) (by omega), ← Int.add_mul, Int.mul_comm (z + u) b, Rat.divInt_mul_left (by omega)]
theorem abs_mul_le {z u M N : Int} (h1 : -M ≤ z) (h2 : z ≤ M) (h3 : -N ≤ u) (h4 : u ≤ N) : -(M * N) ≤ z * u ∧ z * u ≤ M * N := by
  have a : z.natAbs ≤ M.natAbs := by omega
  have b : u.natAbs ≤ N.natAbs := by omega
  have c := Nat.mul_le_mul a b
  rw [← Int.natAbs_mul, ← Int.natAbs_mul] at c
  have d : 0 ≤ M * N := Int.mul_nonneg (by omega) (by omega)
  omega
theorem Zs.mono {b M M' : Int} {x : Rat} (h : Zs b M x) (l : M ≤ M') : Zs b M' x := by
  obtain ⟨z, e, h1, h2⟩ := h
  exact ⟨z, e, by omega, by omega⟩
theorem Zs.bd {b M : Int} {x : Rat} {k : Nat} (h : Zs b M x) (hb : 0 < b) (h1 : b < 2 ^ k) (h2 : M < 2 ^ k) : Bd k x := by
  obtain ⟨z, rfl, a1, a2⟩ := h
  have e : ((2 ^ k : Nat) : Int) = (2 : Int) ^ k := by rw [Int.natCast_pow]; rfl
  refine Bd_divInt (by omega) ?_ ?_
  · generalize (2 : Int) ^ k = t at *
    omega
  · generalize (2 : Int) ^ k = t at *
    omega
theorem Zs.zero {b M : Int} (h : 0 ≤ M) : Zs b M 0 := ⟨0, (Rat.zero_divInt b).symm, by omega, h⟩
theorem Zs.add {b M M' : Int} {x y : Rat} (hb : 0 < b) (h : Zs b M x) (h' : Zs b M' y) : Zs b (M + M') (x + y) := by
  obtain ⟨z, rfl, a1, a2⟩ := h
  obtain ⟨u, rfl, b1, b2⟩ := h'
  exact ⟨z + u, divInt_addZs hb, by omega, by omega⟩
theorem Zs.mul {b c M M' : Int} {x y : Rat} (h : Zs b M x) (h' : Zs c M' y) : Zs (b * c) (M * M') (x * y) := by
  obtain ⟨z, rfl, a1, a2⟩ := h
  obtain ⟨u, rfl, b1, b2⟩ := h'
  refine ⟨z * u, Rat.divInt_mul_divInt _ _, ?_, ?_⟩
  · have := abs_mul_le a1 a2 b1 b2; omega
  · have := abs_mul_le a1 a2 b1 b2; omega
/-- over a divisor -/
theorem Zs.of {b d t : Int} (hd : 0 < d) (h : d ∣ b) (hb : 0 < b) {M : Int} (h1 : -M ≤ t) (h2 : t ≤ M) : Zs b (M * b) (Rat.divInt t d) := by
  obtain ⟨k, rfl⟩ := h
  have hk : 0 < k := by
    by_cases c : 0 < k
    · exact c
    · exact absurd (Int.mul_nonpos_of_nonneg_of_nonpos (show 0 ≤ d by omega) (show k ≤ 0 by omega)) (by omega)
  refine ⟨t * k, ?_, ?_, ?_⟩
  · rw [Int.mul_comm d k, Int.mul_comm t k, Rat.divInt_mul_left (show k ≠ 0 by omega)]
  · have l1 : k ≤ d * k := by have := Int.mul_le_mul_of_nonneg_right (show 1 ≤ d by omega) (show 0 ≤ k by omega); rwa [Int.one_mul] at this
    have := abs_mul_le h1 h2 (show -(d * k) ≤ k by omega) l1
    omega
  · have l1 : k ≤ d * k := by have := Int.mul_le_mul_of_nonneg_right (show 1 ≤ d by omega) (show 0 ≤ k by omega); rwa [Int.one_mul] at this
    have := abs_mul_le h1 h2 (show -(d * k) ≤ k by omega) l1
    omega
section
variable {P : Program} {w : World} {K : PySem.W.Frag} {mg : Str → Option Value} {base : Heap}
def pCommon : Pre := fun ds Q => ∃ a b : Int, ds = [.int a, .int b] ∧ Q .lf (.int (Int.gcd a b))
theorem ok_common_of {f : Addr} {fd : FuncData} (F : Fun K "common_of" "common_of" s_common_of f fd) (T : Tx K mg) : FnOk P w K mg base CX0 1 f fd P_common_of (spV K pCommon) := by
  refine okV F sc_common_of (fun ds Q h => ?_) fun cdv A outer s H E hr => ⟨_, (pss_cons (ps_while PassesOwn.never (pt_cmpR op_ne (pv 1) pe_int (nomark _))
  (pss_one (ps_par (i := 0) (j := 1) rfl sc_common_of.nd rfl rfl (by decide) rfl rfl (pa_cons (pv 1) (pa_cons (pe_op op_modN (pv 0) (pv 1)) pa_nil)) rfl)))
  (pss_one (ps_ret (pe_callB cr_abs (by rfl) T.abs_ (by decide +kernel) (pa_cons (pv 0) pa_nil))))), fun ds Q h => ?_⟩
  · obtain ⟨a, b, rfl, _⟩ := h
    rfl
  · obtain ⟨a, b, rfl, q⟩ := h
    walk_at "goK"
    refine SW_while ⟨fun m Γ => ∃ x y : Int, Γ = [.v .lf (.int x), .v .lf (.int y)] ∧ Int.gcd x y = Int.gcd a b ∧ m = y.natAbs, ⟨_, a, b, rfl, rfl, rfl⟩, ?_⟩
    rintro m Γ ⟨x, y, rfl, e, rfl⟩
    walk_at "goW"
    refine ifND (fun h => ?_) (fun h => ?_)
    · walk_at "goW"
      refine OW_modN h ?_
      walk_at "goW"
      exact ⟨_, fmod_small x y h, y, x.fmod y, rfl, (gcd_fmod x y).trans e, rfl⟩
    · walk_at "goW"
      subst h
      rw [abs_gcd0, e]
      exact q
end
section
variable {P : Program} {w : World} {K : PySem.W.Frag} {mg : Str → Option Value} {base : Heap}
end
section
variable {P : Program} {w : World} {K : PySem.W.Frag} {mg : Str → Option Value} {base : Heap}
def pFraction : Pre := fun ds Q => ∃ t b : Int, ds = [.int t, .int b] ∧ b ≠ 0 ∧ IB 8500 b ∧ Q .lf (FD (Rat.divInt t b))
theorem ok_fraction {f : Addr} {fd : FuncData} (F : Fun K "fraction" "fraction" s_fraction f fd) (T : Tx K mg) (c_common_of : Cal P w K mg base 1 "common_of" (spV K pCommon) []) : FnOk P w K mg base CX0 2 f fd P_fraction (spV K pFraction) := by
  refine okV F sc_fraction (fun ds Q h => ?_) fun cdv A outer s H E hr => ⟨_, (pss_cons (ps_if (pt_cmpR op_eq (pv 1) pe_int (nomark _))
  (pss_one ps_never)
  pss_nil)
  (pss_cons (ps_set (i := 2) sc_fraction.nd rfl (Or.inl rfl) (pe_c c_common_of hr (by decide) rfl (pa_cons (pv 0) (pa_cons (pv 1) pa_nil))))
  (pss_cons (ps_if (pt_cmpR op_lt (pv 1) pe_int (nomark _))
  (pss_one (ps_set (i := 2) sc_fraction.nd rfl (Or.inl rfl) (pe_op op_sub pe_int (pv 2))))
  pss_nil)
  (pss_one (ps_ret (pe_tup (pa_cons (pe_op op_fdivV (pv 0) (pv 2)) (pa_cons (pe_op op_fdivV (pv 1) (pv 2)) pa_nil)))))))), fun ds Q h => ?_⟩
  · obtain ⟨a, b, rfl, _⟩ := h
    rfl
  · obtain ⟨t, b, rfl, hb, hl, q⟩ := h
    walk_at "goK"
    refine ifD (fun h => absurd h hb) (fun _ => ?_)
    walk_at "goW"
    refine ⟨t, b, rfl, ?_⟩
    walk_at "goW"
    have hg := gcd_lt (t := t) hb hl
    have hp := gcd_pos' (t := t) hb
    refine ifD (fun h => ?_) (fun h => ?_)
    · walk_at "goW"
      refine OW_divV (divV 8500 (by omega) (by omega)) ?_
      walk_at "goW"
      refine OW_divV (divV 8500 (by omega) (by omega)) ?_
      walk_at "goW"
      have := q
      unfold FD at this
      rw [divInt_num t b hb, divInt_den t b hb, if_pos h, if_pos h] at this
      rw [Int.zero_sub]
      exact this
    · walk_at "goW"
      refine OW_divV (divV 8500 (by omega) (by omega)) ?_
      walk_at "goW"
      refine OW_divV (divV 8500 (by omega) (by omega)) ?_
      walk_at "goW"
      have := q
      unfold FD at this
      rw [divInt_num t b hb, divInt_den t b hb, if_neg h, if_neg h] at this
      exact this
end
section
variable {P : Program} {w : World} {K : PySem.W.Frag} {mg : Str → Option Value} {base : Heap}
def pAllCuts : Pre := fun ds Q => ∃ n : Nat, ds = [.int n] ∧ 1 ≤ n ∧ n ≤ 10 ∧ Q (.li .lf) (LD (cutsL (n - 1) 1))
theorem ok_all_cuts {f : Addr} {fd : FuncData} (F : Fun K "all_cuts" "all_cuts" s_all_cuts f fd) (T : Tx K mg) : FnOk P w K mg base CX0 1 f fd P_all_cuts (spV K pAllCuts) := by
  refine okV F sc_all_cuts (fun ds Q h => ?_) fun cdv A outer s H E hr => ⟨_, (pss_cons (ps_set (i := 1) sc_all_cuts.nd rfl (Or.inl rfl) (pe_lst pa_nil))
  (pss_cons (ps_for PassesOwn.never rfl (pi_range3 (by rfl) T.range_ (pa_cons (pe_op op_sub (pv 0) pe_int) (pa_cons pe_int (pa_cons (pe_un un_neg pe_int) pa_nil)))) (pg_name (i := 2) sc_all_cuts.nd rfl (Or.inr rfl))
  (pss_one (ps_set (i := 1) sc_all_cuts.nd rfl (Or.inl rfl) (pe_op op_cat (pe_op op_cat (pe_lst (pa_cons (pe_lst (pa_cons (pv 2) pa_nil)) pa_nil)) (pe_lc (own := [("cut", 3)]) (g := gName 3) (tt := tYes) rfl sc_all_cuts.nd (k_piL (K := K) (pv 1)) (blkOk_by (own := [("cut", 3)]) (N := N_all_cuts) (sc := defScope s_all_cuts) (by decide +kernel)) (fun _ _ _ _ _ => (pg_name (i := 3) sc_all_cuts.nd rfl (Or.inl rfl))) (fun _ _ _ _ _ => pts_nil) (fun _ _ _ _ _ => (pe_op op_cat (pe_lst (pa_cons (pv 2) pa_nil)) (pv 3))))) (pv 1)))))
  (pss_one (ps_ret (pe_callB (k_sortedD (K := K) hr.units) (by rfl) T.sorted_ (by decide +kernel) (pa_cons (pv 1) pa_nil)))))), fun ds Q h => ?_⟩
  · obtain ⟨_, rfl, _⟩ := h
    rfl
  · obtain ⟨n, rfl, n1, hn, q⟩ := h
    walk_at "goK"
    refine ForB_rng (fun i Γ => ∃ (x y : Sl), Γ = [.v .lf (.int n), .v (.li .lf) (LD (cutsL i (n - i))), x, y]) ⟨_, _, rfl⟩ ?_ ?_
    · rintro i Γ hi ⟨x, y, rfl⟩
      have hi : i < n - 1 := by omega
      have lc : (cutsL i (n - i)).length < 1024 := by
        have := cutsL_len i (n - i)
        have : 2 ^ i ≤ 2 ^ 9 := Nat.pow_le_pow_right (by decide) (by omega)
        omega
      obtain ⟨p0, hp0, hp1⟩ : ∃ p0 : Nat, (n : Int) - 1 - (i : Int) = (p0 : Int) ∧ p0 + 1 = n - i := ⟨n - 1 - i, by omega, by omega⟩
      rw [hp0]
      walk_at "goZ"
      refine LcB_m .lf (fun c : List Int => IL ((p0 : Int) :: c)) (by omega) (fun c hc => ?_) ?_
      · have := cutsL_el hc
        refine GC_name (by decide) ?_
        walk_at "goZ"
        exact ⟨.inr rfl, rfl, rfl⟩
      rw [show (cutsL i (n - i)).map (fun c : List Int => IL ((p0 : Int) :: c)) = ((cutsL i (n - i)).map fun c : List Int => (p0 : Int) :: c).map IL by rw [List.map_map]; rfl]
      refine OW_cat (by simp only [List.length_cons, List.length_nil, List.length_map]; omega) ?_
      walk_at "goF"
      refine ⟨.v .lf (.int p0), .un, ?_⟩
      have e : (cutsL (i + 1) p0).map IL = [PyData.list [.int (p0 : Int)]] ++ ((cutsL i (n - i)).map fun c : List Int => (p0 : Int) :: c).map IL ++ (cutsL i (n - i)).map IL := by
        conv => lhs; unfold cutsL
        rw [hp1, List.map_append, List.map_append, List.map_cons, List.map_nil]
        rfl
      rw [show n - (i + 1) = p0 by omega, show LD (cutsL (i + 1) p0) = PyData.list ((cutsL (i + 1) p0).map IL) from rfl, e]
      rfl
    · rintro Γ ⟨x, y, rfl⟩
      rw [show ((n : Int) - 1 - 0).toNat = n - 1 by omega, show n - (n - 1) = 1 by omega]
      walk_at "goF"
      refine CW_sortD (il_alike _) (il_sortable _) (fun d hd => by obtain ⟨u, _, rfl⟩ := List.mem_map.mp hd; exact Nat.le_trans Sh.il.2 (by decide)) fun ds' hp hs => ?_
      obtain ⟨us, rfl, hp'⟩ := map_perm_inv IL hp
      rw [List.pairwise_map] at hs
      rw [perm_le_eq hp' (hs.imp fun h => le_of_il h) (cutsL_sorted _ _)]
      walk_at "goF"
      exact q
end
/-! ### pairs of points, numbers for them -/
/-- the sum of the numbers of the first pairs that a cut parts -/
def accP (c : List Int) (bs : List Rat) (ps : List (Nat × Nat)) : Rat := ps.zipIdx.foldl (fun a p => if parts c p.1.1 p.1.2 then a + bs.getD p.2 0 else a) 0
theorem accP_snoc (c : List Int) (bs : List Rat) (ps : List (Nat × Nat)) (p : Nat × Nat) : accP c bs (ps ++ [p]) = if parts c p.1 p.2 then accP c bs ps + bs.getD ps.length 0 else accP c bs ps := by
  unfold accP
  rw [List.zipIdx_append, List.foldl_append]
  simp
/-- the sum of the numbers of the first pairs, each times the distance -/
def accW (g : Nat → Nat → Rat) (bs : List Rat) (ps : List (Nat × Nat)) : Rat := ps.zipIdx.foldl (fun a p => a + bs.getD p.2 0 * g p.1.1 p.1.2) 0
theorem accW_snoc (g : Nat → Nat → Rat) (bs : List Rat) (ps : List (Nat × Nat)) (p : Nat × Nat) : accW g bs (ps ++ [p]) = accW g bs ps + bs.getD ps.length 0 * g p.1 p.2 := by
  unfold accW
  rw [List.zipIdx_append, List.foldl_append]
  simp
def rowP (n i : Nat) : List (Nat × Nat) := (List.range (n - (i + 1))).map fun j => (i, i + 1 + j)
def pairP (n i : Nat) : List (Nat × Nat) := (List.range i).flatMap (rowP n)
abbrev prsP (n : Nat) : List (Nat × Nat) := pairP n n
theorem pairP_succ (n i : Nat) : pairP n (i + 1) = pairP n i ++ rowP n i := by
  unfold pairP
  rw [List.range_succ, List.flatMap_append, List.flatMap_cons, List.flatMap_nil, List.append_nil]
theorem pairP_len2 (n : Nat) : ∀ i, i ≤ n → 2 * (pairP n i).length + i * i + i = 2 * (i * n)
  | 0, _ => by simp [pairP]
  | i + 1, h => by
    have ih := pairP_len2 n i (by omega)
    rw [pairP_succ, List.length_append, rowP, List.length_map, List.length_range]
    have e1 : (i + 1) * (i + 1) = i * i + 2 * i + 1 := by rw [Nat.add_mul, Nat.mul_add]; omega
    have e2 : (i + 1) * n = i * n + n := by rw [Nat.add_mul]; omega
    rw [e1, e2]
    omega
theorem prsP_len (n : Nat) : 2 * (prsP n).length + n = n * n := by
  have := pairP_len2 n n (Nat.le_refl n)
  show 2 * (pairP n n).length + n = n * n
  omega
theorem pairP_le (n : Nat) : ∀ i, (pairP n i).length ≤ i * n
  | 0 => by simp [pairP]
  | i + 1 => by
    rw [pairP_succ, List.length_append, Nat.succ_mul]
    have := pairP_le n i
    have : (rowP n i).length ≤ n := by rw [rowP, List.length_map, List.length_range]; omega
    omega
theorem rowP_take {n i k : Nat} (h : k < n - (i + 1)) : (rowP n i).take (k + 1) = (rowP n i).take k ++ [(i, i + 1 + k)] := take_snoc (by rw [rowP, List.getElem?_map, List.getElem?_range h]; rfl)
/-- pairs gone through ahead of one -/
def goneP (n i k : Nat) : List (Nat × Nat) := pairP n i ++ (rowP n i).take k
theorem goneP_zero (n i : Nat) : goneP n i 0 = pairP n i := by unfold goneP; rw [List.take_zero, List.append_nil]
theorem goneP_snoc {n i k : Nat} (h : k < n - (i + 1)) : goneP n i (k + 1) = goneP n i k ++ [(i, i + 1 + k)] := by
  unfold goneP
  rw [rowP_take h, List.append_assoc]
theorem goneP_done {n i : Nat} : goneP n i (n - (i + 1)) = pairP n (i + 1) := by
  unfold goneP
  rw [pairP_succ, List.take_of_length_le (by rw [rowP, List.length_map, List.length_range]; omega)]
theorem goneP_lt {n i k : Nat} (hi : i < n) (h : k < n - (i + 1)) : (goneP n i k).length < (prsP n).length := by
  have e : ∀ j, i + 1 ≤ j → j ≤ n → (pairP n (i + 1)).length ≤ (pairP n j).length := fun j => by
    induction j with
    | zero => intro h1; omega
    | succ j ih =>
      intro h1 h2
      by_cases c : i + 1 = j + 1
      · rw [c]; exact Nat.le_refl _
      · have := ih (by omega) (by omega)
        rw [pairP_succ n j, List.length_append]; omega
    
  have := e n (by omega) (Nat.le_refl n)
  have l : (goneP n i k).length < (pairP n (i + 1)).length := by
    rw [pairP_succ]
    unfold goneP
    rw [List.length_append, List.length_append, List.length_take, rowP, List.length_map, List.length_range]
    omega
  exact Nat.lt_of_lt_of_le l this
/-- bounds of partial sums -/
theorem accP_zs {b M : Int} (hb : 0 < b) (hM : 0 ≤ M) {c : List Int} {bs : List Rat} (h : ∀ x ∈ bs, Zs b M x) : ∀ (ps : List (Nat × Nat)), ps.length ≤ bs.length → Zs b (ps.length * M) (accP c bs ps) := fun ps => by
  have key : ∀ (k : Nat), k ≤ ps.length → ps.length ≤ bs.length → Zs b (k * M) (accP c bs (ps.take k)) := fun k => by
    induction k with
    | zero => intro _ _; rw [List.take_zero]; exact Zs.zero (by omega)
    | succ k ih =>
      intro h1 h2
      have e := ih (by omega) h2
      rw [take_snoc (List.getElem?_eq_getElem (show k < ps.length by omega)), accP_snoc, List.length_take, Nat.min_eq_left (by omega)]
      have e2 : (((k + 1 : Nat) : Int)) * M = k * M + M := by rw [Int.natCast_add, Int.add_mul]; omega
      rw [e2]
      split
      · exact e.add hb (h _ (by rw [List.getD_eq_getElem?_getD, List.getElem?_eq_getElem (by omega)]; exact List.getElem_mem _))
      · exact e.mono (by omega)
  intro hl
  have := key ps.length (Nat.le_refl _) hl
  rwa [List.take_length] at this
theorem accW_zs {b M : Int} (hb : 0 < b) (hM : 0 ≤ M) {g : Nat → Nat → Rat} {bs : List Rat} (h : ∀ x ∈ bs, ∀ i j, Zs b M (x * g i j)) : ∀ (ps : List (Nat × Nat)), ps.length ≤ bs.length → Zs b (ps.length * M) (accW g bs ps) := fun ps => by
  have key : ∀ (k : Nat), k ≤ ps.length → ps.length ≤ bs.length → Zs b (k * M) (accW g bs (ps.take k)) := fun k => by
    induction k with
    | zero => intro _ _; rw [List.take_zero]; exact Zs.zero (by omega)
    | succ k ih =>
      intro h1 h2
      have e := ih (by omega) h2
      rw [take_snoc (List.getElem?_eq_getElem (show k < ps.length by omega)), accW_snoc, List.length_take, Nat.min_eq_left (by omega)]
      have e2 : (((k + 1 : Nat) : Int)) * M = k * M + M := by rw [Int.natCast_add, Int.add_mul]; omega
      rw [e2]
      exact e.add hb (h _ (by rw [List.getD_eq_getElem?_getD, List.getElem?_eq_getElem (by omega)]; exact List.getElem_mem _) _ _)
  intro hl
  have := key ps.length (Nat.le_refl _) hl
  rwa [List.take_length] at this
section
variable {P : Program} {w : World} {K : PySem.W.Frag} {mg : Str → Option Value} {base : Heap}
def pPairsOf : Pre := fun ds Q => ∃ n : Nat, ds = [.int n] ∧ n ≤ 20 ∧ Q (.li .lf) (PDs (prsP n))
theorem ok_pairs_of {f : Addr} {fd : FuncData} (F : Fun K "pairs_of" "pairs_of" s_pairs_of f fd) (T : Tx K mg) : FnOk P w K mg base CX0 1 f fd P_pairs_of (spV K pPairsOf) := by
  refine okV F sc_pairs_of (fun ds Q h => ?_) fun cdv A outer s H E hr => ⟨_, (pss_cons (ps_set (i := 1) sc_pairs_of.nd rfl (Or.inl rfl) (pe_lst pa_nil))
  (pss_cons (ps_for PassesOwn.never rfl (pi_range1 (by rfl) T.range_ (pa_cons (pv 0) pa_nil)) (pg_name (i := 2) sc_pairs_of.nd rfl (Or.inr rfl))
  (pss_one (ps_set (i := 1) sc_pairs_of.nd rfl (Or.inl rfl) (pe_op op_cat (pv 1) (pe_lc (own := [("j", 3)]) (g := gName 3) (tt := tYes) rfl sc_pairs_of.nd (pi_range2 (by rfl) T.range_ (pa_cons (pe_op op_add (pv 2) pe_int) (pa_cons (pv 0) pa_nil))) (blkOk_by (own := [("j", 3)]) (N := N_pairs_of) (sc := defScope s_pairs_of) (by decide +kernel)) (fun _ _ _ _ _ => (pg_name (i := 3) sc_pairs_of.nd rfl (Or.inl rfl))) (fun _ _ _ _ _ => pts_nil) (fun _ _ _ _ _ => (pe_tup (pa_cons (pv 2) (pa_cons (pv 3) pa_nil)))))))))
  (pss_one (ps_ret (pv 1))))), fun ds Q h => ?_⟩
  · obtain ⟨_, rfl, _⟩ := h
    rfl
  · obtain ⟨n, rfl, hn, q⟩ := h
    walk_at "goK"
    refine ForB_rng (fun i Γ => ∃ (x2 : Sl), Γ = [.v .lf (.int n), .v (.li .lf) (PDs (pairP n i)), x2, .un]) ⟨_, rfl⟩ ?_ ?_
    · rintro i Γ hi ⟨x2, rfl⟩
      have few := pairP_le n i
      have few2 : i * n ≤ 20 * 20 := Nat.mul_le_mul (by omega) hn
      walk_at "goF"
      refine LcB_m .lf (fun k : Nat => GD (i, i + 1 + k)) (by rw [List.length_range]; omega) (fun k hk => ?_) ?_
      · refine GC_name (by decide) ?_
        walk_at "goZ"
        exact ⟨.inl rfl, rfl, rfl⟩
      rw [show (List.range (n - (i + 1))).map (fun k : Nat => GD (i, i + 1 + k)) = (rowP n i).map GD by unfold rowP; rw [List.map_map]; rfl]
      have lr : (rowP n i).length ≤ n := by rw [rowP, List.length_map, List.length_range]; omega
      rw [pairP_succ]
      generalize pairP n i = ps at few ⊢
      generalize rowP n i = qs at lr ⊢
      refine OW_cat (by rw [List.length_map, List.length_map]; omega) ?_
      rw [← List.map_append]
      walk_at "goW"
      exact ⟨.v .lf (.int (i : Nat)), rfl⟩
    · rintro Γ ⟨x2, rfl⟩
      walk_at "goW"
      exact q
/-- the least number by which all of a table is whole -/
def lcmR (g : Nat → Nat → Rat) (i : Nat) (a : Nat) : Nat → Nat
  | 0 => a
  | j + 1 => Nat.lcm (lcmR g i a j) (g i j).den
def lcmT (n : Nat) (g : Nat → Nat → Rat) : Nat → Nat
  | 0 => 1
  | i + 1 => lcmR g i (lcmT n g i) n
theorem lcmR_pos {g : Nat → Nat → Rat} {i a : Nat} (h : 0 < a) : ∀ j, 0 < lcmR g i a j
  | 0 => h
  | j + 1 => Nat.lcm_pos (lcmR_pos h j) (g i j).den_pos
theorem lcmT_pos {n : Nat} {g : Nat → Nat → Rat} : ∀ i, 0 < lcmT n g i
  | 0 => Nat.one_pos
  | i + 1 => lcmR_pos (lcmT_pos i) n
theorem lcmR_dvd {g : Nat → Nat → Rat} {i a B : Nat} (h : a ∣ B) (hd : ∀ j, (g i j).den ∣ B) : ∀ j, lcmR g i a j ∣ B
  | 0 => h
  | j + 1 => Nat.lcm_dvd (lcmR_dvd h hd j) (hd j)
theorem lcmT_dvd {n B : Nat} {g : Nat → Nat → Rat} (hd : ∀ i j, (g i j).den ∣ B) : ∀ i, lcmT n g i ∣ B
  | 0 => Nat.one_dvd _
  | i + 1 => lcmR_dvd (lcmT_dvd hd i) (hd i) n
theorem lcmR_up {g : Nat → Nat → Rat} {i a : Nat} : ∀ j, a ∣ lcmR g i a j
  | 0 => Nat.dvd_refl _
  | j + 1 => Nat.dvd_trans (lcmR_up j) (Nat.dvd_lcm_left _ _)
theorem lcmR_has {g : Nat → Nat → Rat} {i a k : Nat} : ∀ j, k < j → (g i k).den ∣ lcmR g i a j
  | j + 1, h => by
    by_cases c : k = j
    · subst c; exact Nat.dvd_lcm_right _ _
    · exact Nat.dvd_trans (lcmR_has j (by omega)) (Nat.dvd_lcm_left _ _)
theorem lcmT_has {n : Nat} {g : Nat → Nat → Rat} {k j : Nat} (hj : j < n) : ∀ i, k < i → (g k j).den ∣ lcmT n g i
  | i + 1, h => by
    by_cases c : k = i
    · subst c; exact lcmR_has n hj
    · exact Nat.dvd_trans (lcmT_has hj i (by omega)) (lcmR_up n)
theorem lcm_int {a b : Nat} : (a : Int) * (b : Int) / ((Int.gcd a b : Nat) : Int) = ((Nat.lcm a b : Nat) : Int) := by
  unfold Nat.lcm
  rw [Int.natCast_ediv, Int.natCast_mul]
  rfl
def pWholeBy : Pre := fun ds Q => ∃ (n : Nat) (g : Nat → Nat → Rat) (B : Nat), ds = [TD (tabG n g)] ∧ n ≤ 100 ∧ 0 < B ∧ B < 2 ^ 2000 ∧ (∀ i j, (g i j).den ∣ B) ∧ Q .lf (.int (lcmT n g n : Nat))
theorem ok_whole_by {f : Addr} {fd : FuncData} (F : Fun K "whole_by" "whole_by" s_whole_by f fd) (T : Tx K mg) (c_common_of : Cal P w K mg base 1 "common_of" (spV K pCommon) []) : FnOk P w K mg base CX0 2 f fd P_whole_by (spV K pWholeBy) := by
  refine okV F sc_whole_by (fun ds Q h => ?_) fun cdv A outer s H E hr => ⟨_, (pss_cons (ps_set (i := 1) sc_whole_by.nd rfl (Or.inl rfl) pe_int)
  (pss_cons (ps_for PassesOwn.never rfl (k_piL (K := K) (pv 0)) (pg_name (i := 2) sc_whole_by.nd rfl (Or.inl rfl))
  (pss_one (ps_for PassesOwn.never rfl (k_piL (K := K) (pv 2)) (pg_name (i := 3) sc_whole_by.nd rfl (Or.inl rfl))
  (pss_one (ps_set (i := 1) sc_whole_by.nd rfl (Or.inl rfl) (pe_op op_fdivW (pe_op op_mulW (pv 1) (pe_ix (k_ixT (K := K)) (pv 3) pe_int (fun _ _ => rfl))) (pe_c c_common_of hr (by decide) rfl (pa_cons (pv 1) (pa_cons (pe_ix (k_ixT (K := K)) (pv 3) pe_int (fun _ _ => rfl)) pa_nil)))))))))
  (pss_one (ps_ret (pv 1))))), fun ds Q h => ?_⟩
  · obtain ⟨_, _, _, rfl, _⟩ := h
    rfl
  · obtain ⟨n, g, B, rfl, hn, B0, hB, hd, q⟩ := h
    have bd : ∀ {a : Nat}, a ∣ B → IB 2000 (a : Int) := fun {a} h => by
      have := Nat.le_of_dvd B0 h
      show Int.natAbs (a : Int) < _
      rw [Int.natAbs_natCast]; omega
    walk_at "goK"
    refine ForB_map (xs := tabG n g) (f := fun r : List Rat => .list (r.map FD)) (fun i Γ => ∃ (x2 x3 : Sl), Γ = [.v .lf (TD (tabG n g)), .v .lf (.int (lcmT n g i : Nat)), x2, x3]) ⟨_, _, rfl⟩ ?_ ?_
    · rintro i row Γ hi ⟨x2, x3, rfl⟩
      have hin : i < n := by
        have := (List.getElem?_eq_some_iff.mp hi).1
        rwa [tabG_len] at this
      rw [tabG_at hin] at hi
      cases hi
      walk_at "goW"
      refine ForB_map (xs := rowG n (g i)) (f := FD) (fun j Γ => ∃ (x3 : Sl), Γ = [.v .lf (TD (tabG n g)), .v .lf (.int (lcmR g i (lcmT n g i) j : Nat)), .v .lf (FL (rowG n (g i))), x3]) ⟨_, rfl⟩ ?_ ?_
      · rintro j x Γ hj ⟨x3, rfl⟩
        have hjn : j < n := by
          have := (List.getElem?_eq_some_iff.mp hj).1
          unfold rowG at this
          rwa [List.length_map, List.length_range] at this
        have ex : x = g i j := by
          unfold rowG at hj
          rw [List.getElem?_map, List.getElem?_range hjn] at hj
          exact (Option.some.inj hj).symm
        subst ex
        have b1 := bd (lcmR_dvd (lcmT_dvd (n := n) hd i) (hd i) j)
        have b2 := bd (hd i j)
        have p1 : 0 < lcmR g i (lcmT n g i) j := lcmR_pos (lcmT_pos i) j
        have p2 := (g i j).den_pos
        walk_at "goW"
        refine OW_mul (mulW 2000 2000 b1 b2) ?_
        walk_at "goW"
        refine ⟨_, _, rfl, ?_⟩
        walk_at "goW"
        have gp : 0 < Int.gcd (lcmR g i (lcmT n g i) j : Nat) (g i j).den := Nat.gcd_pos_of_pos_left _ p1
        have gl : Int.gcd (lcmR g i (lcmT n g i) j : Nat) (g i j).den ≤ (g i j).den := Nat.le_of_dvd p2 (Nat.gcd_dvd_right _ _)
        have gb : IB 2000 ((Int.gcd (lcmR g i (lcmT n g i) j : Nat) (g i j).den : Nat) : Int) := by
          have : IB 2000 ((g i j).den : Int) := b2
          show Int.natAbs _ < _
          have h2 : Int.natAbs ((g i j).den : Int) < 2 ^ 2000 := this
          rw [Int.natAbs_natCast] at h2 ⊢
          omega
        refine OW_div (wide_div (b := 2000) (by omega) (by have h2 : Int.natAbs _ < _ := gb; rw [Int.natAbs_natCast] at h2; omega) (by decide) (by decide)) ?_
        rw [lcm_int]
        walk_at "goW"
        exact ⟨_, rfl⟩
      · rintro Γ ⟨x3, rfl⟩
        walk_at "goW"
        rw [show (rowG n (g i)).length = n by unfold rowG; rw [List.length_map, List.length_range]]
        exact ⟨_, _, rfl⟩
    · rintro Γ ⟨x2, x3, rfl⟩
      walk_at "goW"
      rw [show (tabG n g).length = n from tabG_len]
      exact q
end
local macro_rules | `(tactic| walk_at "O1") => `(tactic| first
  | (with_reducible refine' EW_ixFI ?h ?k ?c ?q; (case h => with_unfolding_all rfl); (case k => infer_instance); (case c => infer_instance))
  | (with_reducible refine' EW_cbF ?h ?k ?c ?q; (case h => with_unfolding_all rfl); (case k => infer_instance); (case c => infer_instance))
  | (with_reducible refine' EW_opFW ?h ?k ?c ?q; (case h => with_unfolding_all rfl); (case k => infer_instance); (case c => infer_instance))
  | (with_reducible refine' EW_appFI ?h ?k ?c ?q; (case h => with_unfolding_all rfl); (case k => infer_instance); (case c => infer_instance))
  | (with_reducible refine' GW_setFI ?h ?k ?c ?q; (case h => with_unfolding_all rfl); (case k => infer_instance); (case c => infer_instance))
  | fail)
local macro_rules | `(tactic| walk_at "O2") => `(tactic| first
  | (with_reducible refine' EW_fldI ?h ?k ?c ?q; (case h => with_unfolding_all rfl); (case k => infer_instance); (case c => infer_instance))
  | (with_reducible refine' OwnAt_i ?h ?q; (case h => with_unfolding_all rfl))
  | (with_reducible refine' FldS_put ?h ?k ?c ?l ?q; (case h => with_unfolding_all rfl); (case k => infer_instance); (case c => infer_instance); (case l => simp))
  | (with_reducible refine' FldS_putN ?h ?k ?c ?l ?q; (case h => with_unfolding_all rfl); (case k => infer_instance); (case c => infer_instance); (case l => simp))
  | (with_reducible refine' EW_methI ?h ?c ?q; (case h => with_unfolding_all rfl); (case c => infer_instance))
  | (with_reducible refine' ObB_i ?h ?q; (case h => with_unfolding_all rfl))
  | (with_reducible refine SWO_seq ?_)
  | (with_reducible refine' PutB_i ?c ?q; (case c => infer_instance))
  | with_reducible refine SWO_seq ?_
  | fail)
local macro_rules | `(tactic| walk_at "goO") => `(tactic| repeat (first | walk_at "O1" | walk_at "W" | walk_at "O2"))
local macro_rules | `(tactic| walk_at "goKO") => `(tactic| (walk_at "k"; walk_at "goO"))
local macro_rules | `(tactic| walk_at "goOF") => `(tactic| repeat (first | walk_at "O1" | walk_at "W" | walk_at "O2" | walk_at "fz"))
/-! ### the board of a table, led down -/
def cutRow (n : Nat) (p : Nat × Nat) : List Int := (cutsL (n - 1) 1).map fun c => if parts c p.1 p.2 then (1 : Int) else 0
def rowsC (n : Nat) : List (List Int) := (prsP n).map (cutRow n)
def sumC (n : Nat) (g : Nat → Nat → Rat) (p : Nat × Nat) : Int := (g p.1 p.2).num * ((lcmT n g n : Nat) / (g p.1 p.2).den : Int)
def sumsC (n : Nat) (g : Nat → Nat → Rat) : List Int := (prsP n).map (sumC n g)
def cutN (n : Nat) : Nat := (cutsL (n - 1) 1).length
def InvS (n : Nat) (g : Nat → Nat → Rat) (k : Nat) (B : BoS) : Prop := InvB (prsP n).length (cutN n + (prsP n).length) (cutN n) (colA (cutN n) (prsP n).length (rowsC n) (sumsC n g)) (cost1 (cutN n) (prsP n).length) k B
/-- tables of which a board is made -/
structure Brd (n : Nat) (g : Nat → Nat → Rat) : Prop where
  n2 : 2 ≤ n
  n7 : n ≤ 7
  den : ∃ B : Nat, 0 < B ∧ B < 2 ^ 600 ∧ ∀ i j, (g i j).den ∣ B
  pos : ∀ i j, 0 ≤ g i j
  num : ∀ i j, IB 600 (g i j).num
theorem cutN_len {n : Nat} (n7 : n ≤ 7) : cutN n ≤ 63 := by
  have := cutsL_len (n - 1) 1
  have : 2 ^ (n - 1) ≤ 2 ^ 6 := Nat.pow_le_pow_right (by decide) (by omega)
  unfold cutN
  omega
theorem prsP_len7 {n : Nat} (n7 : n ≤ 7) : (prsP n).length ≤ 21 := by
  have := prsP_len n
  have h : n * n ≤ 7 * n := Nat.mul_le_mul_right n n7
  omega
theorem prsP_pos {n : Nat} (n2 : 2 ≤ n) : 1 ≤ (prsP n).length := by
  have := prsP_len n
  have h : 2 * n ≤ n * n := Nat.mul_le_mul_right n n2
  omega
theorem rowsC_len {n : Nat} : (rowsC n).length = (prsP n).length := by unfold rowsC; rw [List.length_map]
theorem sumsC_len {n : Nat} {g : Nat → Nat → Rat} : (sumsC n g).length = (prsP n).length := by unfold sumsC; rw [List.length_map]
theorem rowsC_row {n : Nat} : ∀ r ∈ rowsC n, r.length = cutN n := fun r hr => by
  obtain ⟨p, _, rfl⟩ := List.mem_map.mp hr
  unfold cutRow cutN
  rw [List.length_map]
theorem rowsC_one {n : Nat} : ∀ r ∈ rowsC n, ∀ z ∈ r, z.natAbs ≤ 1 := fun r hr z hz => by
  obtain ⟨p, _, rfl⟩ := List.mem_map.mp hr
  obtain ⟨c, _, rfl⟩ := List.mem_map.mp hz
  split <;> decide
theorem prsP_lt {n : Nat} {p : Nat × Nat} (hp : p ∈ prsP n) : p.1 < p.2 ∧ p.2 < n := by
  obtain ⟨i, hi, h⟩ := List.mem_flatMap.mp hp
  obtain ⟨j, hj, rfl⟩ := List.mem_map.mp h
  have hi := List.mem_range.mp hi
  have hj := List.mem_range.mp hj
  exact ⟨by show i < i + 1 + j; omega, by show i + 1 + j < n; omega⟩
theorem Brd.by_ {n : Nat} {g : Nat → Nat → Rat} (h : Brd n g) : 0 < lcmT n g n ∧ lcmT n g n < 2 ^ 600 := by
  obtain ⟨B, B0, hB, hd⟩ := h.den
  exact ⟨lcmT_pos n, Nat.lt_of_le_of_lt (Nat.le_of_dvd B0 (lcmT_dvd hd n)) hB⟩
theorem Brd.sum {n : Nat} {g : Nat → Nat → Rat} (h : Brd n g) (p : Nat × Nat) : 0 ≤ sumC n g p ∧ (sumC n g p).natAbs < 2 ^ 1200 := by
  have hb := h.by_
  have hn := h.num p.1 p.2
  have p0 : 0 ≤ (g p.1 p.2).num := Rat.num_nonneg.mpr (h.pos _ _)
  have q0 : 0 ≤ ((lcmT n g n : Nat) : Int) / ((g p.1 p.2).den : Int) := Int.ediv_nonneg (by omega) (by omega)
  refine ⟨Int.mul_nonneg p0 q0, ?_⟩
  unfold sumC
  rw [Int.natAbs_mul]
  have h1 : (((lcmT n g n : Nat) : Int) / ((g p.1 p.2).den : Int)).natAbs ≤ lcmT n g n := by
    rw [← Int.natCast_ediv, Int.natAbs_natCast]
    exact Nat.div_le_self _ _
  have h2 : (g p.1 p.2).num.natAbs < 2 ^ 600 := hn
  have h3 : (2 : Nat) ^ 600 * 2 ^ 600 ≤ 2 ^ 1200 := by rw [← Nat.pow_add]; exact Nat.pow_le_pow_right (by decide) (by decide)
  exact Nat.lt_of_lt_of_le (Nat.mul_lt_mul'' h2 (Nat.lt_of_le_of_lt h1 hb.2)) h3
/-- it can be led down -/
theorem Brd.led {n : Nat} {g : Nat → Nat → Rat} (b : Brd n g) : LedI (cutN n) (cutN n + (prsP n).length + 1) (InvS n g) := by
  have l0 := rowsC_len (n := n)
  have lm := cutN_len b.n7
  have lp := prsP_len7 b.n7
  have LI := Led1 (m := cutN n) (rows := rowsC n) (sums := sumsC n g) (M := 2 ^ 1200) rowsC_row (by omega) (by omega) (Nat.one_le_two_pow) (Nat.pow_lt_pow_right (by decide) (by decide)) rowsC_one fun z hz => by
    obtain ⟨p, _, rfl⟩ := List.mem_map.mp hz
    exact Nat.le_of_lt (b.sum p).2
  rw [l0] at LI
  exact LI
section
variable {P : Program} {w : World} {K : PySem.W.Frag} {mg : Str → Option Value} {base : Heap} {C : Addr} [h1 : HasF K C "main_count"] [h2 : HasF K C "number_rows"] [h3 : HasF K C "goal_row"] [h4 : HasF K C "stand_columns"] [h5 : HasF K C "unit_number"]
def pReady : List PyData → (Flds → Prop) → Prop := fun ds Q => ∃ (n : Nat) (g : Nat → Nat → Rat), ds = [TD (tabG n g)] ∧ Brd n g ∧ ∀ k B, InvS n g k B → enterF B.goal (cutN n) = none → Q (bF (cutN n) B.rows (.li .lf) B.goal B.st B.u)
theorem ok_ready_board {f : Addr} {fd : FuncData} (F : Fun K "ready_board" "ready_board" s_ready_board f fd) (T : Tx K mg) (k_Board : C8.Mak P w K mg base 1 "Board" C (spO K C pInit) []) (m_Board_lead_down : C8.Met P w K mg base 3 C "lead_down" (spO K C pLead) []) (c_all_cuts : Cal P w K mg base 1 "all_cuts" (spV K pAllCuts) []) (c_pairs_of : Cal P w K mg base 1 "pairs_of" (spV K pPairsOf) []) (c_whole_by : Cal P w K mg base 2 "whole_by" (spV K pWholeBy) []) : FnOk P w K mg base CX0 4 f fd P_ready_board (spR K C pReady) := by
  refine okR F sc_ready_board (fun ds Q h => ?_) fun cdv A outer s H E hr => ⟨_, (pss_cons (ps_set (i := 1) sc_ready_board.nd rfl (Or.inl rfl) (pe_c c_all_cuts hr (by decide) rfl (pa_cons (pe_callB (k_len (K := K)) (by rfl) T.len_ (by decide +kernel) (pa_cons (pv 0) pa_nil)) pa_nil)))
  (pss_cons (ps_set (i := 2) sc_ready_board.nd rfl (Or.inl rfl) (pe_c c_whole_by hr (by decide) rfl (pa_cons (pv 0) pa_nil)))
  (pss_cons (ps_set (i := 3) sc_ready_board.nd rfl (Or.inl rfl) (pe_lst pa_nil))
  (pss_cons (ps_set (i := 4) sc_ready_board.nd rfl (Or.inl rfl) (pe_lst pa_nil))
  (pss_cons (ps_for PassesOwn.never rfl (k_piL (K := K) (pe_c c_pairs_of hr (by decide) rfl (pa_cons (pe_callB (k_len (K := K)) (by rfl) T.len_ (by decide +kernel) (pa_cons (pv 0) pa_nil)) pa_nil))) (k_tup (K := K) (n := 2) rfl (pgs_cons (pg_name (i := 5) sc_ready_board.nd rfl (Or.inr rfl)) (pgs_cons (pg_name (i := 6) sc_ready_board.nd rfl (Or.inr rfl)) pgs_nil)))
  (pss_cons (ps_expr (pe_bm PySem.F.plainAttrs_list PySem.F.slot_list_append PySem.F.type_list_append mt_append (pv 3) (pa_cons (pe_lc (own := [("cut", 7)]) (g := gName 7) (tt := tYes) rfl sc_ready_board.nd (k_piL (K := K) (pv 1)) (blkOk_by (own := [("cut", 7)]) (N := N_ready_board) (sc := defScope s_ready_board) (by decide +kernel)) (fun _ _ _ _ _ => (pg_name (i := 7) sc_ready_board.nd rfl (Or.inl rfl))) (fun _ _ _ _ _ => pts_nil) (fun _ _ _ _ _ => (pe_callTy cr_int1 (by rfl) T.int_ (by decide +kernel) (pa_cons (pe_cmpR op_ne (pe_cmpR (k_in (K := K)) (pv 5) (pv 7) rfl) (pe_cmpR (k_in (K := K)) (pv 6) (pv 7) rfl) (nomark _)) pa_nil)))) pa_nil)))
  (pss_one (ps_expr (pe_bm PySem.F.plainAttrs_list PySem.F.slot_list_append PySem.F.type_list_append mt_append (pv 4) (pa_cons (pe_op op_mulW (pe_ix (k_ixT (K := K)) (pe_ix (k_ixL (K := K)) (pe_ix (k_ixL (K := K)) (pv 0) (pv 5) (fun _ _ => rfl)) (pv 6) (fun _ _ => rfl)) pe_int (fun _ _ => rfl)) (pe_op op_fdivW (pv 2) (pe_ix (k_ixT (K := K)) (pe_ix (k_ixL (K := K)) (pe_ix (k_ixL (K := K)) (pv 0) (pv 5) (fun _ _ => rfl)) (pv 6) (fun _ _ => rfl)) pe_int (fun _ _ => rfl)))) pa_nil))))))
  (pss_cons (ps_set (i := 8) sc_ready_board.nd rfl (Or.inl rfl) (C8.pe_mk k_Board hr (by decide) rfl (pa_cons (pv 3) (pa_cons (pv 4) pa_nil))))
  (pss_cons (ps_expr (C8.pe_mt0 m_Board_lead_down hr (by decide) (pv 8)))
  (pss_one (ps_ret (pv 8)))))))))), fun ds Q h => ?_⟩
  · obtain ⟨_, _, rfl, _⟩ := h
    rfl
  · obtain ⟨n, g, rfl, b, q⟩ := h
    have n2 := b.n2
    have n7 := b.n7
    obtain ⟨B, B0, hB, hd⟩ := b.den
    walk_at "goKO"
    refine ⟨n, rfl, by omega, by omega, ?_⟩
    refine GW_nameF ?_
    walk_at "goO"
    refine ⟨n, g, B, rfl, by omega, B0, Nat.lt_of_lt_of_le hB (Nat.pow_le_pow_right (by decide) (by decide)), hd, ?_⟩
    walk_at "goO"
    refine ⟨n, rfl, by omega, ?_⟩
    walk_at "goO"
    have lp := prsP_len7 n7
    refine ForB_map (xs := prsP n) (f := GD) (fun k Γ => ∃ (x5 x6 : Sl), Γ = [.v .lf (TD (tabG n g)), .v .lf (LD (cutsL (n - 1) 1)), .v .lf (.int (lcmT n g n : Nat)), .v (.li .lf) (LD (((prsP n).take k).map (cutRow n))), .v (.li .lf) (IL (((prsP n).take k).map (sumC n g))), x5, x6, .un, .un]) ⟨_, _, rfl⟩ ?_ ?_
    · rintro k ⟨i, j⟩ Γ hk ⟨x5, x6, rfl⟩
      have hp := List.mem_of_getElem? hk
      have hkl : k < (prsP n).length := (List.getElem?_eq_some_iff.mp hk).1
      obtain ⟨ij, jn⟩ := prsP_lt hp
      dsimp only at ij jn
      have hi : i < n := by omega
      rw [take_snoc hk]
      rw [List.map_append, List.map_append, List.map_cons, List.map_cons, List.map_nil, List.map_nil]
      generalize hr : ((prsP n).take k).map (cutRow n) = rs
      generalize hs : ((prsP n).take k).map (sumC n g) = ss
      have lr : rs.length ≤ 21 := by rw [← hr, List.length_map, List.length_take]; omega
      have ls : ss.length ≤ 21 := by rw [← hs, List.length_map, List.length_take]; omega
      walk_at "goO"
      refine LcB_m .lf (fun c : List Int => .int (if parts c i j then 1 else 0)) (by have := cutN_len n7; unfold cutN at this; omega) (fun c hc => ?_) ?_
      · refine GC_name (by decide) ?_
        walk_at "goO"
        exact ⟨.inl rfl, rfl, rfl⟩
      rw [show (cutsL (n - 1) 1).map (fun c : List Int => PyData.int (if parts c i j then 1 else 0)) = (cutRow n (i, j)).map PyData.int by unfold cutRow; rw [List.map_map]; rfl]
      walk_at "goOF"
      have hb := b.by_
      have hd := hd i j
      have dp := (g i j).den_pos
      have dl : (g i j).den < 2 ^ 600 := Nat.lt_of_le_of_lt (Nat.le_of_dvd B0 hd) hB
      refine OW_div (wide_div (b := 600) (show (0 : Int) < ((g i j).den : Int) by omega) (by rw [Int.natAbs_natCast]; exact dl) (by decide) (by decide)) ?_
      walk_at "goO"
      have bq : IB 600 (((lcmT n g n : Nat) : Int) / ((g i j).den : Int)) := by
        show Int.natAbs _ < _
        rw [← Int.natCast_ediv, Int.natAbs_natCast]
        exact Nat.lt_of_le_of_lt (Nat.div_le_self _ _) hb.2
      refine OW_mul (mulW 600 600 (b.num i j) bq) ?_
      rw [show (g i j).num * (((lcmT n g n : Nat) : Int) / ((g i j).den : Int)) = sumC n g (i, j) from rfl]
      walk_at "goOF"
      exact ⟨.v .lf (.int (i : Nat)), .v .lf (.int (j : Nat)), rfl⟩
    · rintro Γ ⟨x5, x6, rfl⟩
      rw [List.take_length]
      refine SWO_seq ?_
      refine SW_make (show 8 < 9 by decide) ?_
      walk_at "goOF"
      have l0 := rowsC_len (n := n)
      have l1 := sumsC_len (n := n) (g := g)
      have lm := cutN_len n7
      have p1 := prsP_pos n2
      have hs : ∀ z ∈ sumsC n g, 0 ≤ z ∧ z.natAbs < 2 ^ 1200 := fun z hz => by
        obtain ⟨p, _, rfl⟩ := List.mem_map.mp hz
        exact b.sum p
      refine ⟨rfl, cutN n, rowsC n, sumsC n g, rfl, rfl, by omega, by omega, by omega, by omega, rowsC_row, rfl, fun w vs lv => ?_⟩
      walk_at "goO"
      have LI := Led1 (m := cutN n) (rows := rowsC n) (sums := sumsC n g) (M := 2 ^ 1200) rowsC_row (by omega) (by omega) (Nat.one_le_two_pow) (Nat.pow_lt_pow_right (by decide) (by decide)) rowsC_one fun z hz => Nat.le_of_lt (hs z hz).2
      have I0 := Inv0 (m := cutN n) (rows := rowsC n) (sums := sumsC n g) (by omega) rowsC_row (fun z hz => (hs z hz).1) (by omega)
      refine ⟨cutN n, cutN n + (rowsC n).length + 1, board0 (cutN n) (rowsC n) (sumsC n g), _, _, rfl, rfl, by omega, by omega, LI, I0, fun k B hk he vs2 lv2 => ?_⟩
      rw [l0] at hk
      walk_at "goO"
      exact SWO_ret rfl (q k B hk he)
end
local macro_rules | `(tactic| walk_at "O1") => `(tactic| first
  | (with_reducible refine' EW_ixFI ?h ?k ?c ?q; (case h => with_unfolding_all rfl); (case k => infer_instance); (case c => infer_instance))
  | (with_reducible refine' EW_cbF ?h ?k ?c ?q; (case h => with_unfolding_all rfl); (case k => infer_instance); (case c => infer_instance))
  | (with_reducible refine' EW_opFW ?h ?k ?c ?q; (case h => with_unfolding_all rfl); (case k => infer_instance); (case c => infer_instance))
  | (with_reducible refine' EW_appFI ?h ?k ?c ?q; (case h => with_unfolding_all rfl); (case k => infer_instance); (case c => infer_instance))
  | (with_reducible refine' GW_setFI ?h ?k ?c ?q; (case h => with_unfolding_all rfl); (case k => infer_instance); (case c => infer_instance))
  | fail)
local macro_rules | `(tactic| walk_at "O2") => `(tactic| first
  | (with_reducible refine' EW_fldI ?h ?k ?c ?q; (case h => with_unfolding_all rfl); (case k => infer_instance); (case c => infer_instance))
  | (with_reducible refine' OwnAt_i ?h ?q; (case h => with_unfolding_all rfl))
  | (with_reducible refine' FldS_put ?h ?k ?c ?l ?q; (case h => with_unfolding_all rfl); (case k => infer_instance); (case c => infer_instance); (case l => simp))
  | (with_reducible refine' FldS_putN ?h ?k ?c ?l ?q; (case h => with_unfolding_all rfl); (case k => infer_instance); (case c => infer_instance); (case l => simp))
  | (with_reducible refine' EW_methI ?h ?c ?q; (case h => with_unfolding_all rfl); (case c => infer_instance))
  | (with_reducible refine' ObB_i ?h ?q; (case h => with_unfolding_all rfl))
  | (with_reducible refine SWO_seq ?_)
  | (with_reducible refine' PutB_i ?c ?q; (case c => infer_instance))
  | with_reducible refine SWO_seq ?_
  | fail)
local macro_rules | `(tactic| walk_at "goO") => `(tactic| repeat (first | walk_at "O1" | walk_at "W" | walk_at "O2"))
local macro_rules | `(tactic| walk_at "goKO") => `(tactic| (walk_at "k"; walk_at "goO"))
local macro_rules | `(tactic| walk_at "goOF") => `(tactic| repeat (first | walk_at "O1" | walk_at "W" | walk_at "O2" | walk_at "fz"))
/-! ### the cuts that a board tells -/
/-- what is told of a board: a cut for each row that stands for one and has something -/
def toldC (n by_ : Nat) (B : BoS) (k : Nat) : List (List Int × Rat) := (List.range k).flatMap fun i => if B.st.getD i 0 < (cutN n : Int) ∧ 0 < (B.rows.getD i []).getD ((B.rows.getD i []).length - 1) 0 then [((cutsL (n - 1) 1).getD (B.st.getD i 0).toNat [], Rat.divInt ((B.rows.getD i []).getD ((B.rows.getD i []).length - 1) 0) (B.u * by_))] else []
theorem toldC_succ {n by_ k : Nat} {B : BoS} : toldC n by_ B (k + 1) = toldC n by_ B k ++ if B.st.getD k 0 < (cutN n : Int) ∧ 0 < (B.rows.getD k []).getD ((B.rows.getD k []).length - 1) 0 then [((cutsL (n - 1) 1).getD (B.st.getD k 0).toNat [], Rat.divInt ((B.rows.getD k []).getD ((B.rows.getD k []).length - 1) 0) (B.u * by_))] else [] := by
  unfold toldC
  rw [List.range_succ, List.flatMap_append, List.flatMap_cons, List.flatMap_nil, List.append_nil]
theorem toldC_len {n by_ : Nat} {B : BoS} : ∀ k, (toldC n by_ B k).length ≤ k
  | 0 => by simp [toldC]
  | k + 1 => by
    rw [toldC_succ, List.length_append]
    have := toldC_len (n := n) (by_ := by_) (B := B) k
    split <;> simp <;> omega
section
variable {P : Program} {w : World} {K : PySem.W.Frag} {mg : Str → Option Value} {base : Heap} {C : Addr} [h1 : HasF K C "main_count"] [h2 : HasF K C "number_rows"] [h3 : HasF K C "goal_row"] [h4 : HasF K C "stand_columns"] [h5 : HasF K C "unit_number"]
def pCutsOn : PyData → Flds → (Own → PyData → Prop) → Prop := fun d fs Q => ∃ (n : Nat) (g : Nat → Nat → Rat) (og : Own) (m : Int) (c : Nat) (B : BoS), d = TD (tabG n g) ∧ fs = bF m B.rows og B.goal B.st B.u ∧ Brd n g ∧ B.Ok c ∧ 1 ≤ c ∧ (∀ z ∈ B.st, 0 ≤ z) ∧ (toldC n (lcmT n g n) B B.rows.length).Pairwise (fun a b => a.1 ≠ b.1) ∧ 
  ∀ ws, List.Perm ws (toldC n (lcmT n g n) B B.rows.length) → ws.Pairwise (fun a b => a.1 < b.1) → Q (.li .lf) (WD ws)
theorem ok_cuts_on {f : Addr} {fd : FuncData} (F : Fun K "cuts_on" "cuts_on" s_cuts_on f fd) (T : Tx K mg) (c_fraction : Cal P w K mg base 2 "fraction" (spV K pFraction) []) (c_all_cuts : Cal P w K mg base 1 "all_cuts" (spV K pAllCuts) []) (c_whole_by : Cal P w K mg base 2 "whole_by" (spV K pWholeBy) []) : FnOk P w K mg base CX0 3 f fd P_cuts_on (spA2 K C pCutsOn) := by
  refine okA2 F sc_cuts_on rfl fun cdv A outer s H E hr => ⟨_, (pss_cons (ps_set (i := 2) sc_cuts_on.nd rfl (Or.inl rfl) (pe_c c_all_cuts hr (by decide) rfl (pa_cons (pe_callB (k_len (K := K)) (by rfl) T.len_ (by decide +kernel) (pa_cons (pv 0) pa_nil)) pa_nil)))
  (pss_cons (ps_set (i := 3) sc_cuts_on.nd rfl (Or.inl rfl) (pe_c c_whole_by hr (by decide) rfl (pa_cons (pv 0) pa_nil)))
  (pss_cons (ps_set (i := 4) sc_cuts_on.nd rfl (Or.inl rfl) (pe_lst pa_nil))
  (pss_cons (ps_for PassesOwn.never rfl (k_zip (K := K) (by rfl) T.zip_ (pa_cons (k_fld (K := K) (pv 1) rfl) (pa_cons (k_fld (K := K) (pv 1) rfl) pa_nil))) (k_tup (K := K) (n := 2) rfl (pgs_cons (pg_name (i := 5) sc_cuts_on.nd rfl (Or.inl rfl)) (pgs_cons (pg_name (i := 6) sc_cuts_on.nd rfl (Or.inl rfl)) pgs_nil)))
  (pss_one (ps_if (PW.pt (pw_and (pt_cmpR op_lt (pv 5) (pe_callB (k_len (K := K)) (by rfl) T.len_ (by decide +kernel) (pa_cons (pv 2) pa_nil)) (nomark _)) (pw_and1 (pt_cmpR op_gt (pe_ix (k_ixL (K := K)) (pv 6) (pe_un un_neg pe_int) (fun _ _ => rfl)) pe_int (nomark _)))))
  (pss_one (ps_expr (pe_bm PySem.F.plainAttrs_list PySem.F.slot_list_append PySem.F.type_list_append mt_append (pv 4) (pa_cons (pe_tup (pa_cons (pe_ix (k_ixL (K := K)) (pv 2) (pv 5) (fun _ _ => rfl)) (pa_cons (pe_c c_fraction hr (by decide) rfl (pa_cons (pe_ix (k_ixL (K := K)) (pv 6) (pe_un un_neg pe_int) (fun _ _ => rfl)) (pa_cons (pe_op op_mulW (k_fld (K := K) (pv 1) rfl) (pv 3)) pa_nil))) pa_nil))) pa_nil))))
  pss_nil)))
  (pss_one (ps_ret (pe_callB (k_sortedD (K := K) hr.units) (by rfl) T.sorted_ (by decide +kernel) (pa_cons (pv 4) pa_nil)))))))), fun w vs d fs Q lv h => ?_⟩
  obtain ⟨n, g, og, m, c, B, rfl, rfl, b, ok, c1, s0, nd, q⟩ := h
  have n2 := b.n2
  have n7 := b.n7
  obtain ⟨BB, B0, hB, hd⟩ := b.den
  walk_at "goKO"
  refine ⟨n, rfl, by omega, by omega, ?_⟩
  refine GW_nameF ?_
  walk_at "goO"
  refine ⟨n, g, BB, rfl, by omega, B0, Nat.lt_of_lt_of_le hB (Nat.pow_le_pow_right (by decide) (by decide)), hd, ?_⟩
  iterate 8 (first | walk_at "O1" | walk_at "W" | walk_at "O2")
  have hr := ok.w.le
  have hst := ok.st
  refine SW_forZF (f := "stand_columns") (g := "number_rows") (fs := bF m B.rows og B.goal B.st B.u) (vs := vs) rfl (by rw [List.length_map, List.length_map]; exact hst.symm) (fun k Γ => ∃ (x5 x6 : Sl), Γ = [.v .lf (TD (tabG n g)), .ob false w C (bF m B.rows og B.goal B.st B.u) vs, .v .lf (LD (cutsL (n - 1) 1)), .v .lf (.int (lcmT n g n : Nat)), .v (.li .lf) (WD (toldC n (lcmT n g n) B k)), x5, x6]) ⟨_, _, rfl⟩ ?_ ?_ ?_
  · rintro i Γ ⟨x5, x6, rfl⟩
    rfl
  · rintro i x y Γ hx hy ⟨x5, x6, rfl⟩
    rw [List.getElem?_map] at hx hy
    obtain ⟨z, hz, rfl⟩ := Option.map_eq_some_iff.mp hx
    obtain ⟨r, hr', rfl⟩ := Option.map_eq_some_iff.mp hy
    have hi : i < B.rows.length := (List.getElem?_eq_some_iff.mp hr').1
    have ez : B.st.getD i 0 = z := by rw [List.getD_eq_getElem?_getD, hz]; rfl
    have er : B.rows.getD i [] = r := by rw [List.getD_eq_getElem?_getD, hr']; rfl
    have z0 := s0 z (List.mem_of_getElem? hz)
    obtain ⟨lr, br⟩ := ok.w.row r (List.mem_of_getElem? hr')
    rw [toldC_succ, ez, er]
    have lt := toldC_len (n := n) (by_ := lcmT n g n) (B := B) i
    generalize toldC n (lcmT n g n) B i = ws at lt ⊢
    obtain ⟨zn, rfl⟩ : ∃ zn : Nat, z = (zn : Int) := ⟨z.toNat, by omega⟩
    have hb := b.by_
    generalize hT : (if (zn : Int) < (cutN n : Int) ∧ 0 < r.getD (r.length - 1) 0 then [((cutsL (n - 1) 1).getD (zn : Int).toNat [], Rat.divInt (r.getD (r.length - 1) 0) (B.u * (lcmT n g n : Nat)))] else []) = tl
    walk_at "goO"
    refine ifD (fun h => ?_) (fun h => ?_)
    · have hz : zn < (cutsL (n - 1) 1).length := by omega
      walk_at "goO"
      refine ixB_last (by omega) (.inl rfl) ?_
      walk_at "goO"
      refine ifD (fun h2 => ?_) (fun h2 => ?_)
      · rw [if_pos ⟨show (zn : Int) < (cutN n : Int) by unfold cutN; omega, h2⟩] at hT
        subst hT
        walk_at "goO"
        refine ixB_last (by omega) (.inl rfl) ?_
        walk_at "goO"
        have bby : IB 600 ((lcmT n g n : Nat) : Int) := by
          show Int.natAbs _ < _
          rw [Int.natAbs_natCast]; exact hb.2
        refine OW_mul (mulW 3000 600 ok.ub bby) ?_
        walk_at "goO"
        have up := Int.mul_pos ok.u0 (show (0 : Int) < ((lcmT n g n : Nat) : Int) by omega)
        refine ⟨_, _, rfl, by omega, (IB.mul ok.ub bby).mono (by decide), ?_⟩
        walk_at "goOF"
        refine ⟨.v .lf (.int (zn : Nat)), .v .lf (IL r), ?_⟩
        rw [show ∀ X : List Int × Rat, WD (ws ++ [X]) = PyData.list (ws.map CD ++ [CD X]) from fun X => by
          show PyData.list ((ws ++ [X]).map CD) = _
          rw [List.map_append]; rfl]
        rfl
      · rw [if_neg (fun e => h2 e.2)] at hT
        subst hT
        rw [List.append_nil]
        walk_at "goO"
        exact ⟨.v .lf (.int (zn : Nat)), .v .lf (IL r), rfl⟩
    · rw [if_neg (fun e => h (by have := e.1; unfold cutN at this; omega))] at hT
      subst hT
      rw [List.append_nil]
      walk_at "goO"
      exact ⟨.v .lf (.int (zn : Nat)), .v .lf (IL r), rfl⟩
  · rintro Γ ⟨x5, x6, rfl⟩
    rw [List.length_map, hst]
    walk_at "goOF"
    refine CW_sortD (wd_alike _) (wd_sortable _) (fun d hd => by obtain ⟨u, _, rfl⟩ := List.mem_map.mp hd; exact Nat.le_trans Sh.cd.2 (by decide)) fun ds' hp hs => ?_
    obtain ⟨us, rfl, hp'⟩ := map_perm_inv CD hp
    rw [List.pairwise_map] at hs
    have hs' : us.Pairwise fun a b => a.1 ≤ b.1 := hs.imp fun h => dl_cd h
    have nv' : us.Pairwise fun a b => a.1 ≠ b.1 := (hp'.pairwise_iff fun h e => h e.symm).mpr nd
    exact ⟨rfl, q us hp' ((hs'.and nv').imp fun ⟨x, y⟩ => Std.lt_of_le_of_ne x y)⟩
end
local macro_rules | `(tactic| walk_at "O1") => `(tactic| first
  | (with_reducible refine' EW_ixFI ?h ?k ?c ?q; (case h => with_unfolding_all rfl); (case k => infer_instance); (case c => infer_instance))
  | (with_reducible refine' EW_cbF ?h ?k ?c ?q; (case h => with_unfolding_all rfl); (case k => infer_instance); (case c => infer_instance))
  | (with_reducible refine' EW_opFW ?h ?k ?c ?q; (case h => with_unfolding_all rfl); (case k => infer_instance); (case c => infer_instance))
  | (with_reducible refine' EW_appFI ?h ?k ?c ?q; (case h => with_unfolding_all rfl); (case k => infer_instance); (case c => infer_instance))
  | (with_reducible refine' GW_setFI ?h ?k ?c ?q; (case h => with_unfolding_all rfl); (case k => infer_instance); (case c => infer_instance))
  | fail)
local macro_rules | `(tactic| walk_at "O2") => `(tactic| first
  | (with_reducible refine' EW_fldI ?h ?k ?c ?q; (case h => with_unfolding_all rfl); (case k => infer_instance); (case c => infer_instance))
  | (with_reducible refine' OwnAt_i ?h ?q; (case h => with_unfolding_all rfl))
  | (with_reducible refine' FldS_put ?h ?k ?c ?l ?q; (case h => with_unfolding_all rfl); (case k => infer_instance); (case c => infer_instance); (case l => simp))
  | (with_reducible refine' FldS_putN ?h ?k ?c ?l ?q; (case h => with_unfolding_all rfl); (case k => infer_instance); (case c => infer_instance); (case l => simp))
  | (with_reducible refine' EW_methI ?h ?c ?q; (case h => with_unfolding_all rfl); (case c => infer_instance))
  | (with_reducible refine' ObB_i ?h ?q; (case h => with_unfolding_all rfl))
  | (with_reducible refine SWO_seq ?_)
  | (with_reducible refine' PutB_i ?c ?q; (case c => infer_instance))
  | with_reducible refine SWO_seq ?_
  | fail)
local macro_rules | `(tactic| walk_at "goO") => `(tactic| repeat (first | walk_at "O1" | walk_at "W" | walk_at "O2"))
local macro_rules | `(tactic| walk_at "goKO") => `(tactic| (walk_at "k"; walk_at "goO"))
local macro_rules | `(tactic| walk_at "goOF") => `(tactic| repeat (first | walk_at "O1" | walk_at "W" | walk_at "O2" | walk_at "fz"))
/-! ### what sum_told tells -/
theorem InvS.fin {n : Nat} {g : Nat → Nat → Rat} {k : Nat} {B : BoS} (I : InvS n g k B) (he : enterF B.goal (cutN n) = none) : ∃ bs, Good (prsP n).length (cutN n + (prsP n).length) (colA (cutN n) (prsP n).length (rowsC n) (sumsC n g)) bs ∧ Rep (prsP n).length (cutN n + (prsP n).length) (colA (cutN n) (prsP n).length (rowsC n) (sumsC n g)) (cost1 (cutN n) (prsP n).length) bs B ∧ ∀ t, t < cutN n → 0 ≤ Gt (prsP n).length (colA (cutN n) (prsP n).length (rowsC n) (sumsC n g)) (cost1 (cutN n) (prsP n).length) bs t := Inv_end I (Nat.le_add_right _ _) he
theorem toldC_mem {n by_ k : Nat} {B : BoS} {u : List Int × Rat} : u ∈ toldC n by_ B k ↔ ∃ i, i < k ∧ B.st.getD i 0 < (cutN n : Int) ∧ 0 < (B.rows.getD i []).getD ((B.rows.getD i []).length - 1) 0 ∧ u = ((cutsL (n - 1) 1).getD (B.st.getD i 0).toNat [], Rat.divInt ((B.rows.getD i []).getD ((B.rows.getD i []).length - 1) 0) (B.u * by_)) := by
  unfold toldC
  rw [List.mem_flatMap]
  constructor
  · rintro ⟨i, hi, h⟩
    have hi := List.mem_range.mp hi
    split at h
    · rename_i c
      exact ⟨i, hi, c.1, c.2, List.mem_singleton.mp h⟩
    · cases h
  · rintro ⟨i, hi, c1, c2, rfl⟩
    refine ⟨i, List.mem_range.mpr hi, ?_⟩
    rw [if_pos ⟨c1, c2⟩]
    exact List.mem_singleton.mpr rfl
theorem getD_inj {α : Type} {xs : List α} {d : α} (nd : xs.Nodup) {i j : Nat} (hi : i < xs.length) (hj : j < xs.length) (e : xs.getD i d = xs.getD j d) : i = j := by
  rw [List.getD_eq_getElem?_getD, List.getD_eq_getElem?_getD, List.getElem?_eq_getElem hi, List.getElem?_eq_getElem hj] at e
  exact (List.getElem_inj nd).mp e
theorem toldC_ne {n by_ : Nat} {B : BoS} (s0 : ∀ i, i < B.rows.length → 0 ≤ B.st.getD i 0) (inj : ∀ i j, i < B.rows.length → j < B.rows.length → B.st.getD i 0 = B.st.getD j 0 → i = j) : ∀ k, k ≤ B.rows.length → (toldC n by_ B k).Pairwise fun a b => a.1 ≠ b.1
  | 0, _ => by simp [toldC]
  | k + 1, hk => by
    rw [toldC_succ, List.pairwise_append]
    refine ⟨toldC_ne s0 inj k (by omega), ?_, fun a ha b hb => ?_⟩
    · split
      · exact List.pairwise_singleton _ _
      · exact .nil
    · obtain ⟨i, hi, c1, c2, rfl⟩ := toldC_mem.mp ha
      split at hb
      · rename_i c
        rw [List.mem_singleton.mp hb]
        intro e
        have p1 := s0 i (by omega)
        have p2 := s0 k (by omega)
        have := getD_inj (cutsL_nodup (n - 1) 1) (show (B.st.getD i 0).toNat < (cutsL (n - 1) 1).length by unfold cutN at c1; omega) (show (B.st.getD k 0).toNat < (cutsL (n - 1) 1).length by have := c.1; unfold cutN at this; omega) e
        have := inj i k (by omega) (by omega) (by omega)
        omega
      · cases hb
local macro_rules | `(tactic| walk_at "R1") => `(tactic| first
  | (with_reducible refine' SW_callR ?hn ?q; (case hn => exact (by decide : 1 < 4)))
  | fail)
local macro_rules | `(tactic| walk_at "goR") => `(tactic| repeat (first | walk_at "R1" | walk_at "O1" | walk_at "W" | walk_at "O2"))
theorem cutG_mid {xs : List Int} {m k : Nat} (h : xs.length = m + k + 1) : cutG xs (some (m : Int)) (some (-1)) = (List.range k).map fun c => xs.getD (m + c) 0 := by
  have e : cutG xs (some (m : Int)) (some (-1)) = (xs.drop m).take k := by
    unfold cutG
    have e2 : HT.sIx xs.length xs.length (some (-1)) = xs.length - 1 := by
      unfold HT.sIx
      simp
      omega
    rw [e2, HT.sIx_nat, Nat.min_eq_left (by omega), h, show m + k + 1 - 1 - m = k by omega]
  rw [e]
  refine List.ext_getElem? fun i => ?_
  rw [List.getElem?_map]
  by_cases c : i < k
  · rw [List.getElem?_take_of_lt c, List.getElem?_drop, List.getElem?_range c, List.getElem?_eq_getElem (by omega)]
    show _ = some (xs.getD (m + i) 0)
    rw [List.getD_eq_getElem?_getD, List.getElem?_eq_getElem (by omega)]
    rfl
  · rw [List.getElem?_eq_none (by rw [List.length_take, List.length_drop]; omega), List.getElem?_eq_none (by rw [List.length_range]; omega)]
    rfl
section
variable {P : Program} {w : World} {K : PySem.W.Frag} {mg : Str → Option Value} {base : Heap} {C : Addr} [h1 : HasF K C "main_count"] [h2 : HasF K C "number_rows"] [h3 : HasF K C "goal_row"] [h4 : HasF K C "stand_columns"] [h5 : HasF K C "unit_number"]
def barsC (n : Nat) (B : BoS) : List Rat := (List.range (prsP n).length).map fun c => Rat.divInt (B.goal.getD (cutN n + c) 0 - B.u) B.u
def pSumTold : Pre := fun ds Q => ∃ (n : Nat) (g : Nat → Nat → Rat), ds = [TD (tabG n g)] ∧ 1 ≤ n ∧ n ≤ 7 ∧ (2 ≤ n → Brd n g) ∧ (n = 1 → Q (.t2 .lf (.li .lf)) (.tuple [.str "cuts", WD []])) ∧ ∀ k B, 2 ≤ n → InvS n g k B → enterF B.goal (cutN n) = none →
  (B.goal.getD (cutN n + (prsP n).length) 0 = 0 → ∀ ws, List.Perm ws (toldC n (lcmT n g n) B B.rows.length) → ws.Pairwise (fun a b => a.1 < b.1) → Q (.t2 .lf (.li .lf)) (.tuple [.str "cuts", WD ws])) ∧
  (B.goal.getD (cutN n + (prsP n).length) 0 ≠ 0 → Q (.t2 .lf (.li .lf)) (.tuple [.str "bars", FL (barsC n B)]))
theorem ok_sum_told {f : Addr} {fd : FuncData} (F : Fun K "sum_told" "sum_told" s_sum_told f fd) (T : Tx K mg) (c_fraction : Cal P w K mg base 2 "fraction" (spV K pFraction) []) (c_ready_board : Cal P w K mg base 4 "ready_board" (spR K C pReady) []) (c_cuts_on : Cal P w K mg base 3 "cuts_on" (spA2 K C pCutsOn) []) : FnOk P w K mg base CX0 5 f fd P_sum_told (spV K pSumTold) := by
  refine okV F sc_sum_told (fun ds Q h => ?_) fun cdv A outer s H E hr => ⟨_, (pss_cons (ps_if (pt_cmpR op_gt (pe_callB (k_len (K := K)) (by rfl) T.len_ (by decide +kernel) (pa_cons (pv 0) pa_nil)) pe_int (nomark _))
  (pss_one ps_never)
  pss_nil)
  (pss_cons (ps_if (pt_cmpR op_eq (pe_callB (k_len (K := K)) (by rfl) T.len_ (by decide +kernel) (pa_cons (pv 0) pa_nil)) pe_int (nomark _))
  (pss_one (ps_ret (pe_tup (pa_cons pe_str (pa_cons (pe_lst pa_nil) pa_nil)))))
  pss_nil)
  (pss_cons (ps_set (i := 1) sc_sum_told.nd rfl (Or.inl rfl) (pe_c c_ready_board hr (by decide) rfl (pa_cons (pv 0) pa_nil)))
  (pss_cons (ps_if (pt_cmpR op_eq (pe_ix (k_ixL (K := K)) (k_fld (K := K) (pv 1) rfl) (pe_un un_neg pe_int) (fun _ _ => rfl)) pe_int (nomark _))
  (pss_one (ps_ret (pe_tup (pa_cons pe_str (pa_cons (pe_c c_cuts_on hr (by decide) rfl (pa_cons (pv 0) (pa_cons (pv 1) pa_nil))) pa_nil)))))
  pss_nil)
  (pss_cons (ps_set (i := 2) sc_sum_told.nd rfl (Or.inr rfl) (k_fld (K := K) (pv 1) rfl))
  (pss_one (ps_ret (pe_tup (pa_cons pe_str (pa_cons (pe_lc (own := [("one", 3)]) (g := gName 3) (tt := tYes) rfl sc_sum_told.nd (k_piL (K := K) (pe_slice (k_slL (K := K)) (k_fld (K := K) (pv 1) rfl) (po_some (k_fld (K := K) (pv 1) rfl)) (po_some (pe_un un_neg pe_int)))) (blkOk_by (own := [("one", 3)]) (N := N_sum_told) (sc := defScope s_sum_told) (by decide +kernel)) (fun _ _ _ _ _ => (pg_name (i := 3) sc_sum_told.nd rfl (Or.inl rfl))) (fun _ _ _ _ _ => pts_nil) (fun _ _ _ _ _ => (pe_c c_fraction hr (by decide) rfl (pa_cons (pe_op op_sub (pv 3) (pv 2)) (pa_cons (pv 2) pa_nil))))) pa_nil)))))))))), fun ds Q h => ?_⟩
  · obtain ⟨_, _, rfl, _⟩ := h
    rfl
  · obtain ⟨n, g, rfl, n1, n7, br, q1, q⟩ := h
    walk_at "goKO"
    refine ifD (fun h => absurd h (by omega)) (fun _ => ?_)
    walk_at "goO"
    refine ifD (fun h => ?_) (fun h => ?_)
    · walk_at "goOF"
      exact q1 (by omega)
    · have b := br (by omega)
      iterate 1 (first | walk_at "O1" | walk_at "W" | walk_at "O2")
      iterate 1 (first | walk_at "O1" | walk_at "W" | walk_at "O2")
      refine SW_callR (show 1 < 4 by decide) ?_
      walk_at "goO"
      refine ⟨rfl, n, g, rfl, b, fun k B I he w vs lv => ?_⟩
      obtain ⟨bs, G, R, ge⟩ := I.fin he
      have l1 := prsP_len7 n7
      have l2 := cutN_len n7
      have gl := R.gl
      obtain ⟨qc, qb⟩ := q k B (by omega) I he
      walk_at "goO"
      refine ixB_last (by omega) (.inr rfl) ?_
      rw [gl, show cutN n + (prsP n).length + 1 - 1 = cutN n + (prsP n).length by omega]
      walk_at "goO"
      refine ifD (fun h0 => ?_) (fun h0 => ?_)
      · have qc := qc h0
        iterate 3 (first | walk_at "O1" | walk_at "W" | walk_at "O2")
        iterate 2 (first | walk_at "O1" | walk_at "W" | walk_at "O2")
        refine EW_callA2 ?_
        walk_at "goO"
        have s0 : ∀ i, i < B.rows.length → 0 ≤ B.st.getD i 0 := fun i hi => by
          rw [R.st i (by rw [← R.rl]; exact hi)]; omega
        have ok : B.Ok (cutN n + (prsP n).length + 1) := b.led.ok k B I
        refine ⟨w, _, vs, rfl, n, g, .li .lf, cutN n, cutN n + (prsP n).length + 1, B, rfl, rfl, b, ok, by omega, fun z hz => ?_, toldC_ne s0 (fun i j hi hj e => ?_) _ (Nat.le_refl _), fun ws p1 p2 => ?_⟩
        · obtain ⟨i, hi, e⟩ := mem_getD hz
          rw [e]
          exact s0 i (by rw [R.rl, ← R.sl]; exact hi)
        · rw [R.rl] at hi hj
          rw [R.st i hi, R.st j hj] at e
          exact G.inj hi hj (by omega)
        · walk_at "goO"
          exact qc ws p1 p2
      · have qb := qb h0
        walk_at "goO"
        refine EW_fldFI (i := 2) (s := .li .lf) (d := IL B.goal) (fs := bF (cutN n) B.rows (.li .lf) B.goal B.st B.u) (vs := vs) (w := w) (b := false) (C := C) rfl inferInstance inferInstance inferInstance ?_
        walk_at "goO"
        have ok : B.Ok (cutN n + (prsP n).length + 1) := b.led.ok k B I
        rw [cutG_map, cutG_mid gl, show ((List.range (prsP n).length).map fun c => B.goal.getD (cutN n + c) 0).map PyData.int = (List.range (prsP n).length).map (fun c : Nat => PyData.int (B.goal.getD (cutN n + c) 0)) by rw [List.map_map]; rfl]
        refine LcB_m .lf (fun c : Nat => FD (Rat.divInt (B.goal.getD (cutN n + c) 0 - B.u) B.u)) (by rw [List.length_range]; omega) (fun c hc => ?_) ?_
        · have hc := List.mem_range.mp hc
          refine GC_name (by decide) ?_
          walk_at "goO"
          refine ⟨_, _, rfl, by have := ok.u0; omega, ok.ub.mono (by decide), ?_⟩
          exact ⟨.inl rfl, rfl, rfl⟩
        rw [show (List.range (prsP n).length).map (fun c : Nat => FD (Rat.divInt (B.goal.getD (cutN n + c) 0 - B.u) B.u)) = (barsC n B).map FD by unfold barsC; rw [List.map_map]; rfl]
        walk_at "goO"
        exact qb
end
section
variable {P : Program} {w : World} {K : PySem.W.Frag} {mg : Str → Option Value} {base : Heap}
def pCellA : PreS := fun ns ds Q => ∃ k : Int, ds = [.int k] ∧ 0 ≤ k ∧ ∀ z, Q .lf (.int z)
theorem ok_l_cell_at {f : Addr} {fd : FuncData} (F : Fun K "_law_cell_at" "_law_cell_at" s_l_cell_at f fd) (T : Tx K mg) : FnOk P w K mg base CX0 1 f fd P_l_cell_at (spS K pCellA) := by
  refine okS F sc_l_cell_at (fun ns ds Q h => ?_) fun cdv A outer s H E hr => ⟨_, (pss_cons (ps_if (pt_cmpR op_lt (pv 1) (pe_callB (k_len (K := K)) (by rfl) T.len_ (by decide +kernel) (pa_cons (pv 0) pa_nil)) (nomark _))
  (pss_one (ps_ret (pe_ix (k_ixL (K := K)) (pv 0) (pv 1) (fun _ _ => rfl))))
  pss_nil)
  (pss_one (ps_ret pe_int))), fun a ns ds Q h => ?_⟩
  · obtain ⟨a, rfl, _⟩ := h
    rfl
  · obtain ⟨k, rfl, h0, q⟩ := h
    walk_at "goK"
    refine ifD (fun h => ?_) (fun h => ?_)
    · walk_at "goW"
      exact q _
    · walk_at "goW"
      exact q 0
def pNumsS : Pre := fun ds Q => ∃ (c : Int) (n : Nat), ds = [.int c, .int n] ∧ n ≤ 1000 ∧ ∀ zs : List Int, zs.length = n → (∀ z ∈ zs, 0 ≤ z ∧ z < 720720) → Q (.li .lf) (IL zs)
theorem ok_l_numbers {f : Addr} {fd : FuncData} (F : Fun K "_law_numbers" "_law_numbers" s_l_numbers f fd) (T : Tx K mg) : FnOk P w K mg base CX0 1 f fd P_l_numbers (spV K pNumsS) := by
  refine okV F sc_l_numbers (fun ds Q h => ?_) fun cdv A outer s H E hr => ⟨_, (pss_cons (ps_set (i := 2) sc_l_numbers.nd rfl (Or.inl rfl) (pe_lst pa_nil))
  (pss_cons (ps_set (i := 3) sc_l_numbers.nd rfl (Or.inl rfl) (pv 0))
  (pss_cons (ps_set (i := 4) sc_l_numbers.nd rfl (Or.inl rfl) (pe_op op_mod (pv 0) pe_int))
  (pss_cons (ps_for PassesOwn.never rfl (pi_range1 (by rfl) T.range_ (pa_cons (pv 1) pa_nil)) (pg_name (i := 5) sc_l_numbers.nd rfl (Or.inl rfl))
  (pss_one (ps_if (PW.pt (pw_and (pt_cmpR op_ge (pv 0) (pe_op op_pow pe_int pe_int) (nomark _)) (pw_and1 (pt_cmpR op_gt (pv 3) pe_int (nomark _)))))
  (pss_cons (ps_expr (pe_bm PySem.F.plainAttrs_list PySem.F.slot_list_append PySem.F.type_list_append mt_append (pv 2) (pa_cons (pe_op op_mod (pv 3) pe_int) pa_nil)))
  (pss_one (ps_set (i := 3) sc_l_numbers.nd rfl (Or.inl rfl) (pe_op op_fdivW (pv 3) pe_int))))
  (pss_cons (ps_set (i := 4) sc_l_numbers.nd rfl (Or.inl rfl) (pe_op op_mod (pe_op op_mulW (pe_op op_add (pe_op op_add (pv 4) (pe_op op_mulW pe_int (pv 5))) pe_int) pe_int) pe_int))
  (pss_cons (ps_set (i := 6) sc_l_numbers.nd rfl (Or.inl rfl) (pe_op op_mod (pe_op op_mulW (pe_op op_mod (pe_op op_mulW (pv 4) (pv 4)) pe_int) pe_int) pe_int))
  (pss_one (ps_expr (pe_bm PySem.F.plainAttrs_list PySem.F.slot_list_append PySem.F.type_list_append mt_append (pv 2) (pa_cons (pe_op op_mod (pe_op op_fdivW (pv 6) pe_int) pe_int) pa_nil)))))))))
  (pss_one (ps_ret (pv 2))))))), fun ds Q h => ?_⟩
  · obtain ⟨_, _, rfl, _⟩ := h
    rfl
  · obtain ⟨c, n, rfl, hn, q⟩ := h
    walk_at "goK"
    refine ForB_rng (fun i Γ => ∃ (zs : List Int) (rest stir : Int) (x y : Sl), Γ = [.v .lf (.int c), .v .lf (.int n), .v (.li .lf) (IL zs), .v .lf (.int rest), .v .lf (.int stir), x, y] ∧ zs.length = i ∧ (∀ z ∈ zs, 0 ≤ z ∧ z < 720720) ∧ 0 ≤ stir ∧ stir < 2147483647) ⟨[], c, c % 2147483647, _, _, rfl, rfl, fun z h => (by cases h), by omega, by omega⟩ ?_ ?_
    · rintro i Γ hi ⟨zs, rest, stir, x, y, rfl, l, hz, s0, s1⟩
      have more : ∀ v : Int, 0 ≤ v → v < 720720 → ∀ z ∈ zs ++ [v], 0 ≤ z ∧ z < 720720 := fun v v0 v1 z hz' => by
        rcases List.mem_append.mp hz' with h | h
        · exact hz z h
        · rw [List.mem_singleton.mp h]; exact ⟨v0, v1⟩
      walk_at "goW"
      refine ifD (fun h => ?_) (fun h => ?_)
      · walk_at "goW"
        refine ifD (fun h => ?_) (fun h => ?_)
        · walk_at "goW"
          exact ⟨zs ++ [rest % 64], _, _, _, _, rfl, by rw [List.length_append, l]; rfl, more _ (by omega) (by omega), s0, s1⟩
        · walk_at "goW"
          refine OW_mul (IB.mulW (n := 64) (m := 64) (by unfold IB; omega) (by unfold IB; omega) (by decide)) ?_
          walk_at "goW"
          refine OW_mul (IB.mulW (n := 64) (m := 64) (by unfold IB; omega) (by unfold IB; omega) (by decide)) ?_
          walk_at "goW"
          have y0 := Int.emod_nonneg ((stir + 7 * (i : Int) + 3) * 48271) (show (2147483647 : Int) ≠ 0 by decide)
          have y1 := Int.emod_lt_of_pos ((stir + 7 * (i : Int) + 3) * 48271) (show (0 : Int) < 2147483647 by decide)
          generalize (stir + 7 * (i : Int) + 3) * 48271 % 2147483647 = y at y0 y1
          refine OW_mul (IB.mulW (n := 64) (m := 64) (by unfold IB; omega) (by unfold IB; omega) (by decide)) ?_
          walk_at "goW"
          have u0 := Int.emod_nonneg (y * y) (show (2147483629 : Int) ≠ 0 by decide)
          have u1 := Int.emod_lt_of_pos (y * y) (show (0 : Int) < 2147483629 by decide)
          generalize y * y % 2147483629 = u at u0 u1
          refine OW_mul (IB.mulW (n := 64) (m := 64) (by unfold IB; omega) (by unfold IB; omega) (by decide)) ?_
          walk_at "goW"
          exact ⟨zs ++ [u * 69621 % 2147483587 / 8 % 720720], _, y, _, _, rfl, by rw [List.length_append, l]; rfl, more _ (by omega) (by omega), y0, y1⟩
      · walk_at "goW"
        refine OW_mul (IB.mulW (n := 64) (m := 64) (by unfold IB; omega) (by unfold IB; omega) (by decide)) ?_
        walk_at "goW"
        refine OW_mul (IB.mulW (n := 64) (m := 64) (by unfold IB; omega) (by unfold IB; omega) (by decide)) ?_
        walk_at "goW"
        have y0 := Int.emod_nonneg ((stir + 7 * (i : Int) + 3) * 48271) (show (2147483647 : Int) ≠ 0 by decide)
        have y1 := Int.emod_lt_of_pos ((stir + 7 * (i : Int) + 3) * 48271) (show (0 : Int) < 2147483647 by decide)
        generalize (stir + 7 * (i : Int) + 3) * 48271 % 2147483647 = y at y0 y1
        refine OW_mul (IB.mulW (n := 64) (m := 64) (by unfold IB; omega) (by unfold IB; omega) (by decide)) ?_
        walk_at "goW"
        have u0 := Int.emod_nonneg (y * y) (show (2147483629 : Int) ≠ 0 by decide)
        have u1 := Int.emod_lt_of_pos (y * y) (show (0 : Int) < 2147483629 by decide)
        generalize y * y % 2147483629 = u at u0 u1
        refine OW_mul (IB.mulW (n := 64) (m := 64) (by unfold IB; omega) (by unfold IB; omega) (by decide)) ?_
        walk_at "goW"
        exact ⟨zs ++ [u * 69621 % 2147483587 / 8 % 720720], _, y, _, _, rfl, by rw [List.length_append, l]; rfl, more _ (by omega) (by omega), y0, y1⟩
    · rintro Γ ⟨zs, rest, stir, x, y, rfl, l, hz, s0, s1⟩
      walk_at "goW"
      exact q zs l hz
end
section
variable {P : Program} {w : World} {K : PySem.W.Frag} {mg : Str → Option Value} {base : Heap}
def pLow : Pre := fun ds Q => ∃ t b : Int, ds = [.int t, .int b] ∧ 0 < b ∧ IB 8500 b ∧ Q .lf (FD (Rat.divInt t b))
theorem ok_l_low {f : Addr} {fd : FuncData} (F : Fun K "_law_low" "_law_low" s_l_low f fd) (T : Tx K mg) : FnOk P w K mg base CX0 1 f fd P_l_low (spV K pLow) := by
  refine okV F sc_l_low (fun ds Q h => ?_) fun cdv A outer s H E hr => ⟨_, (pss_cons (ps_set (i := 2) sc_l_low.nd rfl (Or.inl rfl) (pe_callB cr_abs (by rfl) T.abs_ (by decide +kernel) (pa_cons (pv 0) pa_nil)))
  (pss_cons (ps_set (i := 3) sc_l_low.nd rfl (Or.inl rfl) (pv 1))
  (pss_cons (ps_while PassesOwn.never (pt_cmpR op_ne (pv 3) pe_int (nomark _))
  (pss_cons (ps_set (i := 4) sc_l_low.nd rfl (Or.inl rfl) (pe_op op_mod (pv 2) (pv 3)))
  (pss_cons (ps_set (i := 2) sc_l_low.nd rfl (Or.inl rfl) (pv 3))
  (pss_one (ps_set (i := 3) sc_l_low.nd rfl (Or.inl rfl) (pv 4))))))
  (pss_one (ps_ret (pe_tup (pa_cons (pe_op op_fdivW (pv 0) (pv 2)) (pa_cons (pe_op op_fdivW (pv 1) (pv 2)) pa_nil)))))))), fun ds Q h => ?_⟩
  · obtain ⟨a, b, rfl, _⟩ := h
    rfl
  · obtain ⟨t, b, rfl, hb, hl, q⟩ := h
    have hb' : b ≠ 0 := by omega
    walk_at "goK"
    refine SW_while ⟨fun m Γ => ∃ (x y : Int) (z : Sl), Γ = [.v .lf (.int t), .v .lf (.int b), .v .lf (.int x), .v .lf (.int y), z] ∧ 0 ≤ x ∧ 0 ≤ y ∧ Int.gcd x y = Int.gcd t b ∧ m = y.natAbs, ⟨_, _, b, _, rfl, by split <;> omega, by omega, ?_, rfl⟩, ?_⟩
    · split
      · rw [Int.neg_gcd]
      · rfl
    rintro m Γ ⟨x, y, z, rfl, x0, y0, e, rfl⟩
    walk_at "goW"
    refine ifND (fun h => ?_) (fun h => ?_)
    · walk_at "goW"
      have := Int.emod_lt_of_pos x (show 0 < y by omega)
      have := Int.emod_nonneg x h
      refine ⟨_, ?_, y, x % y, _, rfl, y0, by omega, ?_, rfl⟩
      · omega
      · rw [← e, ← gcd_fmod x y, Int.fmod_eq_emod_of_nonneg x y0]
    · walk_at "goW"
      subst h
      have hx : x = ((Int.gcd t b : Nat) : Int) := by rw [← e, Int.gcd_zero_right]; omega
      have hg := gcd_lt (t := t) hb' hl
      have hp := gcd_pos' (t := t) hb'
      refine OW_div (wide_div (b := 8500) (by omega) (by rw [hx]; omega) (by decide) (by decide)) ?_
      walk_at "goW"
      refine OW_div (wide_div (b := 8500) (by omega) (by rw [hx]; omega) (by decide) (by decide)) ?_
      walk_at "goW"
      have := q
      unfold FD at this
      rw [divInt_num t b hb', divInt_den t b hb', if_neg (by omega), if_neg (by omega), ← hx, Int.fdiv_eq_ediv_of_nonneg _ x0, Int.fdiv_eq_ediv_of_nonneg _ x0] at this
      exact this
theorem plus_raw (a b c d : Int) (hb : 0 < b) (hd : 0 < d) : Rat.divInt (a * d + c * b) (b * d) = Rat.divInt a b + Rat.divInt c d := (Rat.divInt_add_divInt a c (by omega) (by omega)).symm
/-- fractions as pairs, perhaps not in least numbers -/
def pPlusR : Pre := fun ds Q => ∃ a b c d : Int, ds = [.tuple [.int a, .int b], .tuple [.int c, .int d]] ∧ 0 < b ∧ 0 < d ∧ IB 4000 a ∧ IB 4000 b ∧ IB 4000 c ∧ IB 4000 d ∧ Q .lf (FD (Rat.divInt a b + Rat.divInt c d))
theorem ok_l_plus {f : Addr} {fd : FuncData} (F : Fun K "_law_plus" "_law_plus" s_l_plus f fd) (T : Tx K mg) (c_l_low : Cal P w K mg base 1 "_law_low" (spV K pLow) []) : FnOk P w K mg base CX0 2 f fd P_l_plus (spV K pPlusR) := by
  refine okV F sc_l_plus (fun ds Q h => ?_) fun cdv A outer s H E hr => ⟨_, (pss_one (ps_ret (pe_c c_l_low hr (by decide) rfl (pa_cons (pe_op op_add (pe_op op_mulW (pe_ix (k_ixT (K := K)) (pv 0) pe_int (fun _ _ => rfl)) (pe_ix (k_ixT (K := K)) (pv 1) pe_int (fun _ _ => rfl))) (pe_op op_mulW (pe_ix (k_ixT (K := K)) (pv 1) pe_int (fun _ _ => rfl)) (pe_ix (k_ixT (K := K)) (pv 0) pe_int (fun _ _ => rfl)))) (pa_cons (pe_op op_mulW (pe_ix (k_ixT (K := K)) (pv 0) pe_int (fun _ _ => rfl)) (pe_ix (k_ixT (K := K)) (pv 1) pe_int (fun _ _ => rfl))) pa_nil))))), fun ds Q h => ?_⟩
  · obtain ⟨_, _, _, _, rfl, _⟩ := h
    rfl
  · obtain ⟨a, b, c, d, rfl, hb, hd, ia, ib, ic, id', q⟩ := h
    walk_at "goK"
    refine OW_mul (mulW 4000 4000 ia id') ?_
    walk_at "goW"
    refine OW_mul (mulW 4000 4000 ic ib) ?_
    walk_at "goW"
    refine OW_mul (mulW 4000 4000 ib id') ?_
    walk_at "goW"
    refine ⟨_, _, rfl, Int.mul_pos hb hd, (IB.mul ib id').mono (by decide), ?_⟩
    rw [plus_raw a b c d hb hd]
    exact q
/-- two fractions in least numbers -/
theorem plusF {Q : Own → PyData → Prop} {x y : Rat} (bx : Bd 4000 x) (by' : Bd 4000 y) (q : Q .lf (FD (x + y))) : pPlusR [FD x, FD y] Q := by
  refine ⟨x.num, x.den, y.num, y.den, rfl, den_pos' x, den_pos' y, bx.1, bx.2, by'.1, by'.2, ?_⟩
  rw [Rat.num_divInt_den, Rat.num_divInt_den]
  exact q
def pIsFr : Pre := fun ds Q => ∃ x : Rat, ds = [FD x] ∧ Bd 4000 x ∧ Q .lf (.bool true)
theorem ok_l_is_fraction {f : Addr} {fd : FuncData} (F : Fun K "_law_is_fraction" "_law_is_fraction" s_l_is_fraction f fd) (T : Tx K mg) (c_l_low : Cal P w K mg base 1 "_law_low" (spV K pLow) []) : FnOk P w K mg base CX0 2 f fd P_l_is_fraction (spV K pIsFr) := by
  refine okV F sc_l_is_fraction (fun ds Q h => ?_) fun cdv A outer s H E hr => ⟨_, (pss_cons (ps_if (PW.pt (pw_or (pt_not (pt_val (pe_callB (k_isi (K := K)) (by rfl) T.isinstance_ (by decide +kernel) (pa_cons (pv 0) (pa_cons (pe_bltn (v := .ty "tuple") (by rfl) T.tuple_ (by decide +kernel) rfl) pa_nil))))) (pw_or1 (pt_cmpR op_ne (pe_callB (k_len (K := K)) (by rfl) T.len_ (by decide +kernel) (pa_cons (pv 0) pa_nil)) pe_int (nomark _)))))
  (pss_one (ps_ret pe_bl))
  pss_nil)
  (pss_cons (ps_for PassesOwn.never rfl (k_piT (K := K) (pv 0)) (pg_name (i := 1) sc_l_is_fraction.nd rfl (Or.inl rfl))
  (pss_one (ps_if (PW.pt (pw_or (pt_not (pt_val (pe_callB (k_isi (K := K)) (by rfl) T.isinstance_ (by decide +kernel) (pa_cons (pv 1) (pa_cons (pe_bltn (v := .ty "int") (by rfl) T.int_ (by decide +kernel) rfl) pa_nil))))) (pw_or1 (pt_val (pe_callB (k_isi (K := K)) (by rfl) T.isinstance_ (by decide +kernel) (pa_cons (pv 1) (pa_cons (pe_bltn (v := .ty "bool") (by rfl) T.bool_ (by decide +kernel) rfl) pa_nil)))))))
  (pss_one (ps_ret pe_bl))
  pss_nil)))
  (pss_one (ps_ret (pe_and (pe_cmpR op_gt (pe_ix (k_ixT (K := K)) (pv 0) pe_int (fun _ _ => rfl)) pe_int (nomark _)) (pe_one (pe_cmpR (k_eqD (K := K) hr.units) (pe_c c_l_low hr (by decide) rfl (pa_cons (pe_ix (k_ixT (K := K)) (pv 0) pe_int (fun _ _ => rfl)) (pa_cons (pe_ix (k_ixT (K := K)) (pv 0) pe_int (fun _ _ => rfl)) pa_nil))) (pv 0) (nomark _)))))))), fun ds Q h => ?_⟩
  · obtain ⟨_, rfl, _⟩ := h
    rfl
  · obtain ⟨x, rfl, bx, q⟩ := h
    have dx := den_pos' x
    walk_at "goK"
    refine ifND (fun h => absurd rfl h) (fun _ => ?_)
    walk_at "goW"
    refine ForB_map (xs := [x.num, (x.den : Int)]) (f := PyData.int) (fun i Γ => ∃ (x1 : Sl), Γ = [.v .lf (FD x), x1]) ⟨_, rfl⟩ ?_ ?_
    · rintro i z Γ hi ⟨x1, rfl⟩
      walk_at "goW"
      exact ⟨_, rfl⟩
    · rintro Γ ⟨x1, rfl⟩
      walk_at "goW"
      refine ifD (fun _ => ?_) (fun h => absurd (show (x.den : Int) > 0 from dx) h)
      walk_at "goW"
      refine ⟨x.num, x.den, rfl, dx, Nat.lt_of_lt_of_le bx.2 (Nat.pow_le_pow_right (by decide) (by decide)), ?_⟩
      rw [Rat.num_divInt_den]
      walk_at "goW"
      rw [decide_eq_true rfl]
      exact q
end
/-! ### subsets of the points, by one point more -/
def pwL : Nat → Nat → List (List Int)
  | 0, _ => [[]]
  | k + 1, p => (pwL k (p + 1)).map (fun c => (p : Int) :: c) ++ pwL k (p + 1)
theorem pwL_perm : ∀ k p : Nat, (pwL k p).Perm (cutsL k p ++ [[]])
  | 0, p => .refl _
  | k + 1, p => by
    have ih := pwL_perm k (p + 1)
    unfold pwL cutsL
    have h1 := (ih.map fun c => (p : Int) :: c).append ih
    rw [List.map_append, List.map_cons, List.map_nil] at h1
    refine h1.trans ?_
    rw [← List.append_assoc]
    refine List.Perm.append_right _ (List.Perm.append_right _ ?_)
    exact List.perm_append_comm
theorem pwL_len (k p : Nat) : (pwL k p).length = 2 ^ k := by
  rw [(pwL_perm k p).length_eq, List.length_append]
  exact cutsL_len k p
theorem pwL_el {k p : Nat} {c : List Int} (h : c ∈ pwL k p) : c.length ≤ k := by
  rcases List.mem_append.mp ((pwL_perm k p).mem_iff.mp h) with h | h
  · exact cutsL_el h
  · rw [List.mem_singleton.mp h]; exact Nat.zero_le _
theorem pwL_cuts (k p : Nat) : ((pwL k p).filter fun c => !decide (c = [])).Perm (cutsL k p) := by
  refine ((pwL_perm k p).filter _).trans (List.Perm.of_eq ?_)
  rw [List.filter_append, List.filter_eq_self.mpr (fun c hc => by rw [decide_eq_false (cutsL_mem.mp hc).1]; rfl)]
  simp
theorem numNeg {x : Rat} : x.num < 0 ↔ x < 0 := by
  rw [Rat.lt_iff]
  show _ ↔ x.num * ((1 : Nat) : Int) < (0 : Int) * (x.den : Int)
  rw [Int.zero_mul, Int.natCast_one, Int.mul_one]
/-- whether numbers for pairs bar a table -/
def okBars (n : Nat) (g : Nat → Nat → Rat) (bs : List Rat) : Bool := decide (bs.length = (prsP n).length) && (decide (accW g bs (prsP n) < 0) && (cutsL (n - 1) 1).all fun c => !decide (accP c bs (prsP n) < 0))
theorem len_half {n : Nat} : (n : Int) * ((n : Int) - 1) / 2 = ((prsP n).length : Nat) := by
  have h := prsP_len n
  have e : (n : Int) * ((n : Int) - 1) = 2 * (((prsP n).length : Nat) : Int) := by
    have h2 : (2 : Int) * (((prsP n).length : Nat) : Int) + n = n * n := by exact_mod_cast h
    rw [Int.mul_sub, Int.mul_one]; omega
  rw [e]; omega
structure BarsB (n : Nat) (g : Nat → Nat → Rat) (bs : List Rat) : Prop where
  hb : ∀ x ∈ bs, Bd 1900 x
  hg : ∀ i j, Bd 1900 (g i j)
  hp : ∀ (c : List Int) (ps : List (Nat × Nat)), ps.length ≤ bs.length → Bd 3900 (accP c bs ps)
  hw : ∀ ps : List (Nat × Nat), ps.length ≤ bs.length → Bd 3900 (accW g bs ps)
section
variable {P : Program} {w : World} {K : PySem.W.Frag} {mg : Str → Option Value} {base : Heap}
theorem ok_l_cuts {f : Addr} {fd : FuncData} (F : Fun K "_law_cuts" "_law_cuts" s_l_cuts f fd) (T : Tx K mg) : FnOk P w K mg base CX0 1 f fd P_l_cuts (spV K pAllCuts) := by
  refine okV F sc_l_cuts (fun ds Q h => ?_) fun cdv A outer s H E hr => ⟨_, (pss_cons (ps_set (i := 1) sc_l_cuts.nd rfl (Or.inl rfl) (pe_lst (pa_cons (pe_lst pa_nil) pa_nil)))
  (pss_cons (ps_for PassesOwn.never rfl (pi_range3 (by rfl) T.range_ (pa_cons (pe_op op_sub (pv 0) pe_int) (pa_cons pe_int (pa_cons (pe_un un_neg pe_int) pa_nil)))) (pg_name (i := 2) sc_l_cuts.nd rfl (Or.inr rfl))
  (pss_one (ps_set (i := 1) sc_l_cuts.nd rfl (Or.inl rfl) (pe_op op_cat (pe_lc (own := [("cut", 3)]) (g := gName 3) (tt := tYes) rfl sc_l_cuts.nd (k_piL (K := K) (pv 1)) (blkOk_by (own := [("cut", 3)]) (N := N_l_cuts) (sc := defScope s_l_cuts) (by decide +kernel)) (fun _ _ _ _ _ => (pg_name (i := 3) sc_l_cuts.nd rfl (Or.inl rfl))) (fun _ _ _ _ _ => pts_nil) (fun _ _ _ _ _ => (pe_op op_cat (pe_lst (pa_cons (pv 2) pa_nil)) (pv 3)))) (pv 1)))))
  (pss_one (ps_ret (pe_callB (k_sortedD (K := K) hr.units) (by rfl) T.sorted_ (by decide +kernel) (pa_cons (pe_lc (own := [("cut", 3)]) (g := gName 3) rfl sc_l_cuts.nd (k_piL (K := K) (pv 1)) (blkOk_by (own := [("cut", 3)]) (N := N_l_cuts) (sc := defScope s_l_cuts) (by decide +kernel)) (fun _ _ _ _ _ => (pg_name (i := 3) sc_l_cuts.nd rfl (Or.inl rfl))) (fun _ _ _ _ _ => (pts_one (pt_cmpR (k_neD (K := K) hr.units) (pv 3) (pe_lst pa_nil) (nomark _)))) (fun _ _ _ _ _ => (pv 3))) pa_nil)))))), fun ds Q h => ?_⟩
  · obtain ⟨_, rfl, _⟩ := h
    rfl
  · obtain ⟨n, rfl, n1, hn, q⟩ := h
    refine SW_seq (SW_asg (EW_lstF ?_))
    walk_at "goK"
    refine ⟨by show 1 ≤ 100000; decide, ?_⟩
    walk_at "goW"
    refine ForB_rng (fun i Γ => ∃ (x y : Sl), Γ = [.v .lf (.int n), .v (.li .lf) (LD (pwL i (n - i))), x, y]) ⟨_, _, rfl⟩ ?_ ?_
    · rintro i Γ hi ⟨x, y, rfl⟩
      have hi : i < n - 1 := by omega
      have lc : (pwL i (n - i)).length ≤ 1024 := by
        have := pwL_len i (n - i)
        have : 2 ^ i ≤ 2 ^ 10 := Nat.pow_le_pow_right (by decide) (by omega)
        omega
      obtain ⟨p0, hp0, hp1⟩ : ∃ p0 : Nat, (n : Int) - 1 - (i : Int) = (p0 : Int) ∧ p0 + 1 = n - i := ⟨n - 1 - i, by omega, by omega⟩
      rw [hp0]
      walk_at "goZ"
      refine LcB_m .lf (fun c : List Int => IL ((p0 : Int) :: c)) (by omega) (fun c hc => ?_) ?_
      · have := pwL_el hc
        refine GC_name (by decide) ?_
        walk_at "goZ"
        exact ⟨.inr rfl, rfl, rfl⟩
      rw [show (pwL i (n - i)).map (fun c : List Int => IL ((p0 : Int) :: c)) = ((pwL i (n - i)).map fun c : List Int => (p0 : Int) :: c).map IL by rw [List.map_map]; rfl]
      walk_at "goZ"
      refine ⟨.v .lf (.int p0), .un, ?_⟩
      have e : pwL (i + 1) p0 = ((pwL i (n - i)).map fun c : List Int => (p0 : Int) :: c) ++ pwL i (n - i) := by
        conv => lhs; unfold pwL
        rw [hp1]
      rw [show n - (i + 1) = p0 by omega, e]
      rfl
    · rintro Γ ⟨x, y, rfl⟩
      rw [show ((n : Int) - 1 - 0).toNat = n - 1 by omega, show n - (n - 1) = 1 by omega]
      have lc : (pwL (n - 1) 1).length ≤ 1024 := by
        have := pwL_len (n - 1) 1
        have : 2 ^ (n - 1) ≤ 2 ^ 10 := Nat.pow_le_pow_right (by decide) (by omega)
        omega
      walk_at "goF"
      refine LcB_mf .lf (fun c : List Int => !decide (c = [])) IL (by omega) (fun c hc => ?_) ?_
      · refine GC_name (by decide) ?_
        walk_at "goF"
        refine ⟨rfl, ?_⟩
        split
        · walk_at "goF"
          exact ⟨.inl rfl, rfl, rfl⟩
        · rfl
      walk_at "goF"
      refine CW_sortD (il_alike _) (il_sortable _) (fun d hd => by obtain ⟨u, _, rfl⟩ := List.mem_map.mp hd; exact Nat.le_trans Sh.il.2 (by decide)) fun ds' hp hs => ?_
      obtain ⟨us, rfl, hp'⟩ := map_perm_inv IL hp
      rw [List.pairwise_map] at hs
      rw [perm_le_eq (hp'.trans (pwL_cuts _ _)) (hs.imp fun h => le_of_il h) (cutsL_sorted _ _)]
      walk_at "goF"
      exact q
end
/-! ### drawn numbers: pairs, signs, weights -/
/-- the least number that all from 1 to 100 divide -/
def bL : Int := 69720375229712477164533808935312303556800
theorem bL_pos : 0 < bL := by decide +kernel
theorem bL_dvd : ∀ d : Nat, d < 101 → 0 < d → ((d : Int) ∣ bL) := by
  have h : ∀ d : Nat, d < 101 → 0 < d → bL % (d : Int) = 0 := by decide +kernel
  exact fun d h1 h2 => Int.dvd_of_emod_eq_zero (h d h1 h2)
theorem bL_lt : bL < 2 ^ 136 := by decide +kernel
/-- a drawn weight -/
abbrev Wq (x : Rat) : Prop := Zs bL (2 ^ 112 * bL) x
/-- and above 0 -/
def Wp (x : Rat) : Prop := Wq x ∧ 0 < x
theorem Wq.low {t d : Int} (h1 : -(2 ^ 112) ≤ t) (h2 : t ≤ 2 ^ 112) (d0 : 0 < d) (d1 : d < 101) : Wq (Rat.divInt t d) := by
  obtain ⟨k, rfl⟩ : ∃ k : Nat, d = k := ⟨d.toNat, by omega⟩
  exact Zs.of d0 (bL_dvd k (by omega) (by omega)) bL_pos h1 h2
theorem fd_intW (z : Int) : FD (z : Rat) = .tuple [.int z, .int 1] := by
  unfold FD
  rw [Rat.num_intCast, Rat.den_intCast]; rfl
theorem int_div1 (z : Int) : (z : Rat) = Rat.divInt z 1 := by
  have := Rat.num_divInt_den (z : Rat)
  rw [Rat.num_intCast, Rat.den_intCast] at this
  exact this.symm
theorem divInt_pos' {t d : Int} (h1 : 0 < t) (h2 : 0 < d) : 0 < Rat.divInt t d := by
  rw [Rat.divInt_eq_div]
  have k1 : (0 : Rat) < (t : Rat) := by exact_mod_cast h1
  have k2 : (0 : Rat) < (d : Rat) := by exact_mod_cast h2
  rw [Rat.div_def]
  exact Rat.mul_pos k1 (Rat.inv_pos.mpr k2)
section
variable {P : Program} {w : World} {K : PySem.W.Frag} {mg : Str → Option Value} {base : Heap}
def pCopyT : Pre := fun ds Q => ∃ (n : Nat) (g : Nat → Nat → Rat), ds = [TD (tabG n g)] ∧ n ≤ 100 ∧ Q (.li (.li .lf)) (TD (tabG n g))
theorem ok_l_copy {f : Addr} {fd : FuncData} (F : Fun K "_law_copy" "_law_copy" s_l_copy f fd) (T : Tx K mg) : FnOk P w K mg base CX0 1 f fd P_l_copy (spV K pCopyT) := by
  refine okV F sc_l_copy (fun ds Q h => ?_) fun cdv A outer s H E hr => ⟨_, (pss_one (ps_ret (pe_lc (own := [("row", 1)]) (g := gName 1) (tt := tYes) rfl sc_l_copy.nd (k_piL (K := K) (pv 0)) (blkOk_by (own := [("row", 1)]) (N := N_l_copy) (sc := defScope s_l_copy) (by decide +kernel)) (fun _ _ _ _ _ => (pg_name (i := 1) sc_l_copy.nd rfl (Or.inl rfl))) (fun _ _ _ _ _ => pts_nil) (fun _ _ _ _ _ => (pe_callTy (k_list (K := K)) (by rfl) T.list_ (by decide +kernel) (pa_cons (pv 1) pa_nil)))))), fun ds Q h => ?_⟩
  · obtain ⟨_, _, rfl, _⟩ := h
    rfl
  · obtain ⟨n, g, rfl, hn, q⟩ := h
    walk_at "goK"
    refine LcB_m (.li .lf) FL (by rw [tabG_len]; omega) (fun x hx => ?_) ?_
    · refine GC_name (by decide) ?_
      walk_at "goW"
      exact ⟨.inl rfl, rfl, rfl⟩
    exact q
end
section
variable {P : Program} {w : World} {K : PySem.W.Frag} {mg : Str → Option Value} {base : Heap}
def pWeightD : Pre := fun ds Q => ∃ (a k : Int), ds = [.int a, .int k] ∧ 0 ≤ a ∧ a < 2 ^ 28 ∧ 0 ≤ k ∧ ∀ x, Wp x → Q .lf (FD x)
theorem ok_l_weight {f : Addr} {fd : FuncData} (F : Fun K "_law_weight" "_law_weight" s_l_weight f fd) (T : Tx K mg) (c_l_low : Cal P w K mg base 1 "_law_low" (spV K pLow) []) : FnOk P w K mg base CX0 2 f fd P_l_weight (spV K pWeightD) := by
  refine okV F sc_l_weight (fun ds Q h => ?_) fun cdv A outer s H E hr => ⟨_, (pss_cons (ps_if (pt_cmpR op_eq (pe_op op_mod (pv 1) pe_int) pe_int (nomark _))
  (pss_one (ps_ret (pe_tup (pa_cons (pe_op op_add pe_int (pe_op op_mod (pv 0) pe_int)) (pa_cons pe_int pa_nil)))))
  pss_nil)
  (pss_cons (ps_if (pt_cmpR op_eq (pe_op op_mod (pv 1) pe_int) pe_int (nomark _))
  (pss_one (ps_ret (pe_c c_l_low hr (by decide) rfl (pa_cons (pe_op op_add pe_int (pe_op op_mod (pv 0) pe_int)) (pa_cons (pe_op op_add pe_int (pe_op op_mod (pe_op op_fdivW (pv 0) pe_int) pe_int)) pa_nil)))))
  pss_nil)
  (pss_cons (ps_if (pt_cmpR op_eq (pe_op op_mod (pv 1) pe_int) pe_int (nomark _))
  (pss_one (ps_ret (pe_c c_l_low hr (by decide) rfl (pa_cons (pe_op op_add pe_int (pe_op op_mod (pe_op op_mulW (pv 0) pe_int) pe_int)) (pa_cons (pe_op op_add pe_int (pe_op op_mod (pe_op op_fdivW (pv 0) pe_int) pe_int)) pa_nil)))))
  pss_nil)
  (pss_one (ps_ret (pe_tup (pa_cons (pe_op op_add (pe_op op_mulW (pe_op op_add pe_int (pe_op op_mod (pv 0) pe_int)) (pe_op op_pow pe_int pe_int)) (pv 0)) (pa_cons pe_int pa_nil)))))))), fun ds Q h => ?_⟩
  · obtain ⟨_, _, rfl, _⟩ := h
    rfl
  · obtain ⟨a, k, rfl, a0, a1, k0, q⟩ := h
    have whole : ∀ z : Int, 0 < z → z ≤ 2 ^ 112 → Q .lf (.tuple [.int z, .int 1]) := fun z h1 h2 => by
      rw [← fd_intW, int_div1]
      exact q _ ⟨Wq.low (by omega) h2 (by decide) (by decide), divInt_pos' h1 (by decide)⟩
    walk_at "goK"
    refine ifD (fun h => ?_) (fun h => ?_)
    · walk_at "goW"
      exact whole _ (by omega) (by omega)
    walk_at "goW"
    refine ifD (fun h => ?_) (fun h => ?_)
    · walk_at "goW"
      refine ⟨_, _, rfl, by omega, by unfold IB; omega, ?_⟩
      walk_at "goW"
      exact q _ ⟨Wq.low (by omega) (by omega) (by omega) (by omega), divInt_pos' (by omega) (by omega)⟩
    walk_at "goW"
    refine ifD (fun h => ?_) (fun h => ?_)
    · walk_at "goW"
      refine OW_mul (IB.mulW (n := 64) (m := 64) (by unfold IB; omega) (by unfold IB; omega) (by decide)) ?_
      walk_at "goW"
      refine ⟨_, _, rfl, by omega, by unfold IB; omega, ?_⟩
      walk_at "goW"
      exact q _ ⟨Wq.low (by omega) (by omega) (by omega) (by omega), divInt_pos' (by omega) (by omega)⟩
    walk_at "goW"
    refine OW_mul (IB.mulW (n := 64) (m := 128) (by unfold IB; omega) (by unfold IB; decide) (by decide)) ?_
    walk_at "goW"
    exact whole _ (by omega) (by omega)
end
/-! ### drawn weighted cuts, their table -/
/-- weighted cuts of n points, drawn -/
structure Wds (n : Nat) (ws : List (List Int × Rat)) : Prop where
  len : ws.length ≤ 16
  cut : ∀ u ∈ ws, u.1 ∈ cutsL (n - 1) 1
  wt : ∀ u ∈ ws, Wp u.2
/-- a cut's points gone through, the next one's partners below j -/
def midT (c : List Int) (p j : Nat) (a b : Nat) : Bool := (decide ((a : Int) ∈ c.take p) && !decide ((b : Int) ∈ c)) || (decide ((b : Int) ∈ c.take p) && !decide ((a : Int) ∈ c)) ||
  (decide (c[p]? = some (a : Int)) && decide (b < j) && !decide ((b : Int) ∈ c)) || (decide (c[p]? = some (b : Int)) && decide (a < j) && !decide ((a : Int) ∈ c))
section
variable {P : Program} {w : World} {K : PySem.W.Frag} {mg : Str → Option Value} {base : Heap}
def pWeightedD : Pre := fun ds Q => ∃ (n : Nat) (xs : List Int), ds = [.int n, IL xs] ∧ 1 ≤ n ∧ n ≤ 10 ∧ 20 ≤ xs.length ∧ (∀ z ∈ xs, 0 ≤ z ∧ z < 720720) ∧ ∀ ws, Wds n ws → ws.Pairwise (fun a b => a.1 < b.1) → Q (.li .lf) (WD ws)
theorem ok_l_weighted {f : Addr} {fd : FuncData} (F : Fun K "_law_weighted" "_law_weighted" s_l_weighted f fd) (T : Tx K mg) (c_l_cuts : Cal P w K mg base 1 "_law_cuts" (spV K pAllCuts) []) (c_l_weight : Cal P w K mg base 2 "_law_weight" (spV K pWeightD) []) : FnOk P w K mg base CX0 3 f fd P_l_weighted (spV K pWeightedD) := by
  refine okV F sc_l_weighted (fun ds Q h => ?_) fun cdv A outer s H E hr => ⟨_, (pss_cons (ps_set (i := 2) sc_l_weighted.nd rfl (Or.inl rfl) (pe_c c_l_cuts hr (by decide) rfl (pa_cons (pv 0) pa_nil)))
  (pss_cons (ps_set (i := 3) sc_l_weighted.nd rfl (Or.inr rfl) (pe_lst pa_nil))
  (pss_cons (ps_for PassesOwn.never rfl (pi_range1 (by rfl) T.range_ (pa_cons (pe_callB (cr_min2 rfl) (by rfl) T.min_ (by decide +kernel) (pa_cons (pe_callB (k_len (K := K)) (by rfl) T.len_ (by decide +kernel) (pa_cons (pv 2) pa_nil)) (pa_cons pe_int pa_nil))) pa_nil)) (pg_name (i := 4) sc_l_weighted.nd rfl (Or.inl rfl))
  (pss_cons (ps_set (i := 5) sc_l_weighted.nd rfl (Or.inl rfl) (pe_op op_mod (pe_op op_add (pe_ix (k_ixL (K := K)) (pv 1) pe_int (fun _ _ => rfl)) (pe_op op_mulW (pv 4) (pe_op op_add pe_int (pe_op op_mulW pe_int (pe_op op_mod (pe_ix (k_ixL (K := K)) (pv 1) pe_int (fun _ _ => rfl)) pe_int))))) (pe_callB (k_len (K := K)) (by rfl) T.len_ (by decide +kernel) (pa_cons (pv 2) pa_nil))))
  (pss_one (ps_if (pt_cmpR op_eq (pe_op op_mod (pe_ix (k_ixL (K := K)) (pv 1) (pe_op op_add pe_int (pv 4)) (fun _ _ => rfl)) (pe_ix (k_ixL (K := K)) (pe_lst (pa_cons pe_int (pa_cons pe_int (pa_cons pe_int (pa_cons pe_int pa_nil))))) (pe_op op_mod (pe_ix (k_ixL (K := K)) (pv 1) pe_int (fun _ _ => rfl)) pe_int) (fun _ _ => rfl))) pe_int (nomark _))
  (pss_one (ps_expr (pe_bm PySem.F.plainAttrs_list PySem.F.slot_list_append PySem.F.type_list_append mt_append (pv 3) (pa_cons (pe_tup (pa_cons (pe_ix (k_ixL (K := K)) (pv 2) (pv 5) (fun _ _ => rfl)) (pa_cons (pe_c c_l_weight hr (by decide) rfl (pa_cons (pe_op op_add (pe_op op_fdivW (pe_ix (k_ixL (K := K)) (pv 1) (pe_op op_add pe_int (pv 4)) (fun _ _ => rfl)) pe_int) (pe_op op_mulW pe_int (pe_ix (k_ixL (K := K)) (pv 1) pe_int (fun _ _ => rfl)))) (pa_cons (pe_ix (k_ixL (K := K)) (pv 1) pe_int (fun _ _ => rfl)) pa_nil))) pa_nil))) pa_nil))))
  pss_nil))))
  (pss_one (ps_ret (pe_callB (k_sortedD (K := K) hr.units) (by rfl) T.sorted_ (by decide +kernel) (pa_cons (pe_lc (own := [("k", 4)]) (g := gName 4) rfl sc_l_weighted.nd (pi_range1 (by rfl) T.range_ (pa_cons (pe_callB (k_len (K := K)) (by rfl) T.len_ (by decide +kernel) (pa_cons (pv 3) pa_nil)) pa_nil)) (blkOk_by (own := [("k", 4)]) (N := N_l_weighted) (sc := defScope s_l_weighted) (by decide +kernel)) (fun _ _ _ _ _ => (pg_name (i := 4) sc_l_weighted.nd rfl (Or.inl rfl))) (fun _ _ _ _ _ => (pts_one (pt_cmpR (k_notInD (K := K) hr.units65) (pe_ix (k_ixT (K := K)) (pe_ix (k_ixL (K := K)) (pv 3) (pv 4) (fun _ _ => rfl)) pe_int (fun _ _ => rfl)) (pe_lc (own := [("one", 6)]) (g := gName 6) (tt := tYes) rfl sc_l_weighted.nd (k_piL (K := K) (pe_slice (k_slL (K := K)) (pv 3) po_none (po_some (pv 4)))) (blkOk_by (own := [("one", 6)]) (by rfl)) (fun _ _ _ _ _ => (pg_name (i := 6) sc_l_weighted.nd rfl (Or.inl rfl))) (fun _ _ _ _ _ => pts_nil) (fun _ _ _ _ _ => (pe_ix (k_ixT (K := K)) (pv 6) pe_int (fun _ _ => rfl)))) rfl))) (fun _ _ _ _ _ => (pe_ix (k_ixL (K := K)) (pv 3) (pv 4) (fun _ _ => rfl)))) pa_nil))))))), fun ds Q h => ?_⟩
  · obtain ⟨_, _, rfl, _⟩ := h
    rfl
  · obtain ⟨n, xs, rfl, n1, n10, lx, hx, q⟩ := h
    have g : ∀ i, i < 20 → 0 ≤ xs.getD i 0 ∧ xs.getD i 0 < 720720 := fun i hi => hx _ (by rw [List.getD_eq_getElem?_getD, List.getElem?_eq_getElem (by omega)]; exact List.getElem_mem _)
    have lc := cutsL_len (n - 1) 1
    have lc2 : 2 ^ (n - 1) ≤ 2 ^ 9 := Nat.pow_le_pow_right (by decide) (by omega)
    walk_at "goK"
    refine ⟨n, rfl, n1, n10, ?_⟩
    refine GW_nameF ?_
    walk_at "goF"
    have lcp : (cutsL (n - 1) 1).length ≤ 511 := by omega
    have cm : ∀ c ∈ cutsL (n - 1) 1, c.length ≤ 9 := fun c hc => by have := cutsL_el hc; omega
    generalize hcs : cutsL (n - 1) 1 = cs at lcp cm
    obtain ⟨m, hm, m16, mp⟩ : ∃ m : Nat, (if 16 < (cs.length : Int) then 16 else (cs.length : Int)).toNat = m ∧ m ≤ 16 ∧ m ≤ cs.length := ⟨_, rfl, by split <;> omega, by split <;> omega⟩
    rw [hm]
    refine ForB_rng (fun i Γ => ∃ (ws : List (List Int × Rat)) (x4 x5 : Sl), Γ = [.v .lf (.int n), .v .lf (IL xs), .v .lf (LD cs), .v (.li .lf) (WD ws), x4, x5, .un] ∧ ws.length ≤ i ∧ (∀ u ∈ ws, u.1 ∈ cs) ∧ ∀ u ∈ ws, Wp u.2) ⟨[], _, _, rfl, Nat.le_refl _, (fun u hu => nomatch hu), fun u hu => nomatch hu⟩ ?_ ?_
    · rintro k Γ hk ⟨ws, x4, x5, rfl, lw, h1, h2⟩
      have g0 := g 0 (by decide)
      have g1 := g 1 (by decide)
      have g18 := g 18 (by decide)
      have g19 := g 19 (by decide)
      have gk := g (2 + k) (by omega)
      walk_at "goW"
      refine OW_mul (IB.mulW (n := 64) (m := 64) (by unfold IB; omega) (by unfold IB; omega) (by decide)) ?_
      walk_at "goW"
      have k0 : (0 : Int) ≤ (k : Int) * (1 + 2 * (xs.getD (Int.toNat 1) 0 % 8)) := Int.mul_nonneg (by omega) (by show (0 : Int) ≤ 1 + 2 * (xs.getD 1 0 % 8); omega)
      obtain ⟨j, hj, hj2⟩ : ∃ j : Nat, (xs.getD (Int.toNat 0) 0 + (k : Int) * (1 + 2 * (xs.getD (Int.toNat 1) 0 % 8))) % (cs.length : Int) = j ∧ j < cs.length := by
        have a1 := Int.emod_nonneg (xs.getD (Int.toNat 0) 0 + (k : Int) * (1 + 2 * (xs.getD (Int.toNat 1) 0 % 8))) (show (cs.length : Int) ≠ 0 by omega)
        have a2 := Int.emod_lt_of_pos (xs.getD (Int.toNat 0) 0 + (k : Int) * (1 + 2 * (xs.getD (Int.toNat 1) 0 % 8))) (show (0 : Int) < (cs.length : Int) by omega)
        exact ⟨((xs.getD (Int.toNat 0) 0 + (k : Int) * (1 + 2 * (xs.getD (Int.toNat 1) 0 % 8))) % (cs.length : Int)).toNat, by omega, by omega⟩
      have k1 : xs.getD (Int.toNat 1) 0 = xs.getD 1 0 := rfl
      refine OW_mul (IB.mulW (n := 64) (m := 64) (by unfold IB; omega) (by unfold IB; rw [k1]; omega) (by decide)) ?_
      walk_at "goW"
      rw [hj]
      have e18 : xs.getD (Int.toNat 18) 0 = xs.getD 18 0 := rfl
      walk_at "goW"
      refine IxB_any (by omega) (by show _ < (4 : Int); omega) ?_ (.inl rfl)
      intro d hd
      obtain ⟨z, rfl, z1⟩ : ∃ z : Int, d = .int z ∧ 0 < z := by
        simp only [List.mem_cons, List.not_mem_nil, or_false] at hd
        rcases hd with rfl | rfl | rfl | rfl
        · exact ⟨2, rfl, by decide⟩
        · exact ⟨3, rfl, by decide⟩
        · exact ⟨5, rfl, by decide⟩
        · exact ⟨8, rfl, by decide⟩
      walk_at "goW"
      refine ifD (fun h => ?_) (fun h => ?_)
      · walk_at "goW"
        have k2 : xs.getD (Int.toNat 0) 0 = xs.getD 0 0 := rfl
        have e2 : (2 + (k : Int)).toNat = 2 + k := by omega
        refine OW_mul (IB.mulW (n := 64) (m := 64) (by unfold IB; omega) (by unfold IB; rw [k2]; omega) (by decide)) ?_
        walk_at "goW"
        rw [k2, e2]
        refine ⟨_, _, rfl, by omega, by omega, g19.1, fun x hx => ?_⟩
        have hm : cs.getD j default ∈ cs := by rw [List.getD_eq_getElem?_getD, List.getElem?_eq_getElem hj2]; exact List.getElem_mem _
        generalize cs.getD j default = c at hm
        walk_at "goW"
        refine ⟨ws ++ [(c, x)], .v .lf (.int (k : Nat)), .v .lf (.int (j : Nat)), ?_, by rw [List.length_append]; show ws.length + 1 ≤ _; omega, fun u hu => ?_, fun u hu => ?_⟩
        · rw [show WD (ws ++ [(c, x)]) = .list (ws.map CD ++ [CD (c, x)]) by show PyData.list _ = _; rw [List.map_append]; rfl]
          rfl
        · rcases List.mem_append.mp hu with h | h
          · exact h1 u h
          · rw [List.mem_singleton.mp h]; exact hm
        · rcases List.mem_append.mp hu with h | h
          · exact h2 u h
          · rw [List.mem_singleton.mp h]; exact hx
      · walk_at "goW"
        exact ⟨ws, _, _, rfl, by omega, h1, h2⟩
    · rintro Γ ⟨ws, x4, x5, rfl, lw, h1, h2⟩
      refine SW_fz (n := 3) rfl rfl ?_
      walk_at "goF"
      have gd : ∀ k, k < ws.length → ws.getD k default ∈ ws := fun k hk => by rw [List.getD_eq_getElem?_getD, List.getElem?_eq_getElem hk]; exact List.getElem_mem _
      refine LcB_mf .lf (fun k : Nat => !decide ((ws.getD k default).1 ∈ (ws.take k).map Prod.fst)) (fun k : Nat => CD (ws.getD k default)) (by rw [List.length_range]; omega) (fun k hk => ?_) ?_
      · have hk := List.mem_range.mp hk
        refine GC_name (by decide) ?_
        walk_at "goW"
        rw [cutG_to, ← List.map_take]
        refine LcB_m .lf (fun u : List Int × Rat => IL u.1) (by rw [List.length_take]; omega) (fun u hu => ?_) ?_
        · refine GC_name (by decide) ?_
          walk_at "goW"
          exact ⟨.inl rfl, rfl, rfl⟩
        rw [show (ws.take k).map (fun u : List Int × Rat => IL u.1) = ((ws.take k).map Prod.fst).map IL by rw [List.map_map]; rfl]
        walk_at "goW"
        refine ⟨rfl, ?_⟩
        split
        · walk_at "goW"
          exact ⟨.inl rfl, rfl, rfl⟩
        · rfl
      rw [show ((List.range ws.length).filter fun k : Nat => !decide ((ws.getD k default).1 ∈ (ws.take k).map Prod.fst)).map (fun k : Nat => CD (ws.getD k default)) = (((List.range ws.length).filter fun k : Nat => !decide ((ws.getD k default).1 ∈ (ws.take k).map Prod.fst)).map fun k => ws.getD k default).map CD by rw [List.map_map (g := CD)]; rfl]
      have lv : (((List.range ws.length).filter fun k : Nat => !decide ((ws.getD k default).1 ∈ (ws.take k).map Prod.fst)).map fun k => ws.getD k default).length ≤ ws.length := by
        rw [List.length_map]
        exact Nat.le_trans (List.length_filter_le _ _) (by rw [List.length_range]; exact Nat.le_refl _)
      have mv : ∀ u ∈ (((List.range ws.length).filter fun k : Nat => !decide ((ws.getD k default).1 ∈ (ws.take k).map Prod.fst)).map fun k => ws.getD k default), u ∈ ws := fun u hu => by
        obtain ⟨k, hk, rfl⟩ := List.mem_map.mp hu
        exact gd k (List.mem_range.mp (List.mem_filter.mp hk).1)
      have nv : (((List.range ws.length).filter fun k : Nat => !decide ((ws.getD k default).1 ∈ (ws.take k).map Prod.fst)).map fun k => ws.getD k default).Pairwise fun a b => a.1 ≠ b.1 := by
        refine List.pairwise_map.mpr ((List.pairwise_lt_range.filter _).imp_of_mem fun {a b} ha hb ab e => ?_)
        have hb1 := List.mem_range.mp (List.mem_filter.mp hb).1
        have hb2 := (List.mem_filter.mp hb).2
        have : (ws.getD b default).1 ∈ (ws.take b).map Prod.fst := List.mem_map.mpr ⟨ws.getD a default, by
          rw [List.mem_iff_getElem?]
          exact ⟨a, by rw [List.getElem?_take_of_lt ab, List.getD_eq_getElem?_getD, List.getElem?_eq_getElem (by omega)]; rfl⟩, e⟩
        rw [decide_eq_true this] at hb2
        exact Bool.noConfusion hb2
      generalize (((List.range ws.length).filter fun k : Nat => !decide ((ws.getD k default).1 ∈ (ws.take k).map Prod.fst)).map fun k => ws.getD k default) = vs at lv mv nv
      walk_at "goW"
      refine CW_sortD (wd_alike _) (wd_sortable _) (fun d hd => by obtain ⟨u, _, rfl⟩ := List.mem_map.mp hd; exact Nat.le_trans Sh.cd.2 (by decide)) fun ds' hp hs => ?_
      obtain ⟨us, rfl, hp'⟩ := map_perm_inv CD hp
      walk_at "goW"
      rw [List.pairwise_map] at hs
      have hs' : us.Pairwise fun a b => a.1 ≤ b.1 := hs.imp fun h => dl_cd h
      have nv' : us.Pairwise fun a b => a.1 ≠ b.1 := (hp'.pairwise_iff fun h e => h e.symm).mpr nv
      refine q us ⟨by rw [hp'.length_eq]; omega, fun u hu => ?_, fun u hu => ?_⟩ ?_
      · rw [hcs]; exact h1 u (mv u (hp'.mem_iff.mp hu))
      · exact h2 u (mv u (hp'.mem_iff.mp hu))
      · exact (hs'.and nv').imp fun ⟨x, y⟩ => Std.lt_of_le_of_ne x y
end
theorem midT_next {c : List Int} (nd : c.Nodup) {p : Nat} {i : Nat} (hi : c[p]? = some (i : Int)) {n : Nat} {a b : Nat} (ha : a < n) (hb : b < n) : midT c p n a b = midT c (p + 1) 0 a b := by
  unfold midT
  have tk : c.take (p + 1) = c.take p ++ [(i : Int)] := take_snoc hi
  have e0 : ∀ x : Nat, decide ((x : Int) ∈ c.take (p + 1)) = (decide ((x : Int) ∈ c.take p) || decide (c[p]? = some (x : Int))) := fun x => by
    rw [tk, hi, ← Bool.decide_or]
    refine decide_eq_decide.mpr ?_
    rw [List.mem_append, List.mem_singleton]
    constructor
    · rintro (h | h)
      · exact .inl h
      · exact .inr (by rw [h])
    · rintro (h | h)
      · exact .inl h
      · exact .inr (by simpa using h.symm)
  rw [e0, e0, decide_eq_true ha, decide_eq_true hb, decide_eq_false (show ¬ b < 0 by omega), decide_eq_false (show ¬ a < 0 by omega)]
  generalize decide ((a : Int) ∈ c.take p) = x1
  generalize decide ((b : Int) ∈ c.take p) = x2
  generalize decide ((a : Int) ∈ c) = x3
  generalize decide ((b : Int) ∈ c) = x4
  generalize decide (c[p]? = some (a : Int)) = x5
  generalize decide (c[p]? = some (b : Int)) = x6
  generalize decide (c[p + 1]? = some (a : Int)) = x7
  generalize decide (c[p + 1]? = some (b : Int)) = x8
  have key : ∀ x1 x2 x3 x4 x5 x6 x7 x8 : Bool, (x1 && !x4 || x2 && !x3 || x5 && true && !x4 || x6 && true && !x3) = ((x1 || x5) && !x4 || (x2 || x6) && !x3 || x7 && false && !x4 || x8 && false && !x3) := by decide
  exact key x1 x2 x3 x4 x5 x6 x7 x8
theorem midT_zero {c : List Int} {a b : Nat} : midT c 0 0 a b = false := by
  unfold midT
  simp
theorem midT_done {c : List Int} {a b : Nat} : midT c c.length 0 a b = parts c a b := by
  unfold midT parts
  rw [List.take_length, List.getElem?_eq_none (Nat.le_refl _)]
  generalize decide ((a : Int) ∈ c) = x
  generalize decide ((b : Int) ∈ c) = y
  cases x <;> cases y <;> simp
/-- one partner more -/
theorem midT_step {c : List Int} {p i j : Nat} (hi : c[p]? = some (i : Int)) (nd : c.Nodup) (hj : (j : Int) ∉ c) (a b : Nat) : midT c p (j + 1) a b = (midT c p j a b || (decide (a = i ∧ b = j) || decide (a = j ∧ b = i))) := by
  unfold midT
  rw [hi]
  have e : ∀ x : Nat, decide (some (i : Int) = some (x : Int)) = decide (x = i) := fun x => by
    refine decide_eq_decide.mpr ⟨fun h => ?_, fun h => by rw [h]⟩
    have h2 : (i : Int) = x := by simpa using h
    omega
  have l : ∀ x : Nat, decide (x < j + 1) = (decide (x < j) || decide (x = j)) := fun x => by
    rw [← Bool.decide_or]
    exact decide_eq_decide.mpr (by omega)
  rw [e, e, l, l, Bool.decide_and, Bool.decide_and]
  have f1 : decide (a = j) = true → decide ((a : Int) ∈ c) = false := fun h => by
    rw [of_decide_eq_true h]; exact decide_eq_false hj
  have f2 : decide (b = j) = true → decide ((b : Int) ∈ c) = false := fun h => by
    rw [of_decide_eq_true h]; exact decide_eq_false hj
  generalize (decide ((a : Int) ∈ c.take p) && !decide ((b : Int) ∈ c) || decide ((b : Int) ∈ c.take p) && !decide ((a : Int) ∈ c)) = t
  generalize decide ((a : Int) ∈ c) = x3 at f1 ⊢
  generalize decide ((b : Int) ∈ c) = x4 at f2 ⊢
  generalize decide (a = i) = x5
  generalize decide (b = i) = x6
  generalize decide (a < j) = y1
  generalize decide (b < j) = y2
  generalize decide (a = j) = z1 at f1 ⊢
  generalize decide (b = j) = z2 at f2 ⊢
  have key : ∀ t x3 x4 x5 x6 y1 y2 z1 z2 : Bool, (z1 = true → x3 = false) → (z2 = true → x4 = false) → (t || x5 && (y2 || z2) && !x4 || x6 && (y1 || z1) && !x3) = (t || x5 && y2 && !x4 || x6 && y1 && !x3 || (x5 && z2 || z1 && x6)) := by decide
  exact key t x3 x4 x5 x6 y1 y2 z1 z2 f1 f2
theorem midT_skip {c : List Int} {p j : Nat} (hj : (j : Int) ∈ c) (a b : Nat) : midT c p (j + 1) a b = midT c p j a b := by
  unfold midT
  have l : ∀ x : Nat, (decide (x < j + 1) && !decide ((x : Int) ∈ c)) = (decide (x < j) && !decide ((x : Int) ∈ c)) := fun x => by
    by_cases h : x = j
    · rw [h, decide_eq_true hj]; simp
    · rw [show decide (x < j + 1) = decide (x < j) from decide_eq_decide.mpr (by omega)]
  rw [Bool.and_assoc, Bool.and_assoc, Bool.and_assoc, Bool.and_assoc, l, l]
section
variable {P : Program} {w : World} {K : PySem.W.Frag} {mg : Str → Option Value} {base : Heap}
def gM (ws : List (List Int × Rat)) (k : Nat) (u : List Int × Rat) (p j a b : Nat) : Rat := sumW (ws.take k) a b + if midT u.1 p j a b then u.2 else 0
def pTableD : Pre := fun ds Q => ∃ (n : Nat) (ws : List (List Int × Rat)), ds = [.int n, WD ws] ∧ n ≤ 10 ∧ (∀ u ∈ ws, u.1.Nodup ∧ ∀ x ∈ u.1, 0 ≤ x ∧ x < n) ∧ (∀ u ∈ ws, Bd 3900 u.2) ∧ (∀ k i j, Bd 3900 (sumW (ws.take k) i j)) ∧ Q (.li (.li .lf)) (TD (tabG n (sumW ws)))
theorem ok_l_table {f : Addr} {fd : FuncData} (F : Fun K "_law_table" "_law_table" s_l_table f fd) (T : Tx K mg) (c_l_plus : Cal P w K mg base 2 "_law_plus" (spV K pPlusR) []) : FnOk P w K mg base CX0 3 f fd P_l_table (spV K pTableD) := by
  refine okV F sc_l_table (fun ds Q h => ?_) fun cdv A outer s H E hr => ⟨_, (pss_cons (ps_setLc (i := 2) (own := [("i", 3)]) (g := gName 3) (tt := tYes) rfl sc_l_table.nd rfl rfl (sw_true rfl rfl rfl (by decide +kernel)) (pi_range1 (by rfl) T.range_ (pa_cons (pv 0) pa_nil)) (blkOk_by (own := [("i", 3)]) (N := N_l_table) (sc := defScope s_l_table) (by decide +kernel)) (fun _ _ _ _ _ => (pg_name (i := 3) sc_l_table.nd rfl (Or.inl rfl))) (fun _ _ _ _ _ => pts_nil) (fun _ _ _ _ _ => (pe_lc (own := [("j", 4)]) (g := gName 4) (tt := tYes) rfl sc_l_table.nd (pi_range1 (by rfl) T.range_ (pa_cons (pv 0) pa_nil)) (blkOk_by (own := [("j", 4)]) (by rfl)) (fun _ _ _ _ _ => (pg_name (i := 4) sc_l_table.nd rfl (Or.inl rfl))) (fun _ _ _ _ _ => pts_nil) (fun _ _ _ _ _ => (pe_tup (pa_cons pe_int (pa_cons pe_int pa_nil)))))))
  (pss_cons (ps_for PassesOwn.never rfl (k_piL (K := K) (pv 1)) (k_tup (K := K) (n := 2) rfl (pgs_cons (pg_name (i := 5) sc_l_table.nd rfl (Or.inl rfl)) (pgs_cons (pg_name (i := 6) sc_l_table.nd rfl (Or.inl rfl)) pgs_nil)))
  (pss_one (ps_for PassesOwn.never rfl (k_piL (K := K) (pv 5)) (pg_name (i := 3) sc_l_table.nd rfl (Or.inl rfl))
  (pss_one (ps_for PassesOwn.never rfl (pi_range1 (by rfl) T.range_ (pa_cons (pv 0) pa_nil)) (pg_name (i := 4) sc_l_table.nd rfl (Or.inl rfl))
  (pss_one (ps_if (pt_cmpR (k_notIn (K := K)) (pv 4) (pv 5) rfl)
  (pss_cons (ps_asg (pe_c c_l_plus hr (by decide) rfl (pa_cons (pe_ix (k_ixL (K := K)) (pe_ix (k_ixL (K := K)) (pv 2) (pv 3) (fun _ _ => rfl)) (pv 4) (fun _ _ => rfl)) (pa_cons (pv 6) pa_nil))) (pg_sub (pe_ix (k_ixL (K := K)) (pv 2) (pv 3) (fun _ _ => rfl)) (pv 4) set_list))
  (pss_one (ps_asg (pe_ix (k_ixL (K := K)) (pe_ix (k_ixL (K := K)) (pv 2) (pv 3) (fun _ _ => rfl)) (pv 4) (fun _ _ => rfl)) (pg_sub (pe_ix (k_ixL (K := K)) (pv 2) (pv 4) (fun _ _ => rfl)) (pv 3) set_list))))
  pss_nil)))))))
  (pss_one (ps_ret (pv 2))))), fun ds Q h => ?_⟩
  · obtain ⟨_, _, rfl, _⟩ := h
    rfl
  · obtain ⟨n, ws, rfl, hn, hc, hw, bs, q⟩ := h
    walk_at "goK"
    refine LcB_m (.li .lf) (fun _ => FL (rowG n fun _ => 0)) (by rw [List.length_range]; omega) (fun x hx => ?_) ?_
    · refine GC_name (by decide) ?_
      walk_at "goW"
      refine LcB_m .lf (fun _ => FD 0) (by rw [List.length_range]; omega) (fun x hx => ?_) ?_
      · refine GC_name (by decide) ?_
        walk_at "goW"
        exact ⟨.inl rfl, rfl, rfl⟩
      · refine ⟨.inl rfl, ?_, rfl⟩
        show PyData.list _ = PyData.list _
        rw [rowG, List.map_map]; rfl
    rw [show (List.range n).map (fun _ : Nat => FL (rowG n fun _ => 0)) = (tabG n fun _ _ => (0 : Rat)).map FL by rw [tabG, List.map_map]; rfl]
    walk_at "goW"
    refine ForB_map (f := CD) (fun k Γ => ∃ (x3 x4 x5 x6 : Sl), Γ = [.v .lf (.int n), .v .lf (WD ws), .v (.li (.li .lf)) (TD (tabG n (sumW (ws.take k)))), x3, x4, x5, x6]) ⟨_, _, _, _, rfl⟩ ?_ ?_
    · rintro k u Γ hu ⟨x3, x4, x5, x6, rfl⟩
      obtain ⟨c, v⟩ := u
      have hm := mem_of_at hu
      obtain ⟨nd, rg⟩ := hc _ hm
      have bv := hw _ hm
      rw [show TD (tabG n (sumW (ws.take k))) = TD (tabG n (gM ws k (c, v) 0 0)) from congrArg TD (tabG_congr fun a b _ _ => by unfold gM; rw [midT_zero, if_neg (by decide), Rat.add_zero])]
      walk_at "goW"
      refine ForB_map (f := PyData.int) (fun p Γ => ∃ (x3 x4 : Sl), Γ = [.v .lf (.int n), .v .lf (WD ws), .v (.li (.li .lf)) (TD (tabG n (gM ws k (c, v) p 0))), x3, x4, .v .lf (IL c), .v .lf (FD v)]) ⟨_, _, rfl⟩ ?_ ?_
      · rintro p z Γ hz ⟨x3, x4, rfl⟩
        obtain ⟨z0, z1⟩ := rg z (mem_of_at hz)
        obtain ⟨i, rfl⟩ : ∃ i : Nat, z = i := ⟨z.toNat, by omega⟩
        have hi : i < n := by omega
        walk_at "goW"
        refine ForB_rng (fun j Γ => ∃ (x4 : Sl), Γ = [.v .lf (.int n), .v .lf (WD ws), .v (.li (.li .lf)) (TD (tabG n (gM ws k (c, v) p j))), .v .lf (.int (i : Nat)), x4, .v .lf (IL c), .v .lf (FD v)]) ⟨_, rfl⟩ ?_ ?_
        · rintro j Γ hj ⟨x4, rfl⟩
          walk_at "goW"
          refine ifND (fun h => ?_) (fun h => ?_)
          · have ij : i ≠ j := fun e => h (e ▸ mem_of_at hz)
            have old : gM ws k (c, v) p j i j = sumW (ws.take k) i j := by
              unfold gM
              have m0 : midT c p j i j = false := by
                unfold midT
                have t1 : ¬ ((i : Int) ∈ c.take p) := fun m => by
                  have := (List.take_sublist (p + 1) c).nodup nd
                  rw [take_snoc hz] at this
                  exact (List.nodup_append.mp this).2.2 _ m _ (List.mem_singleton.mpr rfl) rfl
                have t2 : ¬ ((j : Int) ∈ c.take p) := fun m => h (List.mem_of_mem_take m)
                have t3 : ¬ (c[p]? = some (j : Int)) := fun m => h (List.mem_of_getElem? m)
                rw [decide_eq_false t1, decide_eq_false t2, decide_eq_false t3, decide_eq_false (Nat.lt_irrefl j)]
                simp
              show _ + (if midT c p j i j then v else 0) = _
              rw [m0, if_neg (by decide), Rat.add_zero]
            walk_at "goW"
            refine plusF (by rw [old]; exact (bs k i j).mono (by decide)) (bv.mono (by decide)) ?_
            rw [old]
            walk_at "goW"
            refine ⟨.v .lf (.int (j : Nat)), ?_⟩
            have e : TD (tabG n (gM ws k (c, v) p (j + 1))) = TD (tabG n fun a b => if a = j ∧ b = i then (if i = i ∧ j = j then sumW (ws.take k) i j + v else gM ws k (c, v) p j i j) else if a = i ∧ b = j then sumW (ws.take k) i j + v else gM ws k (c, v) p j a b) := congrArg TD (tabG_congr fun a b ha hb => by
              have st := midT_step hz nd h a b
              by_cases c1 : a = i ∧ b = j
              · obtain ⟨rfl, rfl⟩ := c1
                rw [if_neg (fun k => ij k.1), if_pos ⟨rfl, rfl⟩]
                unfold gM
                show _ + (if midT c p (b + 1) a b then v else 0) = _
                rw [st]
                simp
              · by_cases c2 : a = j ∧ b = i
                · obtain ⟨rfl, rfl⟩ := c2
                  rw [if_pos ⟨rfl, rfl⟩, if_pos ⟨rfl, rfl⟩]
                  unfold gM
                  show sumW (ws.take k) a b + (if midT c p (a + 1) a b then v else 0) = _
                  rw [st, sumW_symm (ws.take k) a b]
                  simp
                · rw [if_neg c2, if_neg c1]
                  unfold gM
                  show _ + (if midT c p (j + 1) a b then v else 0) = _ + (if midT c p j a b then v else 0)
                  rw [st, decide_eq_false c1, decide_eq_false c2]
                  simp)
            rw [e]
            rfl
          · walk_at "goW"
            refine ⟨.v .lf (.int (j : Nat)), ?_⟩
            rw [show TD (tabG n (gM ws k (c, v) p (j + 1))) = TD (tabG n (gM ws k (c, v) p j)) from congrArg TD (tabG_congr fun a b _ _ => by unfold gM; rw [midT_skip h])]
            rfl
        · rintro Γ ⟨x4, rfl⟩
          walk_at "goW"
          refine ⟨.v .lf (.int (i : Nat)), x4, ?_⟩
          rw [show TD (tabG n (gM ws k (c, v) (p + 1) 0)) = TD (tabG n (gM ws k (c, v) p n)) from congrArg TD (tabG_congr fun a b ha hb => by unfold gM; rw [midT_next nd hz ha hb])]
      · rintro Γ ⟨x3, x4, rfl⟩
        walk_at "goW"
        refine ⟨x3, x4, .v .lf (IL c), .v .lf (FD v), ?_⟩
        rw [show TD (tabG n (sumW (ws.take (k + 1)))) = TD (tabG n (gM ws k (c, v) c.length 0)) from congrArg TD (tabG_congr fun a b ha hb => by
          unfold gM
          rw [take_snoc hu, sumW_snoc, midT_done]
          show (if parts c a b then _ + v else _) = _
          split
          · rfl
          · rw [Rat.add_zero])]
    · rintro Γ ⟨x3, x4, x5, x6, rfl⟩
      rw [List.take_length]
      walk_at "goW"
      exact q
end
/-- a table's cell, drawn -/
abbrev Tq (x : Rat) : Prop := Zs bL (2 ^ 120 * bL) x
theorem Tq.zero : Tq 0 := Zs.zero (Int.mul_nonneg (by decide) (by have := bL_pos; omega))
theorem Wq.tq {x : Rat} (h : Wq x) : Tq x := h.mono (Int.mul_le_mul_of_nonneg_right (by decide) (by have := bL_pos; omega))
theorem Wq.int {z : Int} (h1 : -(2 ^ 112) ≤ z) (h2 : z ≤ 2 ^ 112) : Wq (z : Rat) := by
  rw [int_div1]
  exact Wq.low h1 h2 (by decide) (by decide)
theorem two_bL {k : Nat} (h : 2 ^ k * bL < 2 ^ 400) : True := trivial
theorem tq_lt : (2 : Int) ^ 120 * bL < 2 ^ 300 := by
  have h := bL_lt
  have : (2 : Int) ^ 120 * bL < 2 ^ 120 * 2 ^ 136 := Int.mul_lt_mul_of_pos_left h (by decide)
  have e : (2 : Int) ^ 120 * 2 ^ 136 < 2 ^ 300 := by decide +kernel
  omega
theorem Tq.bd {x : Rat} (h : Tq x) : Bd 300 x := Zs.bd h bL_pos (by have := bL_lt; have e : (2 : Int) ^ 136 < 2 ^ 300 := by decide +kernel
                                                                    omega) tq_lt
theorem Wq.bd {x : Rat} (h : Wq x) : Bd 300 x := h.tq.bd
theorem Wp.bd {x : Rat} (h : Wp x) : Bd 300 x := h.1.bd
/-- sums of drawn weights -/
theorem sum_zs {n : Nat} {ws : List (List Int × Rat)} (D : Wds n ws) (k i j : Nat) : Zs bL (16 * (2 ^ 112 * bL)) (sumW (ws.take k) i j) := by
  have hM : (0 : Int) ≤ 2 ^ 112 * bL := Int.mul_nonneg (by decide) (by have := bL_pos; omega)
  have key : ∀ m : Nat, m ≤ ws.length → Zs bL (m * (2 ^ 112 * bL)) (sumW (ws.take m) i j) := fun m => by
    induction m with
    | zero => intro _; rw [List.take_zero]; exact Zs.zero (by omega)
    | succ m ih =>
      intro hm
      have hl : m < ws.length := by omega
      rw [take_snoc (List.getElem?_eq_getElem hl), sumW_snoc]
      have e : (((m + 1 : Nat) : Int)) * (2 ^ 112 * bL) = m * (2 ^ 112 * bL) + 2 ^ 112 * bL := by rw [Int.natCast_add, Int.add_mul]; omega
      rw [e]
      split
      · exact (ih (by omega)).add bL_pos (D.wt _ (List.getElem_mem hl)).1
      · exact (ih (by omega)).mono (by omega)
  have l := D.len
  by_cases c : k ≤ ws.length
  · exact (key k c).mono (Int.mul_le_mul_of_nonneg_right (by omega) hM)
  · rw [List.take_of_length_le (by omega), ← List.take_length (l := ws)]
    exact (key ws.length (Nat.le_refl _)).mono (Int.mul_le_mul_of_nonneg_right (by omega) hM)
theorem sum_tq {n : Nat} {ws : List (List Int × Rat)} (D : Wds n ws) (k i j : Nat) : Zs bL (2 ^ 116 * bL) (sumW (ws.take k) i j) := (sum_zs D k i j).mono (by rw [← Int.mul_assoc]; exact Int.le_of_eq (by congr 1))
theorem Wds.cuts {n : Nat} {ws : List (List Int × Rat)} (D : Wds n ws) (n1 : 1 ≤ n) : ∀ u ∈ ws, u.1.Nodup ∧ ∀ x ∈ u.1, 0 ≤ x ∧ x < n := fun u hu => by
  obtain ⟨_, h1, h2⟩ := cutsL_mem.mp (D.cut u hu)
  exact ⟨h1.imp fun h e => by omega, fun x hx => by have := h2 x hx; omega⟩
theorem zw_mapF {α β : Type} {f : α → PyData} {g : β → PyData} : ∀ (xs : List α) (ys : List β), List.zipWith (fun x y => PyData.tuple [x, y]) (xs.map f) (ys.map g) = (xs.zip ys).map fun u => .tuple [f u.1, g u.2]
  | [], _ => by simp
  | _ :: _, [] => by simp
  | x :: xs, y :: ys => by rw [List.map_cons, List.map_cons, List.zipWith_cons_cons, zw_mapF xs ys]; rfl
theorem tab_of {n : Nat} {R : List (List Rat)} (h : R.length = n) (h2 : ∀ r ∈ R, r.length = n) : R = tabG n fun i j => (R.getD i []).getD j 0 := by
  unfold tabG
  apply List.ext_getElem
  · rw [List.length_map, List.length_range]; exact h
  · intro i a b
    have hr := h2 _ (List.getElem_mem a)
    rw [List.getElem_map, List.getElem_range]
    apply List.ext_getElem
    · rw [List.length_map, List.length_range]; exact hr
    · intro j c d
      rw [List.getElem_map, List.getElem_range]
      show R[i][j] = (R.getD i []).getD j 0
      rw [List.getD_eq_getElem?_getD (l := R), List.getElem?_eq_getElem a, List.getD_eq_getElem?_getD]
      show R[i][j] = ((R[i])[j]?).getD 0
      rw [List.getElem?_eq_getElem c]; rfl
theorem tab_all {F : Rat → Prop} {R : List (List Rat)} (h0 : F 0) (h : ∀ r ∈ R, ∀ x ∈ r, F x) (i j : Nat) : F ((R.getD i []).getD j 0) := by
  rw [List.getD_eq_getElem?_getD (l := R)]
  by_cases c : i < R.length
  · rw [List.getElem?_eq_getElem c]
    show F ((R[i]).getD j 0)
    rw [List.getD_eq_getElem?_getD]
    by_cases d : j < (R[i]).length
    · rw [List.getElem?_eq_getElem d]
      exact h _ (List.getElem_mem c) _ (List.getElem_mem d)
    · rw [List.getElem?_eq_none (by omega)]; exact h0
  · rw [List.getElem?_eq_none (by omega)]; simpa using h0
theorem pair_at' {α : Type} {p : α → α → Prop} {l : List α} (h : l.Pairwise p) {i j : Nat} {x y : α} (hi : l[i]? = some x) (hj : l[j]? = some y) (l : i < j) : p x y := by
  obtain ⟨h1, e1⟩ := List.getElem?_eq_some_iff.mp hi
  obtain ⟨h2, e2⟩ := List.getElem?_eq_some_iff.mp hj
  rw [← e1, ← e2]
  exact List.pairwise_iff_getElem.mp h i j h1 h2 l
def isCut (n : Int) (C : List Int) : Bool := decide (C ≠ [] ∧ C.Pairwise (· < ·) ∧ ∀ x ∈ C, 0 < x ∧ x < n)
/-- weighted cuts of n points, rising, weights above nought -/
def risB (ws : List (List Int × Rat)) : Bool := (List.range (ws.length - 1)).all fun k => decide ((ws.getD k default).1 < (ws.getD (k + 1) default).1)
def wOkB (n : Int) (ws : List (List Int × Rat)) : Bool := (ws.all fun u => isCut n u.1 && decide (0 < u.2)) && risB ws
/-- whether weighted cuts come to a table -/
def okCuts (R : List (List Rat)) (ws : List (List Int × Rat)) : Bool := wOkB (R.length : Nat) ws && decide (tabG R.length (sumW ws) = R)
theorem wOk_cuts {n : Nat} {ws : List (List Int × Rat)} (h : wOkB (n : Nat) ws = true) : ∀ u ∈ ws, u.1.Nodup ∧ ∀ x ∈ u.1, 0 ≤ x ∧ x < n := fun u hu => by
  unfold wOkB at h
  rw [Bool.and_eq_true, List.all_eq_true] at h
  have := h.1 u hu
  rw [Bool.and_eq_true] at this
  have c := of_decide_eq_true this.1
  exact ⟨c.2.1.imp fun h e => by omega, fun x hx => by have := c.2.2 x hx; omega⟩
theorem numPos {x : Rat} : 0 < x.num ↔ 0 < x := by
  rw [Rat.lt_iff]
  show _ ↔ (0 : Int) * (x.den : Int) < x.num * ((1 : Nat) : Int)
  rw [Int.zero_mul, Int.natCast_one, Int.mul_one]
/-- a rising list, looked at place by place -/
theorem cut_rise {n : Int} {C : List Int} (h0 : C ≠ []) (h : ∀ k, k < C.length → C.getD k 0 < n ∧ ([0] ++ C).getD k 0 < C.getD k 0) : C ≠ [] ∧ C.Pairwise (· < ·) ∧ ∀ x ∈ C, 0 < x ∧ x < n := by
  have ge : ∀ k (hk : k < C.length), C.getD k 0 = C[k] := fun k hk => by rw [List.getD_eq_getElem?_getD, List.getElem?_eq_getElem hk]; rfl
  have st : ∀ k, k + 1 < C.length → C.getD k 0 < C.getD (k + 1) 0 := fun k hk => by
    have := (h (k + 1) hk).2
    exact this
  have first : 0 < C.length → 0 < C.getD 0 0 := fun hk => (h 0 hk).2
  have rise : ∀ j i, i < j → j < C.length → C.getD i 0 < C.getD j 0 := fun j => by
    induction j with
    | zero => intro i h1; omega
    | succ j ih =>
      intro i h1 h2
      have s := st j h2
      by_cases c : i = j
      · rw [c]; exact s
      · have := ih i (by omega) (by omega); omega
  refine ⟨h0, List.pairwise_iff_getElem.mpr fun i j hi hj ij => ?_, fun x hx => ?_⟩
  · rw [← ge i hi, ← ge j hj]; exact rise j i ij hj
  · obtain ⟨k, hk, rfl⟩ := List.mem_iff_getElem.mp hx
    rw [← ge k hk]
    refine ⟨?_, (h k hk).1⟩
    have f := first (by omega)
    by_cases c : k = 0
    · rw [c]; exact f
    · have := rise k 0 (by omega) hk; omega
section
variable {P : Program} {w : World} {K : PySem.W.Frag} {mg : Str → Option Value} {base : Heap}
theorem wd_len {ws : List (List Int × Rat)} (h : ∀ u ∈ ws, u.1.length < 64) : True := trivial
def pIsCutL : Pre := fun ds Q => ∃ (n : Int) (C : List Int), ds = [.int n, IL C] ∧ C.length < 64 ∧ Q .lf (.bool (isCut n C))
theorem ok_l_is_cut {f : Addr} {fd : FuncData} (F : Fun K "_law_is_cut" "_law_is_cut" s_l_is_cut f fd) (T : Tx K mg) : FnOk P w K mg base CX0 1 f fd P_l_is_cut (spV K pIsCutL) := by
  refine okV F sc_l_is_cut (fun ds Q h => ?_) fun cdv A outer s H E hr => ⟨_, (pss_cons (ps_if (PW.pt (pw_or (pt_not (pt_val (pe_callB (k_isi (K := K)) (by rfl) T.isinstance_ (by decide +kernel) (pa_cons (pv 1) (pa_cons (pe_bltn (v := .ty "list") (by rfl) T.list_ (by decide +kernel) rfl) pa_nil))))) (pw_or1 (pt_cmpR (k_eqD (K := K) hr.units) (pv 1) (pe_lst pa_nil) (nomark _)))))
  (pss_one (ps_ret pe_bl))
  pss_nil)
  (pss_cons (ps_for PassesOwn.never rfl (pi_range1 (by rfl) T.range_ (pa_cons (pe_callB (k_len (K := K)) (by rfl) T.len_ (by decide +kernel) (pa_cons (pv 1) pa_nil)) pa_nil)) (pg_name (i := 2) sc_l_is_cut.nd rfl (Or.inl rfl))
  (pss_one (ps_if (PW.pt (pw_or (pt_not (pt_val (pe_callB (k_isi (K := K)) (by rfl) T.isinstance_ (by decide +kernel) (pa_cons (pe_ix (k_ixL (K := K)) (pv 1) (pv 2) (fun _ _ => rfl)) (pa_cons (pe_bltn (v := .ty "int") (by rfl) T.int_ (by decide +kernel) rfl) pa_nil))))) (pw_or (pt_val (pe_callB (k_isi (K := K)) (by rfl) T.isinstance_ (by decide +kernel) (pa_cons (pe_ix (k_ixL (K := K)) (pv 1) (pv 2) (fun _ _ => rfl)) (pa_cons (pe_bltn (v := .ty "bool") (by rfl) T.bool_ (by decide +kernel) rfl) pa_nil)))) (pw_or (pt_cmpR op_ge (pe_ix (k_ixL (K := K)) (pv 1) (pv 2) (fun _ _ => rfl)) (pv 0) (nomark _)) (pw_or1 (pt_cmpR op_le (pe_ix (k_ixL (K := K)) (pv 1) (pv 2) (fun _ _ => rfl)) (pe_ix (k_ixL (K := K)) (pe_op op_cat (pe_lst (pa_cons pe_int pa_nil)) (pv 1)) (pv 2) (fun _ _ => rfl)) (nomark _)))))))
  (pss_one (ps_ret pe_bl))
  pss_nil)))
  (pss_one (ps_ret pe_bl)))), fun ds Q h => ?_⟩
  · obtain ⟨_, _, rfl, _⟩ := h
    rfl
  · obtain ⟨n, C, rfl, hl, q⟩ := h
    walk_at "goK"
    refine ifD (fun h => ?_) (fun h0 => ?_)
    · walk_at "goW"
      subst h
      exact q
    walk_at "goW"
    refine ForB_rng (fun i Γ => ∃ (x2 : Sl), Γ = [.v .lf (.int n), .v .lf (IL C), x2] ∧ ∀ k, k < i → C.getD k 0 < n ∧ ([0] ++ C).getD k 0 < C.getD k 0) ⟨_, rfl, fun k hk => absurd hk (by omega)⟩ ?_ ?_
    · rintro i Γ hi ⟨x2, rfl, old⟩
      have hm : C.getD i 0 ∈ C := by
        rw [List.getD_eq_getElem?_getD, List.getElem?_eq_getElem hi]; exact List.getElem_mem _
      walk_at "goW"
      refine ifD (fun h => ?_) (fun h => ?_)
      · walk_at "goW"
        have e : isCut n C = false := decide_eq_false fun k => by have := (k.2.2 _ hm).2; omega
        rw [e] at q
        exact q
      walk_at "goW"
      refine ifD (fun h2 => ?_) (fun h2 => ?_)
      · walk_at "goW"
        have e : isCut n C = false := decide_eq_false fun k => by
          rcases Nat.eq_zero_or_pos i with c | c
          · subst c
            have := (k.2.2 _ hm).1
            have h3 : C.getD 0 0 ≤ 0 := h2
            omega
          · obtain ⟨j, rfl⟩ : ∃ j, i = j + 1 := ⟨i - 1, by omega⟩
            have h3 : C.getD (j + 1) 0 ≤ C.getD j 0 := h2
            rw [List.getD_eq_getElem?_getD, List.getElem?_eq_getElem hi, List.getD_eq_getElem?_getD, List.getElem?_eq_getElem (by omega)] at h3
            have := List.pairwise_iff_getElem.mp k.2.1 j (j + 1) (by omega) hi (by omega)
            have h4 : C[j + 1] ≤ C[j] := h3
            omega
        rw [e] at q
        exact q
      · walk_at "goW"
        refine ⟨_, rfl, fun k hk => ?_⟩
        by_cases c : k = i
        · rw [c]; exact ⟨by omega, Int.not_le.mp h2⟩
        · exact old k (by omega)
    · rintro Γ ⟨x2, rfl, all⟩
      walk_at "goW"
      have e : isCut n C = true := decide_eq_true (cut_rise h0 all)
      rw [e] at q
      exact q
def pSumOf : Pre := fun ds Q => ∃ (R : List (List Rat)) (ws : List (List Int × Rat)), ds = [.int (R.length : Nat), WD ws, TD R] ∧ R.length ≤ 10 ∧ ws.length ≤ 100 ∧ (∀ u ∈ ws, u.1.length < 64 ∧ Bd 1900 u.2) ∧ (∀ k i j, Bd 3900 (sumW (ws.take k) i j)) ∧ Q .lf (.bool (okCuts R ws))
theorem ok_l_sum_of {f : Addr} {fd : FuncData} (F : Fun K "_law_sum_of" "_law_sum_of" s_l_sum_of f fd) (T : Tx K mg) (c_l_table : Cal P w K mg base 3 "_law_table" (spV K pTableD) []) (c_l_is_fraction : Cal P w K mg base 2 "_law_is_fraction" (spV K pIsFr) []) (c_l_is_cut : Cal P w K mg base 1 "_law_is_cut" (spV K pIsCutL) []) : FnOk P w K mg base CX0 4 f fd P_l_sum_of (spV K pSumOf) := by
  refine okV F sc_l_sum_of (fun ds Q h => ?_) fun cdv A outer s H E hr => ⟨_, (pss_cons (ps_if (pt_not (pt_val (pe_callB (k_isi (K := K)) (by rfl) T.isinstance_ (by decide +kernel) (pa_cons (pv 1) (pa_cons (pe_bltn (v := .ty "list") (by rfl) T.list_ (by decide +kernel) rfl) pa_nil)))))
  (pss_one (ps_ret pe_bl))
  pss_nil)
  (pss_cons (ps_for PassesOwn.never rfl (k_piL (K := K) (pv 1)) (pg_name (i := 3) sc_l_sum_of.nd rfl (Or.inl rfl))
  (pss_cons (ps_if (PW.pt (pw_or (pt_not (pt_val (pe_callB (k_isi (K := K)) (by rfl) T.isinstance_ (by decide +kernel) (pa_cons (pv 3) (pa_cons (pe_bltn (v := .ty "tuple") (by rfl) T.tuple_ (by decide +kernel) rfl) pa_nil))))) (pw_or (pt_cmpR op_ne (pe_callB (k_len (K := K)) (by rfl) T.len_ (by decide +kernel) (pa_cons (pv 3) pa_nil)) pe_int (nomark _)) (pw_or1 (pt_not (pt_val (pe_c c_l_is_cut hr (by decide) rfl (pa_cons (pv 0) (pa_cons (pe_ix (k_ixT (K := K)) (pv 3) pe_int (fun _ _ => rfl)) pa_nil)))))))))
  (pss_one (ps_ret pe_bl))
  pss_nil)
  (pss_one (ps_if (PW.pt (pw_or (pt_not (pt_val (pe_c c_l_is_fraction hr (by decide) rfl (pa_cons (pe_ix (k_ixT (K := K)) (pv 3) pe_int (fun _ _ => rfl)) pa_nil)))) (pw_or1 (pt_cmpR op_lt (pe_ix (k_ixT (K := K)) (pe_ix (k_ixT (K := K)) (pv 3) pe_int (fun _ _ => rfl)) pe_int (fun _ _ => rfl)) pe_int (nomark _)))))
  (pss_one (ps_ret pe_bl))
  pss_nil))))
  (pss_cons (ps_for PassesOwn.never rfl (k_zip (K := K) (by rfl) T.zip_ (pa_cons (pv 1) (pa_cons (pe_slice (k_slL (K := K)) (pv 1) (po_some pe_int) po_none) pa_nil))) (k_tup (K := K) (n := 2) rfl (pgs_cons (pg_name (i := 3) sc_l_sum_of.nd rfl (Or.inl rfl)) (pgs_cons (pg_name (i := 4) sc_l_sum_of.nd rfl (Or.inl rfl)) pgs_nil)))
  (pss_one (ps_if (pt_cmpR (k_geD (K := K) hr.units65) (pe_ix (k_ixT (K := K)) (pv 3) pe_int (fun _ _ => rfl)) (pe_ix (k_ixT (K := K)) (pv 4) pe_int (fun _ _ => rfl)) (nomark _))
  (pss_one (ps_ret pe_bl))
  pss_nil)))
  (pss_one (ps_ret (pe_cmpR (k_eqD (K := K) hr.units) (pe_c c_l_table hr (by decide) rfl (pa_cons (pv 0) (pa_cons (pv 1) pa_nil))) (pv 2) (nomark _))))))), fun ds Q h => ?_⟩
  · obtain ⟨_, _, rfl, _⟩ := h
    rfl
  · obtain ⟨R, ws, rfl, lR, lw, hw, bs, q⟩ := h
    have no : ∀ u ∈ ws, (isCut (R.length : Nat) u.1 && decide (0 < u.2)) = false → Q .lf (.bool false) := fun u hu h => by
      rw [okCuts, wOkB, show (ws.all fun u => isCut (R.length : Nat) u.1 && decide (0 < u.2)) = false from List.all_eq_false.mpr ⟨u, hu, by rw [h]; decide⟩] at q
      exact q
    walk_at "goK"
    refine ForB_map (f := CD) (fun i Γ => ∃ (x3 : Sl), Γ = [.v .lf (.int (R.length : Nat)), .v .lf (WD ws), .v .lf (TD R), x3, .un] ∧ ∀ u ∈ ws.take i, (isCut (R.length : Nat) u.1 && decide (0 < u.2)) = true) ⟨_, rfl, fun u hu => by rw [List.take_zero] at hu; exact nomatch hu⟩ ?_ ?_
    · rintro i u Γ hu ⟨x2, rfl, old⟩
      have hm := mem_of_at hu
      walk_at "goW"
      refine ifND (fun h => absurd rfl h) (fun _ => ?_)
      walk_at "goW"
      refine ⟨_, u.1, rfl, (hw u hm).1, ?_⟩
      walk_at "goW"
      cases hc : isCut (R.length : Nat) u.1 with
      | false =>
        walk_at "goW"
        exact no u hm (by rw [hc]; rfl)
      | true =>
        walk_at "goW"
        refine ⟨u.2, rfl, (hw u hm).2.mono (by decide), ?_⟩
        walk_at "goW"
        refine ifD (fun h => ?_) (fun h => ?_)
        · walk_at "goW"
          exact no u hm (by rw [hc, Bool.true_and]; exact decide_eq_false fun k => by have := numPos.mpr k; omega)
        · walk_at "goW"
          refine ⟨_, rfl, fun v hv => ?_⟩
          rw [take_snoc hu] at hv
          rcases List.mem_append.mp hv with hv | hv
          · exact old v hv
          · rw [List.mem_singleton.mp hv, hc, Bool.true_and]; exact decide_eq_true (numPos.mp (by omega))
    · rintro Γ ⟨x3, rfl, all⟩
      rw [List.take_length] at all
      walk_at "goW"
      rw [show (1 : Int) = ((1 : Nat) : Int) from rfl, cutG_from, ← List.map_drop, zw_mapF]
      have lz : (ws.zip (ws.drop 1)).length = ws.length - 1 := by rw [List.length_zip, List.length_drop]; omega
      have at_ : ∀ (i : Nat) u, (ws.zip (ws.drop 1))[i]? = some u → u.1 = ws.getD i default ∧ u.2 = ws.getD (i + 1) default ∧ i < ws.length - 1 := fun i u hu => by
        have hl := (List.getElem?_eq_some_iff.mp hu).1
        rw [lz] at hl
        rw [List.getElem?_zip_eq_some, List.getElem?_drop] at hu
        rw [List.getD_eq_getElem?_getD, hu.1, List.getD_eq_getElem?_getD, Nat.add_comm i 1, hu.2]
        exact ⟨rfl, rfl, hl⟩
      refine ForB_map (fun i Γ => ∃ (x3 x4 : Sl), Γ = [.v .lf (.int (R.length : Nat)), .v .lf (WD ws), .v .lf (TD R), x3, x4] ∧ ∀ k, k < i → (ws.getD k default).1 < (ws.getD (k + 1) default).1) ⟨_, _, rfl, fun k hk => absurd hk (by omega)⟩ ?_ ?_
      · rintro i u Γ hu ⟨x3, x4, rfl, old⟩
        obtain ⟨e1, e2, il⟩ := at_ i u hu
        refine GW_tupB rfl ?_
        walk_at "goW"
        rw [e1, e2]
        refine ifND (fun h => ?_) (fun h => ?_)
        · walk_at "goW"
          rw [okCuts, wOkB, show risB ws = false from List.all_eq_false.mpr ⟨i, List.mem_range.mpr il, by rw [decide_eq_false h]; decide⟩, Bool.and_false, Bool.false_and] at q
          exact q
        · walk_at "goW"
          refine ⟨_, _, rfl, fun k hk => ?_⟩
          by_cases c : k = i
          · rw [c]; exact h
          · exact old k (by omega)
      · rintro Γ ⟨x3, x4, rfl, ris⟩
        have ok : wOkB (R.length : Nat) ws = true := by
          rw [wOkB, List.all_eq_true.mpr all, Bool.true_and]
          exact List.all_eq_true.mpr fun k hk => decide_eq_true (ris k (by rw [lz]; exact List.mem_range.mp hk))
        rw [okCuts, ok, Bool.true_and] at q
        walk_at "goW"
        refine ⟨R.length, ws, rfl, lR, wOk_cuts ok, fun u hu => (hw u hu).2.mono (by decide), bs, ?_⟩
        walk_at "goW"
        exact q
end
/-! ### sums of cuts and boards (plain law) -/
theorem sumW_cons3 (u : List Int × Rat) (ws : List (List Int × Rat)) (i j : Nat) : sumW (u :: ws) i j = (if parts u.1 i j then u.2 else 0) + sumW ws i j := by
  have key : ∀ (ws : List (List Int × Rat)) (a : Rat), ws.foldl (fun a w => if parts w.1 i j then a + w.2 else a) a = a + ws.foldl (fun a w => if parts w.1 i j then a + w.2 else a) 0 := fun ws => by
    induction ws with
    | nil => intro a; show a = a + 0; rw [Rat.add_zero]
    | cons w ws ih =>
      intro a
      rw [List.foldl_cons, List.foldl_cons, ih, ih (if parts w.1 i j = true then 0 + w.2 else 0)]
      split
      · rw [Rat.zero_add, Rat.add_assoc]
      · rw [Rat.zero_add]
  show (if parts u.1 i j then (0 : Rat) + u.2 else 0) |> fun a => ws.foldl (fun a w => if parts w.1 i j then a + w.2 else a) a = _
  try dsimp only
  show ws.foldl _ _ = _
  rw [key]
  congr 1
  split
  · rw [Rat.zero_add]
  · rfl
theorem sumW_perm3 {ws vs : List (List Int × Rat)} (p : ws.Perm vs) (i j : Nat) : sumW ws i j = sumW vs i j := by
  induction p with
  | nil => rfl
  | cons x _ ih => rw [sumW_cons3, sumW_cons3, ih]
  | swap x y l => rw [sumW_cons3, sumW_cons3, sumW_cons3, sumW_cons3, Rat.add_left_comm]
  | trans _ _ ih1 ih2 => exact ih1.trans ih2
def sumQ (f : Nat → Rat) : Nat → Rat
  | 0 => 0
  | n + 1 => sumQ f n + f n
theorem sumQ_congr {f g : Nat → Rat} : ∀ {n : Nat}, (∀ j, j < n → f j = g j) → sumQ f n = sumQ g n
  | 0, _ => rfl
  | n + 1, h => by
    show sumQ f n + f n = sumQ g n + g n
    rw [sumQ_congr fun j hj => h j (by omega), h n (by omega)]
theorem sumQ_add {f g : Nat → Rat} : ∀ n : Nat, sumQ (fun j => f j + g j) n = sumQ f n + sumQ g n
  | 0 => by show (0 : Rat) = 0 + 0; rw [Rat.add_zero]
  | n + 1 => by
    show sumQ _ n + (f n + g n) = (sumQ f n + f n) + (sumQ g n + g n)
    rw [sumQ_add n]; grind
theorem sumQ_mul {f : Nat → Rat} {a : Rat} : ∀ n : Nat, sumQ (fun j => a * f j) n = a * sumQ f n
  | 0 => by show (0 : Rat) = a * 0; rw [Rat.mul_zero]
  | n + 1 => by
    show sumQ _ n + a * f n = a * (sumQ f n + f n)
    rw [sumQ_mul n, Rat.mul_add]
theorem sumQ_int {f : Nat → Int} : ∀ n : Nat, sumQ (fun j => ((f j : Int) : Rat)) n = ((sumN f n : Int) : Rat)
  | 0 => rfl
  | n + 1 => by
    show sumQ _ n + ((f n : Int) : Rat) = ((sumN f n + f n : Int) : Rat)
    rw [sumQ_int n, Rat.intCast_add]
/-- a sum of cuts is not beyond what all cuts keep -/
theorem cuts_keep {n N : Nat} {y : Nat → Int} {ps : Nat → Nat × Nat} (h : ∀ c ∈ cutsL (n - 1) 1, sumN (fun k => (if parts c (ps k).1 (ps k).2 then 1 else 0) * y k) N ≤ 0) : ∀ ws : List (List Int × Rat), (∀ u ∈ ws, u.1 ∈ cutsL (n - 1) 1 ∧ 0 < u.2) → sumQ (fun k => sumW ws (ps k).1 (ps k).2 * (y k : Rat)) N ≤ 0
  | [], _ => by
    have e : sumQ (fun k => sumW [] (ps k).1 (ps k).2 * (y k : Rat)) N = 0 := by
      have : ∀ N, sumQ (fun k => sumW [] (ps k).1 (ps k).2 * (y k : Rat)) N = 0 := fun N => by
        induction N with
        | zero => rfl
        | succ N ih =>
          show sumQ _ N + sumW [] (ps N).1 (ps N).2 * (y N : Rat) = 0
          rw [ih, show sumW [] (ps N).1 (ps N).2 = 0 from rfl, Rat.zero_mul, Rat.add_zero]
      exact this N
    rw [e]; exact Rat.le_refl
  | u :: ws, hw => by
    have ih := cuts_keep h ws fun v hv => hw v (List.mem_cons_of_mem _ hv)
    have hu := hw u List.mem_cons_self
    have h1 := h u.1 hu.1
    have e : sumQ (fun k => sumW (u :: ws) (ps k).1 (ps k).2 * (y k : Rat)) N = u.2 * ((sumN (fun k => (if parts u.1 (ps k).1 (ps k).2 then 1 else 0) * y k) N : Int) : Rat) + sumQ (fun k => sumW ws (ps k).1 (ps k).2 * (y k : Rat)) N := by
      rw [← sumQ_int, ← sumQ_mul, ← sumQ_add]
      refine sumQ_congr fun k _ => ?_
      rw [sumW_cons3]
      split
      · rw [Int.one_mul, Rat.add_mul]
      · rw [Int.zero_mul, Rat.zero_add]
        show _ = u.2 * ((0 : Int) : Rat) + _
        rw [show ((0 : Int) : Rat) = 0 from rfl, Rat.mul_zero, Rat.zero_add]
    rw [e]
    have h2 : ((sumN (fun k => (if parts u.1 (ps k).1 (ps k).2 then 1 else 0) * y k) N : Int) : Rat) ≤ 0 := by exact_mod_cast h1
    have h3 : 0 ≤ u.2 * -((sumN (fun k => (if parts u.1 (ps k).1 (ps k).2 then 1 else 0) * y k) N : Int) : Rat) := Rat.mul_nonneg (Rat.le_of_lt hu.2) (by grind)
    grind
theorem num_mul_den (x : Rat) : (x.num : Rat) = x * (x.den : Rat) := by
  have h := Rat.num_divInt_den x
  rw [Rat.divInt_eq_div] at h
  have d : ((x.den : Int) : Rat) ≠ 0 := by exact_mod_cast x.den_nz
  have e : ((x.den : Int) : Rat) = (x.den : Rat) := rfl
  rw [e] at d h
  generalize (x.den : Rat) = D at d h ⊢
  generalize (x.num : Rat) = Nn at h ⊢
  rw [← h]
  exact (Rat.div_mul_cancel d).symm
theorem sumC_rat {n : Nat} {g : Nat → Nat → Rat} {p : Nat × Nat} (h1 : p.1 < n) (h2 : p.2 < n) : ((sumC n g p : Int) : Rat) = ((lcmT n g n : Nat) : Rat) * g p.1 p.2 := by
  obtain ⟨k, hk⟩ := lcmT_has (g := g) h2 n h1
  have dp := (g p.1 p.2).den_pos
  unfold sumC
  rw [hk]
  have e : (((g p.1 p.2).den * k : Nat) : Int) / ((g p.1 p.2).den : Int) = (k : Int) := by
    rw [Int.natCast_mul, Int.mul_ediv_cancel_left _ (by omega)]
  rw [e, Rat.intCast_mul]
  have h3 : ((g p.1 p.2).num : Rat) = g p.1 p.2 * ((g p.1 p.2).den : Rat) := num_mul_den _
  rw [h3, Rat.natCast_mul]
  show g p.1 p.2 * ((g p.1 p.2).den : Rat) * ((k : Int) : Rat) = _
  rw [show ((k : Int) : Rat) = (k : Rat) from rfl]
  grind
theorem prsP_getD {n c : Nat} (hc : c < (prsP n).length) : (prsP n).getD c (0, 0) ∈ prsP n := by
  rw [List.getD_eq_getElem?_getD, List.getElem?_eq_getElem hc]
  exact List.getElem_mem hc
theorem prsP_has {n i j : Nat} (h1 : i < j) (h2 : j < n) : ∃ c, c < (prsP n).length ∧ (prsP n).getD c (0, 0) = (i, j) := by
  have : (i, j) ∈ prsP n := List.mem_flatMap.mpr ⟨i, List.mem_range.mpr (by omega), List.mem_map.mpr ⟨j - (i + 1), List.mem_range.mpr (by omega), by rw [show i + 1 + (j - (i + 1)) = j by omega]⟩⟩
  obtain ⟨c, hc, e⟩ := List.mem_iff_getElem.mp this
  exact ⟨c, hc, by rw [List.getD_eq_getElem?_getD, List.getElem?_eq_getElem hc, e]; rfl⟩
theorem sumsC_at {n : Nat} {g : Nat → Nat → Rat} {c : Nat} (hc : c < (prsP n).length) : (sumsC n g).getD c 0 = sumC n g ((prsP n).getD c (0, 0)) := by
  unfold sumsC
  rw [List.getD_eq_getElem?_getD, List.getElem?_map, List.getD_eq_getElem?_getD, List.getElem?_eq_getElem hc]
  rfl
theorem rowsC_at {n c t : Nat} (hc : c < (prsP n).length) (ht : t < cutN n) : ((rowsC n).getD c []).getD t 0 = if parts ((cutsL (n - 1) 1).getD t []) ((prsP n).getD c (0, 0)).1 ((prsP n).getD c (0, 0)).2 then 1 else 0 := by
  unfold rowsC cutRow
  unfold cutN at ht
  rw [List.getD_eq_getElem?_getD (l := (prsP n).map _), List.getElem?_map, List.getElem?_eq_getElem hc]
  show (List.map _ _).getD t 0 = _
  rw [List.getD_eq_getElem?_getD, List.getElem?_map, List.getElem?_eq_getElem ht, List.getD_eq_getElem?_getD (l := prsP n), List.getElem?_eq_getElem hc, List.getD_eq_getElem?_getD, List.getElem?_eq_getElem ht]
  rfl
/-- the goal comes to nought where the table is a sum of cuts -/
theorem goal_zero {n : Nat} {g : Nat → Nat → Rat} {bs : Nat → Nat} {ws : List (List Int × Rat)} (hw : ∀ u ∈ ws, u.1 ∈ cutsL (n - 1) 1 ∧ 0 < u.2) (hg : ∀ i j, i < n → j < n → g i j = sumW ws i j) (G : Good (prsP n).length (cutN n + (prsP n).length) (colA (cutN n) (prsP n).length (rowsC n) (sumsC n g)) bs) (ge : ∀ t, t < cutN n → 0 ≤ Gt (prsP n).length (colA (cutN n) (prsP n).length (rowsC n) (sumsC n g)) (cost1 (cutN n) (prsP n).length) bs t) : Gt (prsP n).length (colA (cutN n) (prsP n).length (rowsC n) (sumsC n g)) (cost1 (cutN n) (prsP n).length) bs (cutN n + (prsP n).length) = 0 := by
  have up := last_nonneg G
  refine Int.le_antisymm up (Int.not_lt.mp fun lo => ?_)
  have dl := dual_last (m := cutN n) (n := (prsP n).length) (rows := rowsC n) (sums := sumsC n g) (bs := bs)
  have keep := cuts_keep (n := n) (N := (prsP n).length) (y := dualY (cutN n) (prsP n).length (rowsC n) (sumsC n g) bs) (ps := fun c => (prsP n).getD c (0, 0)) (fun c hc => by
    obtain ⟨t, ht, e⟩ := List.mem_iff_getElem.mp hc
    have ht' : t < cutN n := ht
    have h := dual_main (m := cutN n) (t := t) ht' (ge t ht')
    rw [sumN_congr (g := fun k => (if parts c ((prsP n).getD k (0, 0)).1 ((prsP n).getD k (0, 0)).2 then 1 else 0) * dualY (cutN n) (prsP n).length (rowsC n) (sumsC n g) bs k) fun k hk => by
      rw [show colA (cutN n) (prsP n).length (rowsC n) (sumsC n g) t k = ((rowsC n).getD k []).getD t 0 from if_pos ht', rowsC_at hk ht', List.getD_eq_getElem?_getD (l := cutsL (n - 1) 1), List.getElem?_eq_getElem ht, e]
      rfl] at h
    exact h) ws hw
  have e : ((sumN (fun c => (sumsC n g).getD c 0 * dualY (cutN n) (prsP n).length (rowsC n) (sumsC n g) bs c) (prsP n).length : Int) : Rat) = ((lcmT n g n : Nat) : Rat) * sumQ (fun k => sumW ws ((prsP n).getD k (0, 0)).1 ((prsP n).getD k (0, 0)).2 * ((dualY (cutN n) (prsP n).length (rowsC n) (sumsC n g) bs k : Int) : Rat)) (prsP n).length := by
    rw [← sumQ_int, ← sumQ_mul]
    refine sumQ_congr fun k hk => ?_
    have hp := prsP_lt (prsP_getD hk)
    rw [sumsC_at hk, Rat.intCast_mul, sumC_rat (by omega) hp.2, hg _ _ (by omega) hp.2, Rat.mul_assoc]
  rw [dl] at e
  have b0 : (0 : Rat) ≤ ((lcmT n g n : Nat) : Rat) := by exact_mod_cast Nat.zero_le _
  have pos : (0 : Rat) < ((- Gt (prsP n).length (colA (cutN n) (prsP n).length (rowsC n) (sumsC n g)) (cost1 (cutN n) (prsP n).length) bs (cutN n + (prsP n).length) : Int) : Rat) := by
    have : (0 : Int) < - Gt (prsP n).length (colA (cutN n) (prsP n).length (rowsC n) (sumsC n g)) (cost1 (cutN n) (prsP n).length) bs (cutN n + (prsP n).length) := by omega
    exact_mod_cast this
  rw [e] at pos
  generalize sumQ (fun k => sumW ws ((prsP n).getD k (0, 0)).1 ((prsP n).getD k (0, 0)).2 * ((dualY (cutN n) (prsP n).length (rowsC n) (sumsC n g) bs k : Int) : Rat)) (prsP n).length = S at keep pos
  have := Rat.mul_nonneg b0 (show (0 : Rat) ≤ -S by grind)
  grind
/-- what is told comes to the table -/
theorem told_part {n by_ : Nat} {B : BoS} {bs : Nat → Nat} {N c : Nat} {e : Nat → Int} (hc : c < (prsP n).length) (u0 : 0 < B.u * (by_ : Int)) (hst : ∀ i, i < N → B.st.getD i 0 = (bs i : Int)) (he : ∀ i, i < N → (B.rows.getD i []).getD ((B.rows.getD i []).length - 1) 0 = e i) (e0 : ∀ i, i < N → 0 ≤ e i) : ∀ k, k ≤ N → sumW (toldC n by_ B k) ((prsP n).getD c (0, 0)).1 ((prsP n).getD c (0, 0)).2 = Rat.divInt (sumN (fun i => if bs i < cutN n then e i * ((rowsC n).getD c []).getD (bs i) 0 else 0) k) (B.u * by_)
  | 0, _ => by
    show (0 : Rat) = Rat.divInt 0 _
    rw [Rat.zero_divInt]
  | k + 1, hk => by
    have ih := told_part (by_ := by_) hc u0 hst he e0 k (by omega)
    rw [toldC_succ, hst k (by omega), he k (by omega)]
    show _ = Rat.divInt (sumN (fun i => if bs i < cutN n then e i * ((rowsC n).getD c []).getD (bs i) 0 else 0) k + (if bs k < cutN n then e k * ((rowsC n).getD c []).getD (bs k) 0 else 0)) _
    rw [← divInt_addZs u0, ← ih]
    by_cases c1 : bs k < cutN n
    · rw [if_pos c1, rowsC_at hc c1]
      by_cases c2 : 0 < e k
      · rw [if_pos ⟨by omega, c2⟩, sumW_snoc]
        rw [Int.toNat_natCast]
        try dsimp only
        split
        · rw [Int.mul_one]
        · rw [Int.mul_zero, Rat.zero_divInt, Rat.add_zero]
      · rw [if_neg (fun h => c2 h.2), List.append_nil]
        have := e0 k (by omega)
        rw [show e k = 0 by omega, Int.zero_mul, Rat.zero_divInt, Rat.add_zero]
    · rw [if_neg c1, if_neg (fun h => c1 (by have := h.1; omega)), List.append_nil, Rat.zero_divInt, Rat.add_zero]
/-! ### what a board of a sum of cuts tells (plain law) -/
theorem parts_self (c : List Int) (i : Nat) : parts c i i = false := by unfold parts; simp
theorem sumW_self (i : Nat) : ∀ ws : List (List Int × Rat), sumW ws i i = 0
  | [] => rfl
  | u :: ws => by rw [sumW_cons3, sumW_self i ws, parts_self, if_neg (by decide), Rat.add_zero]
theorem told_table {n : Nat} {g : Nat → Nat → Rat} {ws : List (List Int × Rat)} (b : Brd n g) (hw : ∀ u ∈ ws, u.1 ∈ cutsL (n - 1) 1 ∧ 0 < u.2) (hg : ∀ i j, i < n → j < n → g i j = sumW ws i j) {k : Nat} {B : BoS} (I : InvS n g k B) (he : enterF B.goal (cutN n) = none) :
    B.goal.getD (cutN n + (prsP n).length) 0 = 0 ∧ ∀ i j, i < n → j < n → sumW (toldC n (lcmT n g n) B B.rows.length) i j = g i j := by
  obtain ⟨bs, G, R, ge⟩ := I.fin he
  have z := goal_zero hw hg G ge
  have bp : (0 : Int) < ((lcmT n g n : Nat) : Int) := by have := b.by_.1; omega
  have u0 : 0 < B.u := by rw [R.u]; exact G.u0
  refine ⟨by rw [R.g _ (Nat.le_refl _)]; exact z, ?_⟩
  have key : ∀ i j, i < j → j < n → sumW (toldC n (lcmT n g n) B B.rows.length) i j = g i j := fun i j ij jn => by
    obtain ⟨c, hc, ec⟩ := prsP_has ij jn
    have tp := told_part (n := n) (by_ := lcmT n g n) (B := B) (bs := bs) (N := (prsP n).length) (c := c) (e := fun i => Et (prsP n).length (colA (cutN n) (prsP n).length (rowsC n) (sumsC n g)) bs i (cutN n + (prsP n).length)) hc (Int.mul_pos u0 bp) R.st (fun i hi => by
      rw [R.wl i hi, show cutN n + (prsP n).length + 1 - 1 = cutN n + (prsP n).length by omega, R.e i _ hi (Nat.le_refl _)]) G.b0 (prsP n).length (Nat.le_refl _)
    rw [ec] at tp
    have ls := last_solves G z hc
    try dsimp only at tp
    rw [ls, ← R.u, Rat.divInt_mul_left (by omega), sumsC_at hc, ec] at tp
    rw [R.rl]
    show sumW _ i j = g i j
    rw [tp]
    have s := sumC_rat (n := n) (g := g) (p := (i, j)) (by show i < n; omega) jn
    have d : ((lcmT n g n : Nat) : Rat) ≠ 0 := by
      have : (lcmT n g n : Nat) ≠ 0 := by omega
      exact_mod_cast this
    rw [Rat.divInt_eq_div, s]
    show ((lcmT n g n : Nat) : Rat) * g i j / ((lcmT n g n : Nat) : Rat) = g i j
    rw [Rat.mul_comm]
    exact Rat.mul_div_cancel d
  intro i j hi hj
  rcases Nat.lt_trichotomy i j with l | l | l
  · exact key i j l hj
  · subst l
    rw [sumW_self, hg i i hi hi, sumW_self]
  · rw [sumW_symm, key j i l hi, hg j i hj hi, hg i j hi hj, sumW_symm]
theorem det_bs {N n : Nat} {A : Nat → Vec} {M : Nat} (M1 : 1 ≤ M) (a1 : ∀ t c, t < N → (A t c).natAbs ≤ 1) (aM : ∀ c, (A N c).natAbs ≤ M) {v : Nat → Nat} {p : Nat} (hp : ∀ i, i < n → i ≠ p → v i < N) (hq : p < n → v p ≤ N) : (det n 0 fun i => A (v i)).natAbs ≤ n ^ n * M := by
  have e : (det n 0 fun i => A (v i)) = det n 0 (fun i c => if i < n then A (v i) c else 0) := det_congrC fun i c hi _ _ => by
    rw [if_pos hi]
  rw [e]
  refine det_abs M1 (p := p) (fun i c hi => ?_) (fun c => ?_)
  · try dsimp only
    split
    · rename_i hin
      exact a1 _ _ (hp i hin hi)
    · exact Nat.zero_le _
  · try dsimp only
    split
    · rename_i hin
      by_cases q : v p = N
      · rw [q]; exact aM c
      · exact Nat.le_trans (a1 _ _ (by have := hq hin; omega)) M1
    · exact Nat.zero_le _
theorem colA_one {m n : Nat} {rows : List (List Int)} {sums : List Int} (r1 : ∀ r ∈ rows, ∀ z ∈ r, z.natAbs ≤ 1) (t c : Nat) (ht : t < m + n) : (colA m n rows sums t c).natAbs ≤ 1 := by
  unfold colA
  split
  · rw [List.getD_eq_getElem?_getD (l := rows)]
    cases e : rows[c]? with
    | none => exact Nat.zero_le _
    | some r =>
      show (r.getD t 0).natAbs ≤ 1
      rw [List.getD_eq_getElem?_getD]
      cases e2 : r[t]? with
      | none => exact Nat.zero_le _
      | some z => exact r1 r (List.mem_of_getElem? e) z (List.mem_of_getElem? e2)
  · try rw [if_pos ht]
    split <;> decide
theorem colA_last {m n : Nat} {rows : List (List Int)} {sums : List Int} {M : Nat} (s1 : ∀ z ∈ sums, z.natAbs ≤ M) (c : Nat) : (colA m n rows sums (m + n) c).natAbs ≤ M := by
  unfold colA
  rw [if_neg (by omega), if_neg (by omega), List.getD_eq_getElem?_getD]
  cases e : sums[c]? with
  | none => exact Nat.zero_le _
  | some z => exact s1 z (List.mem_of_getElem? e)
/-- each weight told -/
theorem told_each {n : Nat} {g : Nat → Nat → Rat} (b : Brd n g) {k : Nat} {B : BoS} (I : InvS n g k B) (he : enterF B.goal (cutN n) = none) : (0 < B.u * ((lcmT n g n : Nat) : Int) ∧ B.u * ((lcmT n g n : Nat) : Int) < 2 ^ 800) ∧ B.rows.length ≤ 21 ∧ (toldC n (lcmT n g n) B B.rows.length).Pairwise (fun a b => a.1 ≠ b.1) ∧ ∀ u ∈ toldC n (lcmT n g n) B B.rows.length, u.1 ∈ cutsL (n - 1) 1 ∧ 0 < u.2 ∧ Zs (B.u * ((lcmT n g n : Nat) : Int)) (2 ^ 1400) u.2 := by
  obtain ⟨bs, G, R, ge⟩ := I.fin he
  have bb := b.by_
  have u0 : 0 < B.u := by rw [R.u]; exact G.u0
  have lp := prsP_len7 b.n7
  have r1 := rowsC_one (n := n)
  have s1 : ∀ z ∈ sumsC n g, z.natAbs ≤ 2 ^ 1200 := fun z hz => by
    obtain ⟨p, _, rfl⟩ := List.mem_map.mp hz
    exact Nat.le_of_lt (b.sum p).2
  have nn : (prsP n).length ^ (prsP n).length ≤ 2 ^ 100 := Nat.le_trans (Nat.le_trans (Nat.pow_le_pow_left lp _) (Nat.pow_le_pow_right (by decide) lp)) (by decide +kernel)
  have ub : B.u < 2 ^ 101 := by
    have h := det_bs (n := (prsP n).length) (N := cutN n + (prsP n).length) (A := fun t => if t = cutN n + (prsP n).length then fun _ => 0 else colA (cutN n) (prsP n).length (rowsC n) (sumsC n g) t) (M := 1) (Nat.le_refl _) (fun t c ht => by
      try dsimp only
      rw [if_neg (by omega)]
      exact colA_one r1 t c ht) (fun c => by
      try dsimp only
      rw [if_pos rfl]; exact Nat.zero_le _) (v := bs) (p := (prsP n).length) (fun i hi _ => G.lt i hi) fun h => absurd h (Nat.lt_irrefl _)
    have e : Dt (prsP n).length (colA (cutN n) (prsP n).length (rowsC n) (sumsC n g)) bs = det (prsP n).length 0 fun i => (fun t => if t = cutN n + (prsP n).length then fun _ => 0 else colA (cutN n) (prsP n).length (rowsC n) (sumsC n g) t) (bs i) := det_congr fun i hi => by
      have := G.lt i hi
      try dsimp only
      rw [if_neg (by omega)]
      rfl
    rw [← e, ← R.u, Nat.mul_one] at h
    have : B.u.natAbs ≤ 2 ^ 100 := Nat.le_trans h nn
    have e2 : (2 : Int) ^ 101 = 2 * 2 ^ 100 := by decide +kernel
    have e3 : ((2 ^ 100 : Nat) : Int) = (2 : Int) ^ 100 := by decide +kernel
    have : (B.u.natAbs : Int) ≤ ((2 ^ 100 : Nat) : Int) := by exact_mod_cast this
    rw [e3] at this
    rw [e2]
    have p : (0 : Int) < 2 ^ 100 := by decide +kernel
    omega
  have byb : ((lcmT n g n : Nat) : Int) < 2 ^ 600 := by exact_mod_cast bb.2
  have up : 0 < B.u * ((lcmT n g n : Nat) : Int) := Int.mul_pos u0 (by omega)
  have s0 : ∀ i, i < B.rows.length → 0 ≤ B.st.getD i 0 := fun i hi => by
    rw [R.st i (by rw [← R.rl]; exact hi)]; omega
  refine ⟨⟨up, ?_⟩, by rw [R.rl]; exact lp, toldC_ne s0 (fun i j hi hj e => ?_) _ (Nat.le_refl _), fun u hu => ?_⟩
  · have h1 : B.u * ((lcmT n g n : Nat) : Int) ≤ 2 ^ 101 * 2 ^ 600 := Int.mul_le_mul (Int.le_of_lt ub) (Int.le_of_lt byb) (by omega) (by decide +kernel)
    have h2 : (2 : Int) ^ 101 * 2 ^ 600 < 2 ^ 800 := by decide +kernel
    exact Int.lt_of_le_of_lt h1 h2
  · rw [R.rl] at hi hj
    rw [R.st i hi, R.st j hj] at e
    exact G.inj hi hj (by omega)
  · obtain ⟨i, hi, c1, c2, rfl⟩ := toldC_mem.mp hu
    have st0 := s0 i hi
    have ht : (B.st.getD i 0).toNat < (cutsL (n - 1) 1).length := by unfold cutN at c1; omega
    rw [R.rl] at hi
    have el : (B.rows.getD i []).getD ((B.rows.getD i []).length - 1) 0 = Et (prsP n).length (colA (cutN n) (prsP n).length (rowsC n) (sumsC n g)) bs i (cutN n + (prsP n).length) := by
      rw [R.wl i hi, show cutN n + (prsP n).length + 1 - 1 = cutN n + (prsP n).length by omega, R.e i _ hi (Nat.le_refl _)]
    refine ⟨?_, divInt_pos' c2 up, _, rfl, ?_, ?_⟩
    · rw [List.getD_eq_getElem?_getD, List.getElem?_eq_getElem ht]
      exact List.getElem_mem ht
    · have : (0 : Int) < 2 ^ 1400 := by decide +kernel
      omega
    · rw [el, Et_set]
      have h := det_bs (n := (prsP n).length) (N := cutN n + (prsP n).length) (A := colA (cutN n) (prsP n).length (rowsC n) (sumsC n g)) (M := 2 ^ 1200) Nat.one_le_two_pow (fun t c ht => colA_one r1 t c ht) (fun c => colA_last s1 c) (v := setB bs i (cutN n + (prsP n).length)) (p := i) (fun q hq ne => by
        unfold setB
        rw [if_neg ne]
        exact G.lt q hq) fun _ => by unfold setB; rw [if_pos rfl]; exact Nat.le_refl _
      have h2 : (Dt (prsP n).length (colA (cutN n) (prsP n).length (rowsC n) (sumsC n g)) (setB bs i (cutN n + (prsP n).length))).natAbs ≤ 2 ^ 100 * 2 ^ 1200 := Nat.le_trans h (Nat.mul_le_mul_right _ nn)
      have e3 : ((2 ^ 100 * 2 ^ 1200 : Nat) : Int) ≤ (2 : Int) ^ 1400 := by decide +kernel
      have h3 : ((Dt (prsP n).length (colA (cutN n) (prsP n).length (rowsC n) (sumsC n g)) (setB bs i (cutN n + (prsP n).length))).natAbs : Int) ≤ ((2 ^ 100 * 2 ^ 1200 : Nat) : Int) := by exact_mod_cast h2
      have h4 := Int.le_trans h3 e3
      generalize (2 : Int) ^ 1400 = X at h4 ⊢
      omega
/-! ### drawn sums are tables of which a board is made -/
theorem sumW_pos : ∀ (ws : List (List Int × Rat)), (∀ u ∈ ws, 0 < u.2) → ∀ i j, 0 ≤ sumW ws i j
  | [], _, _, _ => Rat.le_refl
  | u :: ws, h, i, j => by
    rw [sumW_cons3]
    have ih := sumW_pos ws (fun v hv => h v (List.mem_cons_of_mem _ hv)) i j
    have hu := Rat.le_of_lt (h u List.mem_cons_self)
    split <;> grind
theorem Zs.den {b M : Int} {x : Rat} (hb : 0 < b) (h : Zs b M x) : x.den ∣ b.natAbs := by
  obtain ⟨z, rfl, _⟩ := h
  have hb' : b ≠ 0 := by omega
  rw [Rat.den_divInt]
  rw [if_neg hb']
  exact Nat.div_dvd_of_dvd (Int.gcd_dvd_natAbs_left ..)
theorem Brd.drawn {n : Nat} {ws : List (List Int × Rat)} (n2 : 2 ≤ n) (n7 : n ≤ 7) (hp : ∀ u ∈ ws, 0 < u.2) (tq : ∀ i j, Tq (sumW ws i j)) : Brd n (sumW ws) := by
  refine ⟨n2, n7, ⟨bL.natAbs, by decide +kernel, ?_, fun i j => (tq i j).den bL_pos⟩, sumW_pos ws hp, fun i j => (IB.num (tq i j).bd).mono (by decide)⟩
  exact Nat.lt_of_lt_of_le (show bL.natAbs < 2 ^ 136 by decide +kernel) (Nat.pow_le_pow_right (by decide) (by decide))
/-- what is told, sorted, is looked at and found good -/
theorem risB_of {ws : List (List Int × Rat)} (h : ws.Pairwise fun a b => a.1 < b.1) : risB ws = true := by
  unfold risB
  rw [List.all_eq_true]
  intro k hk
  have hk := List.mem_range.mp hk
  have hp := List.pairwise_iff_getElem.mp h k (k + 1) (by omega) (by omega) (by omega)
  rw [List.getD_eq_getElem?_getD, List.getD_eq_getElem?_getD, List.getElem?_eq_getElem (by omega), List.getElem?_eq_getElem (by omega)]
  exact decide_eq_true hp
theorem isCut_of {n : Nat} {c : List Int} (n1 : 1 ≤ n) (h : c ∈ cutsL (n - 1) 1) : isCut (n : Nat) c = true := by
  obtain ⟨h1, h2, h3⟩ := cutsL_mem.mp h
  unfold isCut
  exact decide_eq_true ⟨h1, h2, fun x hx => by have := h3 x hx; omega⟩
theorem told_ok {n : Nat} {g : Nat → Nat → Rat} {vs ts : List (List Int × Rat)} (n1 : 1 ≤ n) (p : vs.Perm ts) (h : ∀ u ∈ ts, u.1 ∈ cutsL (n - 1) 1 ∧ 0 < u.2) (r : vs.Pairwise fun a b => a.1 < b.1) (e : ∀ i j, i < n → j < n → sumW ts i j = g i j) : okCuts (tabG n g) vs = true := by
  have l : (tabG n g).length = n := tabG_len
  unfold okCuts wOkB
  rw [l, risB_of r, Bool.and_true, Bool.and_eq_true]
  refine ⟨List.all_eq_true.mpr fun u hu => ?_, decide_eq_true ?_⟩
  · have hu := h u (p.mem_iff.mp hu)
    rw [isCut_of n1 hu.1, decide_eq_true hu.2]; rfl
  · unfold tabG
    refine List.map_congr_left fun i hi => List.map_congr_left fun j hj => ?_
    rw [sumW_perm3 p, e i j (List.mem_range.mp hi) (List.mem_range.mp hj)]
/-- sums of weights over one bottom, few of them -/
theorem takes_zs {b E : Int} (hb : 0 < b) (hE : 0 ≤ E) {vs : List (List Int × Rat)} (h : ∀ u ∈ vs, Zs b E u.2) (i j : Nat) : ∀ k, k ≤ vs.length → Zs b (k * E) (sumW (vs.take k) i j)
  | 0, _ => by rw [List.take_zero]; exact Zs.zero (by omega)
  | k + 1, hk => by
    have hl : k < vs.length := by omega
    rw [take_snoc (List.getElem?_eq_getElem hl), sumW_snoc]
    have e : (((k + 1 : Nat) : Int)) * E = k * E + E := by rw [Int.natCast_add, Int.add_mul]; omega
    rw [e]
    have ih := takes_zs hb hE h i j k (by omega)
    split
    · exact ih.add hb (h _ (List.getElem_mem hl))
    · exact ih.mono (by omega)
theorem takes_bd {b : Int} (hb : 0 < b) (h8 : b < 2 ^ 800) {vs : List (List Int × Rat)} (l : vs.length ≤ 21) (h : ∀ u ∈ vs, Zs b (2 ^ 1400) u.2) (k i j : Nat) : Bd 3900 (sumW (vs.take k) i j) := by
  have hE : (0 : Int) ≤ 2 ^ 1400 := by decide +kernel
  have key : ∀ k, k ≤ vs.length → Bd 3900 (sumW (vs.take k) i j) := fun k hk => by
    have z := (takes_zs hb hE h i j k hk).mono (M' := 21 * 2 ^ 1400) (Int.mul_le_mul_of_nonneg_right (by omega) hE)
    exact (Zs.bd (k := 1500) z hb (Int.lt_of_lt_of_le h8 (by decide +kernel)) (by decide +kernel)).mono (by decide)
  by_cases c : k ≤ vs.length
  · exact key k c
  · rw [List.take_of_length_le (by omega), ← List.take_length (l := vs)]
    exact key _ (Nat.le_refl _)
theorem sum_of_cuts {n : Nat} {ws : List (List Int × Rat)} {Q : Own → PyData → Prop} (n1 : 1 ≤ n) (n7 : n ≤ 7) (hw : ∀ u ∈ ws, u.1 ∈ cutsL (n - 1) 1 ∧ 0 < u.2) (tq : ∀ i j, Tq (sumW ws i j))
    (q : ∀ vs : List (List Int × Rat), vs.length ≤ 21 → (∀ u ∈ vs, u.1.length < 64 ∧ Bd 1900 u.2) → (∀ k i j, Bd 3900 (sumW (vs.take k) i j)) → okCuts (tabG n (sumW ws)) vs = true → Q (.t2 .lf (.li .lf)) (.tuple [.str "cuts", WD vs])) : pSumTold [TD (tabG n (sumW ws))] Q := by
  have b : 2 ≤ n → Brd n (sumW ws) := fun n2 => Brd.drawn n2 n7 (fun u hu => (hw u hu).2) tq
  refine ⟨n, sumW ws, rfl, n1, n7, b, fun e1 => ?_, fun k B n2 I he => ⟨fun h0 vs p r => ?_, fun h0 => absurd (told_table (b n2) hw (fun _ _ _ _ => rfl) I he).1 h0⟩⟩
  · refine q [] (by decide) (fun u hu => nomatch hu) (fun k i j => ?_) (told_ok n1 (.refl _) (fun u hu => nomatch hu) .nil fun i j hi hj => ?_)
    · rw [List.take_nil]
      exact (Tq.bd Tq.zero).mono (by decide)
    · rw [show i = 0 by omega, show j = 0 by omega, sumW_self, sumW_self]
  · obtain ⟨_, tt⟩ := told_table (b n2) hw (fun _ _ _ _ => rfl) I he
    obtain ⟨⟨u0, u8⟩, rl, _, each⟩ := told_each (b n2) I he
    have l21 : vs.length ≤ 21 := by rw [p.length_eq]; exact Nat.le_trans (toldC_len _) rl
    have z : ∀ u ∈ vs, Zs _ (2 ^ 1400) u.2 := fun u hu => (each u (p.mem_iff.mp hu)).2.2
    refine q vs l21 (fun u hu => ⟨?_, ?_⟩) (takes_bd u0 u8 l21 z) (told_ok n1 p (fun u hu => ⟨(each u hu).1, (each u hu).2.1⟩) r tt)
    · have := cutsL_el (each u (p.mem_iff.mp hu)).1
      omega
    · exact (Zs.bd (k := 1500) (z u hu) u0 (Int.lt_of_lt_of_le u8 (by decide +kernel)) (by decide +kernel)).mono (by decide)
section
variable {P : Program} {w : World} {K : PySem.W.Frag} {mg : Str → Option Value} {base : Heap}
def pSize : Pre := fun ds Q => ∃ (z : Int) (b : Bool), ds = [.int z, .bool b] ∧ 0 ≤ z ∧ z < 720720 ∧ ∀ n : Nat, 1 ≤ n → n ≤ 7 → Q .lf (.int n)
theorem ok_l_size {f : Addr} {fd : FuncData} (F : Fun K "_law_size" "_law_size" s_l_size f fd) (T : Tx K mg) : FnOk P w K mg base CX0 1 f fd P_l_size (spV K pSize) := by
  refine okV F sc_l_size (fun ds Q h => ?_) fun cdv A outer s H E hr => ⟨_, (pss_cons (ps_set (i := 2) sc_l_size.nd rfl (Or.inl rfl) (pe_ix (k_ixL (K := K)) (pe_lst (pa_cons pe_int (pa_cons pe_int (pa_cons pe_int (pa_cons pe_int (pa_cons pe_int (pa_cons pe_int (pa_cons pe_int (pa_cons pe_int pa_nil))))))))) (pe_op op_mod (pv 0) pe_int) (fun _ _ => rfl)))
  (pss_cons (ps_if (PW.pt (pw_and (pt_val (pv 1)) (pw_and1 (pt_cmpR op_eq (pe_op op_mod (pe_op op_fdivW (pv 0) pe_int) pe_int) pe_int (nomark _)))))
  (pss_one (ps_set (i := 2) sc_l_size.nd rfl (Or.inl rfl) pe_int))
  pss_nil)
  (pss_cons (ps_if (PW.pt (pw_and (pt_val (pv 1)) (pw_and1 (pt_cmpR op_eq (pe_op op_mod (pe_op op_fdivW (pv 0) pe_int) pe_int) pe_int (nomark _)))))
  (pss_one (ps_set (i := 2) sc_l_size.nd rfl (Or.inl rfl) pe_int))
  pss_nil)
  (pss_one (ps_ret (pv 2)))))), fun ds Q h => ?_⟩
  · obtain ⟨_, _, rfl, _⟩ := h
    rfl
  · obtain ⟨z, b, rfl, z0, z1, q⟩ := h
    walk_at "goK"
    refine ⟨.lf, by decide, .inr rfl, ?_⟩
    rw [show List.map Prod.snd [(Own.lf, PyData.int 2), (Own.lf, PyData.int 3), (Own.lf, PyData.int 4), (Own.lf, PyData.int 5), (Own.lf, PyData.int 4), (Own.lf, PyData.int 5), (Own.lf, PyData.int 3), (Own.lf, PyData.int 1)] = [PyData.int 2, PyData.int 3, PyData.int 4, PyData.int 5, PyData.int 4, PyData.int 5, PyData.int 3, PyData.int 1] from rfl]
    walk_at "goW"
    refine IxB_any (by omega) (by show _ < (8 : Int); omega) ?_ (.inl rfl)
    intro d hd
    obtain ⟨m, rfl, m1, m7⟩ : ∃ m : Nat, d = .int m ∧ 1 ≤ m ∧ m ≤ 7 := by
      simp only [List.mem_cons, List.not_mem_nil, or_false] at hd
      rcases hd with rfl | rfl | rfl | rfl | rfl | rfl | rfl | rfl
      · exact ⟨2, rfl, by decide, by decide⟩
      · exact ⟨3, rfl, by decide, by decide⟩
      · exact ⟨4, rfl, by decide, by decide⟩
      · exact ⟨5, rfl, by decide, by decide⟩
      · exact ⟨4, rfl, by decide, by decide⟩
      · exact ⟨5, rfl, by decide, by decide⟩
      · exact ⟨3, rfl, by decide, by decide⟩
      · exact ⟨1, rfl, by decide, by decide⟩
    cases b with
    | false =>
      walk_at "goW"
      exact q m m1 m7
    | true =>
      walk_at "goW"
      refine ifD (fun _ => ?_) (fun _ => ?_)
      · walk_at "goW"
        refine ifD (fun _ => ?_) (fun _ => ?_)
        · walk_at "goW"
          exact q 7 (by decide) (by decide)
        · walk_at "goW"
          exact q 6 (by decide) (by decide)
      · walk_at "goW"
        refine ifD (fun _ => ?_) (fun _ => ?_)
        · walk_at "goW"
          exact q 7 (by decide) (by decide)
        · walk_at "goW"
          exact q m m1 m7
theorem ok_law {f : Addr} {fd : FuncData} (F : Fun K "law" "law" s_law f fd) (T : Tx K mg) (c_sum_told : Cal P w K mg base 5 "sum_told" (spV K pSumTold) []) (c_l_cell_at : Cal P w K mg base 1 "_law_cell_at" (spS K pCellA) []) (c_l_numbers : Cal P w K mg base 1 "_law_numbers" (spV K pNumsS) []) (c_l_table : Cal P w K mg base 3 "_law_table" (spV K pTableD) []) (c_l_weighted : Cal P w K mg base 3 "_law_weighted" (spV K pWeightedD) []) (c_l_sum_of : Cal P w K mg base 4 "_law_sum_of" (spV K pSumOf) []) (c_l_copy : Cal P w K mg base 1 "_law_copy" (spV K pCopyT) []) (c_l_size : Cal P w K mg base 1 "_law_size" (spV K pSize) []) : FnOk P w K mg base CX0 6 f fd P_law (spL K) := by
  refine okL F sc_law rfl fun cdv A outer s H E hr => ⟨_, (pss_cons (ps_for PassesOwn.never rfl (pi_range1 (by rfl) T.range_ (pa_cons (pe_callB (cr_max2 rfl) (by rfl) T.max_ (by decide +kernel) (pa_cons pe_int (pa_cons (pe_callB (cr_min2 rfl) (by rfl) T.min_ (by decide +kernel) (pa_cons (pe_callB (k_len (K := K)) (by rfl) T.len_ (by decide +kernel) (pa_cons (pv 0) pa_nil)) (pa_cons pe_int pa_nil))) pa_nil))) pa_nil)) (pg_name (i := 1) sc_law.nd rfl (Or.inl rfl))
  (pss_cons (ps_set (i := 2) sc_law.nd rfl (Or.inl rfl) (pe_c c_l_numbers hr (by decide) rfl (pa_cons (pe_c c_l_cell_at hr (by decide) rfl (pa_cons (pv 0) (pa_cons (pv 1) pa_nil))) (pa_cons pe_int pa_nil))))
  (pss_cons (ps_set (i := 3) sc_law.nd rfl (Or.inl rfl) (pe_c c_l_size hr (by decide) rfl (pa_cons (pe_ix (k_ixL (K := K)) (pv 2) pe_int (fun _ _ => rfl)) (pa_cons (pe_cmpR op_eq (pv 1) pe_int (nomark _)) pa_nil))))
  (pss_cons (ps_set (i := 4) sc_law.nd rfl (Or.inl rfl) (pe_c c_l_table hr (by decide) rfl (pa_cons (pv 3) (pa_cons (pe_c c_l_weighted hr (by decide) rfl (pa_cons (pv 3) (pa_cons (pv 2) pa_nil))) pa_nil))))
  (pss_cons (ps_set (i := 5) sc_law.nd rfl (Or.inl rfl) (pe_c c_l_copy hr (by decide) rfl (pa_cons (pv 4) pa_nil)))
  (pss_cons (ps_set (i := 6) sc_law.nd rfl (Or.inl rfl) (pe_c c_sum_told hr (by decide) rfl (pa_cons (pv 5) pa_nil)))
  (pss_cons (ps_if (PW.pt (pw_or (pt_not (pt_val (pe_callB (k_isi (K := K)) (by rfl) T.isinstance_ (by decide +kernel) (pa_cons (pv 6) (pa_cons (pe_bltn (v := .ty "tuple") (by rfl) T.tuple_ (by decide +kernel) rfl) pa_nil))))) (pw_or (pt_cmpR op_ne (pe_callB (k_len (K := K)) (by rfl) T.len_ (by decide +kernel) (pa_cons (pv 6) pa_nil)) pe_int (nomark _)) (pw_or (pt_cmpR op_ne (pe_ix (k_ixT (K := K)) (pv 6) pe_int (fun _ _ => rfl)) pe_str (nomark _)) (pw_or1 (pt_cmpR (k_neD (K := K) hr.units) (pv 5) (pv 4) (nomark _)))))))
  (pss_one (ps_ret pe_bl))
  pss_nil)
  (pss_one (ps_if (pt_not (pt_val (pe_c c_l_sum_of hr (by decide) rfl (pa_cons (pv 3) (pa_cons (pe_ix (k_ixT (K := K)) (pv 6) pe_int (fun _ _ => rfl)) (pa_cons (pv 4) pa_nil))))))
  (pss_one (ps_ret pe_bl))
  pss_nil)))))))))
  (pss_one (ps_ret pe_bl))), fun a ns hns => ?_⟩
  walk_at "goK"
  obtain ⟨m, hm, m10⟩ : ∃ m : Nat, (if (if 3 < (ns.length : Int) then 3 else (ns.length : Int)) > 1 then (if 3 < (ns.length : Int) then 3 else (ns.length : Int)) else 1).toNat = m ∧ m ≤ 3 := ⟨_, rfl, by split <;> split <;> omega⟩
  rw [hm]
  refine ForB_rng (fun i Γ => ∃ (x1 x2 x3 x4 x5 x6 : Sl), Γ = [.fact (.ref a) (fun H => SqL K H a (ns.map V.int)), x1, x2, x3, x4, x5, x6]) ⟨_, _, _, _, _, _, rfl⟩ ?_ ?_
  · rintro k Γ hk ⟨x1, x2, x3, x4, x5, x6, rfl⟩
    walk_at "goW"
    refine ⟨_, rfl, by omega, fun c => ?_⟩
    walk_at "goW"
    refine ⟨c, 22, rfl, by decide, fun zs lz hz => ?_⟩
    have g : ∀ i, i < 22 → 0 ≤ zs.getD i 0 ∧ zs.getD i 0 < 720720 := fun i hi => hz _ (by rw [List.getD_eq_getElem?_getD, List.getElem?_eq_getElem (by omega)]; exact List.getElem_mem _)
    have g20 := g 20 (by decide)
    have e20 : zs.getD (Int.toNat 20) 0 = zs.getD 20 0 := rfl
    refine GW_nameF ?_
    walk_at "goW"
    refine ⟨_, _, rfl, by rw [e20]; exact g20.1, by rw [e20]; exact g20.2, fun n n1 n7 => ?_⟩
    walk_at "goW"
    refine ⟨n, zs, rfl, n1, by omega, by omega, hz, fun ws D pw => ?_⟩
    walk_at "goW"
    have wp : ∀ u ∈ ws, u.1 ∈ cutsL (n - 1) 1 ∧ 0 < u.2 := fun u hu => ⟨D.cut u hu, (D.wt u hu).2⟩
    have tq : ∀ k i j, Tq (sumW (ws.take k) i j) := fun k i j => (sum_tq D k i j).mono (Int.mul_le_mul_of_nonneg_right (by decide) (by have := bL_pos; omega))
    refine ⟨n, ws, rfl, by omega, D.cuts n1, fun u hu => (D.wt u hu).bd.mono (by decide), fun k i j => (tq k i j).bd.mono (by decide), ?_⟩
    refine GW_nameF ?_
    walk_at "goW"
    refine ⟨n, sumW ws, rfl, by omega, ?_⟩
    refine GW_nameF ?_
    walk_at "goW"
    refine sum_of_cuts n1 n7 wp (fun i j => by have := tq ws.length i j; rwa [List.take_length] at this) fun vs lv hv bk ok => ?_
    refine GW_nameF ?_
    walk_at "goW"
    refine ifND (fun h => absurd rfl h) (fun _ => ?_)
    walk_at "goW"
    refine ifND (fun h => absurd rfl h) (fun _ => ?_)
    walk_at "goW"
    refine ifND (fun h => absurd rfl h) (fun _ => ?_)
    walk_at "goW"
    refine ⟨tabG n (sumW ws), vs, by rw [tabG_len], by rw [tabG_len]; omega, by omega, hv, bk, ?_⟩
    rw [ok]
    walk_at "goW"
    exact ⟨_, _, _, _, _, _, rfl⟩
  · rintro Γ ⟨x1, x2, x3, x4, x5, x6, rfl⟩
    walk_at "goW"
    rfl
end

theorem all_mk {l : PySem.W.OpenLaw} {w : World} {K : PySem.W.Frag} {h : Heap} {mg : Str → Option Value} {fa : Addr} (X : K.In h) (G : h.Ns mainGlobals mg) (hfa : mg "law" = some (.ref fa))
    {C_Board : Addr} (aC_Board : PySem.W.nsIn K mainGlobals "Board" = some (some (.ref C_Board)))
    {f0 : Addr} {od0 an0 : Option Addr} {sl0 : Array (Option Value)} {oc0 kV0 dc0 pm0 cd0 ct0 : Value}
    (a0 : PySem.W.nsIn K mainGlobals "common_of" = some (some (.ref f0))) (l0 : K.lookup f0 = some ⟨oc0, od0, .func (PySem.W.fnOf "common_of" "common_of" (defArgs s_common_of) (defBody s_common_of) (defScope s_common_of) .none kV0 dc0 pm0 an0 cd0 ct0), sl0⟩) (c0 : PySem.W.codeIn K cd0 "common_of" = true) (k0 : PySem.W.keepIn K (.ref f0) = true)
    {f1 : Addr} {od1 an1 : Option Addr} {sl1 : Array (Option Value)} {oc1 kV1 dc1 pm1 cd1 ct1 : Value}
    (a1 : PySem.W.nsIn K mainGlobals "fraction" = some (some (.ref f1))) (l1 : K.lookup f1 = some ⟨oc1, od1, .func (PySem.W.fnOf "fraction" "fraction" (defArgs s_fraction) (defBody s_fraction) (defScope s_fraction) .none kV1 dc1 pm1 an1 cd1 ct1), sl1⟩) (c1 : PySem.W.codeIn K cd1 "fraction" = true) (k1 : PySem.W.keepIn K (.ref f1) = true)
    {f2 : Addr} {od2 an2 : Option Addr} {sl2 : Array (Option Value)} {oc2 kV2 dc2 pm2 cd2 ct2 : Value}
    (i2 : PySem.W.isFn K (.ref f2) = true)
    (a2 : PySem.W.findIn K (.ref C_Board) "__init__" = some (some (.ref f2))) (l2 : K.lookup f2 = some ⟨oc2, od2, .func (PySem.W.fnOf "__init__" "Board.__init__" (defArgs s_Board___init__) (defBody s_Board___init__) (defScope s_Board___init__) .none kV2 dc2 pm2 an2 cd2 ct2), sl2⟩) (c2 : PySem.W.codeIn K cd2 "Board.__init__" = true) (k2 : PySem.W.keepIn K (.ref f2) = true)
    {f3 : Addr} {od3 an3 : Option Addr} {sl3 : Array (Option Value)} {oc3 kV3 dc3 pm3 cd3 ct3 : Value}
    (i3 : PySem.W.isFn K (.ref f3) = true)
    (a3 : PySem.W.findIn K (.ref C_Board) "turned_row" = some (some (.ref f3))) (l3 : K.lookup f3 = some ⟨oc3, od3, .func (PySem.W.fnOf "turned_row" "Board.turned_row" (defArgs s_Board_turned_row) (defBody s_Board_turned_row) (defScope s_Board_turned_row) .none kV3 dc3 pm3 an3 cd3 ct3), sl3⟩) (c3 : PySem.W.codeIn K cd3 "Board.turned_row" = true) (k3 : PySem.W.keepIn K (.ref f3) = true)
    {f4 : Addr} {od4 an4 : Option Addr} {sl4 : Array (Option Value)} {oc4 kV4 dc4 pm4 cd4 ct4 : Value}
    (i4 : PySem.W.isFn K (.ref f4) = true)
    (a4 : PySem.W.findIn K (.ref C_Board) "turn_about" = some (some (.ref f4))) (l4 : K.lookup f4 = some ⟨oc4, od4, .func (PySem.W.fnOf "turn_about" "Board.turn_about" (defArgs s_Board_turn_about) (defBody s_Board_turn_about) (defScope s_Board_turn_about) .none kV4 dc4 pm4 an4 cd4 ct4), sl4⟩) (c4 : PySem.W.codeIn K cd4 "Board.turn_about" = true) (k4 : PySem.W.keepIn K (.ref f4) = true)
    {f5 : Addr} {od5 an5 : Option Addr} {sl5 : Array (Option Value)} {oc5 kV5 dc5 pm5 cd5 ct5 : Value}
    (i5 : PySem.W.isFn K (.ref f5) = true)
    (a5 : PySem.W.findIn K (.ref C_Board) "entering_column" = some (some (.ref f5))) (l5 : K.lookup f5 = some ⟨oc5, od5, .func (PySem.W.fnOf "entering_column" "Board.entering_column" (defArgs s_Board_entering_column) (defBody s_Board_entering_column) (defScope s_Board_entering_column) .none kV5 dc5 pm5 an5 cd5 ct5), sl5⟩) (c5 : PySem.W.codeIn K cd5 "Board.entering_column" = true) (k5 : PySem.W.keepIn K (.ref f5) = true)
    {f6 : Addr} {od6 an6 : Option Addr} {sl6 : Array (Option Value)} {oc6 kV6 dc6 pm6 cd6 ct6 : Value}
    (i6 : PySem.W.isFn K (.ref f6) = true)
    (a6 : PySem.W.findIn K (.ref C_Board) "leaving_row" = some (some (.ref f6))) (l6 : K.lookup f6 = some ⟨oc6, od6, .func (PySem.W.fnOf "leaving_row" "Board.leaving_row" (defArgs s_Board_leaving_row) (defBody s_Board_leaving_row) (defScope s_Board_leaving_row) .none kV6 dc6 pm6 an6 cd6 ct6), sl6⟩) (c6 : PySem.W.codeIn K cd6 "Board.leaving_row" = true) (k6 : PySem.W.keepIn K (.ref f6) = true)
    {f7 : Addr} {od7 an7 : Option Addr} {sl7 : Array (Option Value)} {oc7 kV7 dc7 pm7 cd7 ct7 : Value}
    (i7 : PySem.W.isFn K (.ref f7) = true)
    (a7 : PySem.W.findIn K (.ref C_Board) "lead_down" = some (some (.ref f7))) (l7 : K.lookup f7 = some ⟨oc7, od7, .func (PySem.W.fnOf "lead_down" "Board.lead_down" (defArgs s_Board_lead_down) (defBody s_Board_lead_down) (defScope s_Board_lead_down) .none kV7 dc7 pm7 an7 cd7 ct7), sl7⟩) (c7 : PySem.W.codeIn K cd7 "Board.lead_down" = true) (k7 : PySem.W.keepIn K (.ref f7) = true)
    {f8 : Addr} {od8 an8 : Option Addr} {sl8 : Array (Option Value)} {oc8 kV8 dc8 pm8 cd8 ct8 : Value}
    (a8 : PySem.W.nsIn K mainGlobals "all_cuts" = some (some (.ref f8))) (l8 : K.lookup f8 = some ⟨oc8, od8, .func (PySem.W.fnOf "all_cuts" "all_cuts" (defArgs s_all_cuts) (defBody s_all_cuts) (defScope s_all_cuts) .none kV8 dc8 pm8 an8 cd8 ct8), sl8⟩) (c8 : PySem.W.codeIn K cd8 "all_cuts" = true) (k8 : PySem.W.keepIn K (.ref f8) = true)
    {f9 : Addr} {od9 an9 : Option Addr} {sl9 : Array (Option Value)} {oc9 kV9 dc9 pm9 cd9 ct9 : Value}
    (a9 : PySem.W.nsIn K mainGlobals "pairs_of" = some (some (.ref f9))) (l9 : K.lookup f9 = some ⟨oc9, od9, .func (PySem.W.fnOf "pairs_of" "pairs_of" (defArgs s_pairs_of) (defBody s_pairs_of) (defScope s_pairs_of) .none kV9 dc9 pm9 an9 cd9 ct9), sl9⟩) (c9 : PySem.W.codeIn K cd9 "pairs_of" = true) (k9 : PySem.W.keepIn K (.ref f9) = true)
    {f10 : Addr} {od10 an10 : Option Addr} {sl10 : Array (Option Value)} {oc10 kV10 dc10 pm10 cd10 ct10 : Value}
    (a10 : PySem.W.nsIn K mainGlobals "whole_by" = some (some (.ref f10))) (l10 : K.lookup f10 = some ⟨oc10, od10, .func (PySem.W.fnOf "whole_by" "whole_by" (defArgs s_whole_by) (defBody s_whole_by) (defScope s_whole_by) .none kV10 dc10 pm10 an10 cd10 ct10), sl10⟩) (c10 : PySem.W.codeIn K cd10 "whole_by" = true) (k10 : PySem.W.keepIn K (.ref f10) = true)
    {f11 : Addr} {od11 an11 : Option Addr} {sl11 : Array (Option Value)} {oc11 kV11 dc11 pm11 cd11 ct11 : Value}
    (a11 : PySem.W.nsIn K mainGlobals "ready_board" = some (some (.ref f11))) (l11 : K.lookup f11 = some ⟨oc11, od11, .func (PySem.W.fnOf "ready_board" "ready_board" (defArgs s_ready_board) (defBody s_ready_board) (defScope s_ready_board) .none kV11 dc11 pm11 an11 cd11 ct11), sl11⟩) (c11 : PySem.W.codeIn K cd11 "ready_board" = true) (k11 : PySem.W.keepIn K (.ref f11) = true)
    {f12 : Addr} {od12 an12 : Option Addr} {sl12 : Array (Option Value)} {oc12 kV12 dc12 pm12 cd12 ct12 : Value}
    (a12 : PySem.W.nsIn K mainGlobals "cuts_on" = some (some (.ref f12))) (l12 : K.lookup f12 = some ⟨oc12, od12, .func (PySem.W.fnOf "cuts_on" "cuts_on" (defArgs s_cuts_on) (defBody s_cuts_on) (defScope s_cuts_on) .none kV12 dc12 pm12 an12 cd12 ct12), sl12⟩) (c12 : PySem.W.codeIn K cd12 "cuts_on" = true) (k12 : PySem.W.keepIn K (.ref f12) = true)
    {f13 : Addr} {od13 an13 : Option Addr} {sl13 : Array (Option Value)} {oc13 kV13 dc13 pm13 cd13 ct13 : Value}
    (a13 : PySem.W.nsIn K mainGlobals "sum_told" = some (some (.ref f13))) (l13 : K.lookup f13 = some ⟨oc13, od13, .func (PySem.W.fnOf "sum_told" "sum_told" (defArgs s_sum_told) (defBody s_sum_told) (defScope s_sum_told) .none kV13 dc13 pm13 an13 cd13 ct13), sl13⟩) (c13 : PySem.W.codeIn K cd13 "sum_told" = true) (k13 : PySem.W.keepIn K (.ref f13) = true)
    {f14 : Addr} {od14 an14 : Option Addr} {sl14 : Array (Option Value)} {oc14 kV14 dc14 pm14 cd14 ct14 : Value}
    (a14 : PySem.W.nsIn K mainGlobals "_law_cell_at" = some (some (.ref f14))) (l14 : K.lookup f14 = some ⟨oc14, od14, .func (PySem.W.fnOf "_law_cell_at" "_law_cell_at" (defArgs s_l_cell_at) (defBody s_l_cell_at) (defScope s_l_cell_at) .none kV14 dc14 pm14 an14 cd14 ct14), sl14⟩) (c14 : PySem.W.codeIn K cd14 "_law_cell_at" = true) (k14 : PySem.W.keepIn K (.ref f14) = true)
    {f15 : Addr} {od15 an15 : Option Addr} {sl15 : Array (Option Value)} {oc15 kV15 dc15 pm15 cd15 ct15 : Value}
    (a15 : PySem.W.nsIn K mainGlobals "_law_numbers" = some (some (.ref f15))) (l15 : K.lookup f15 = some ⟨oc15, od15, .func (PySem.W.fnOf "_law_numbers" "_law_numbers" (defArgs s_l_numbers) (defBody s_l_numbers) (defScope s_l_numbers) .none kV15 dc15 pm15 an15 cd15 ct15), sl15⟩) (c15 : PySem.W.codeIn K cd15 "_law_numbers" = true) (k15 : PySem.W.keepIn K (.ref f15) = true)
    {f16 : Addr} {od16 an16 : Option Addr} {sl16 : Array (Option Value)} {oc16 kV16 dc16 pm16 cd16 ct16 : Value}
    (a16 : PySem.W.nsIn K mainGlobals "_law_low" = some (some (.ref f16))) (l16 : K.lookup f16 = some ⟨oc16, od16, .func (PySem.W.fnOf "_law_low" "_law_low" (defArgs s_l_low) (defBody s_l_low) (defScope s_l_low) .none kV16 dc16 pm16 an16 cd16 ct16), sl16⟩) (c16 : PySem.W.codeIn K cd16 "_law_low" = true) (k16 : PySem.W.keepIn K (.ref f16) = true)
    {f17 : Addr} {od17 an17 : Option Addr} {sl17 : Array (Option Value)} {oc17 kV17 dc17 pm17 cd17 ct17 : Value}
    (a17 : PySem.W.nsIn K mainGlobals "_law_plus" = some (some (.ref f17))) (l17 : K.lookup f17 = some ⟨oc17, od17, .func (PySem.W.fnOf "_law_plus" "_law_plus" (defArgs s_l_plus) (defBody s_l_plus) (defScope s_l_plus) .none kV17 dc17 pm17 an17 cd17 ct17), sl17⟩) (c17 : PySem.W.codeIn K cd17 "_law_plus" = true) (k17 : PySem.W.keepIn K (.ref f17) = true)
    {f18 : Addr} {od18 an18 : Option Addr} {sl18 : Array (Option Value)} {oc18 kV18 dc18 pm18 cd18 ct18 : Value}
    (a18 : PySem.W.nsIn K mainGlobals "_law_cuts" = some (some (.ref f18))) (l18 : K.lookup f18 = some ⟨oc18, od18, .func (PySem.W.fnOf "_law_cuts" "_law_cuts" (defArgs s_l_cuts) (defBody s_l_cuts) (defScope s_l_cuts) .none kV18 dc18 pm18 an18 cd18 ct18), sl18⟩) (c18 : PySem.W.codeIn K cd18 "_law_cuts" = true) (k18 : PySem.W.keepIn K (.ref f18) = true)
    {f19 : Addr} {od19 an19 : Option Addr} {sl19 : Array (Option Value)} {oc19 kV19 dc19 pm19 cd19 ct19 : Value}
    (a19 : PySem.W.nsIn K mainGlobals "_law_table" = some (some (.ref f19))) (l19 : K.lookup f19 = some ⟨oc19, od19, .func (PySem.W.fnOf "_law_table" "_law_table" (defArgs s_l_table) (defBody s_l_table) (defScope s_l_table) .none kV19 dc19 pm19 an19 cd19 ct19), sl19⟩) (c19 : PySem.W.codeIn K cd19 "_law_table" = true) (k19 : PySem.W.keepIn K (.ref f19) = true)
    {f20 : Addr} {od20 an20 : Option Addr} {sl20 : Array (Option Value)} {oc20 kV20 dc20 pm20 cd20 ct20 : Value}
    (a20 : PySem.W.nsIn K mainGlobals "_law_weight" = some (some (.ref f20))) (l20 : K.lookup f20 = some ⟨oc20, od20, .func (PySem.W.fnOf "_law_weight" "_law_weight" (defArgs s_l_weight) (defBody s_l_weight) (defScope s_l_weight) .none kV20 dc20 pm20 an20 cd20 ct20), sl20⟩) (c20 : PySem.W.codeIn K cd20 "_law_weight" = true) (k20 : PySem.W.keepIn K (.ref f20) = true)
    {f21 : Addr} {od21 an21 : Option Addr} {sl21 : Array (Option Value)} {oc21 kV21 dc21 pm21 cd21 ct21 : Value}
    (a21 : PySem.W.nsIn K mainGlobals "_law_weighted" = some (some (.ref f21))) (l21 : K.lookup f21 = some ⟨oc21, od21, .func (PySem.W.fnOf "_law_weighted" "_law_weighted" (defArgs s_l_weighted) (defBody s_l_weighted) (defScope s_l_weighted) .none kV21 dc21 pm21 an21 cd21 ct21), sl21⟩) (c21 : PySem.W.codeIn K cd21 "_law_weighted" = true) (k21 : PySem.W.keepIn K (.ref f21) = true)
    {f22 : Addr} {od22 an22 : Option Addr} {sl22 : Array (Option Value)} {oc22 kV22 dc22 pm22 cd22 ct22 : Value}
    (a22 : PySem.W.nsIn K mainGlobals "_law_is_fraction" = some (some (.ref f22))) (l22 : K.lookup f22 = some ⟨oc22, od22, .func (PySem.W.fnOf "_law_is_fraction" "_law_is_fraction" (defArgs s_l_is_fraction) (defBody s_l_is_fraction) (defScope s_l_is_fraction) .none kV22 dc22 pm22 an22 cd22 ct22), sl22⟩) (c22 : PySem.W.codeIn K cd22 "_law_is_fraction" = true) (k22 : PySem.W.keepIn K (.ref f22) = true)
    {f23 : Addr} {od23 an23 : Option Addr} {sl23 : Array (Option Value)} {oc23 kV23 dc23 pm23 cd23 ct23 : Value}
    (a23 : PySem.W.nsIn K mainGlobals "_law_is_cut" = some (some (.ref f23))) (l23 : K.lookup f23 = some ⟨oc23, od23, .func (PySem.W.fnOf "_law_is_cut" "_law_is_cut" (defArgs s_l_is_cut) (defBody s_l_is_cut) (defScope s_l_is_cut) .none kV23 dc23 pm23 an23 cd23 ct23), sl23⟩) (c23 : PySem.W.codeIn K cd23 "_law_is_cut" = true) (k23 : PySem.W.keepIn K (.ref f23) = true)
    {f24 : Addr} {od24 an24 : Option Addr} {sl24 : Array (Option Value)} {oc24 kV24 dc24 pm24 cd24 ct24 : Value}
    (a24 : PySem.W.nsIn K mainGlobals "_law_sum_of" = some (some (.ref f24))) (l24 : K.lookup f24 = some ⟨oc24, od24, .func (PySem.W.fnOf "_law_sum_of" "_law_sum_of" (defArgs s_l_sum_of) (defBody s_l_sum_of) (defScope s_l_sum_of) .none kV24 dc24 pm24 an24 cd24 ct24), sl24⟩) (c24 : PySem.W.codeIn K cd24 "_law_sum_of" = true) (k24 : PySem.W.keepIn K (.ref f24) = true)
    {f25 : Addr} {od25 an25 : Option Addr} {sl25 : Array (Option Value)} {oc25 kV25 dc25 pm25 cd25 ct25 : Value}
    (a25 : PySem.W.nsIn K mainGlobals "_law_copy" = some (some (.ref f25))) (l25 : K.lookup f25 = some ⟨oc25, od25, .func (PySem.W.fnOf "_law_copy" "_law_copy" (defArgs s_l_copy) (defBody s_l_copy) (defScope s_l_copy) .none kV25 dc25 pm25 an25 cd25 ct25), sl25⟩) (c25 : PySem.W.codeIn K cd25 "_law_copy" = true) (k25 : PySem.W.keepIn K (.ref f25) = true)
    {f26 : Addr} {od26 an26 : Option Addr} {sl26 : Array (Option Value)} {oc26 kV26 dc26 pm26 cd26 ct26 : Value}
    (a26 : PySem.W.nsIn K mainGlobals "_law_size" = some (some (.ref f26))) (l26 : K.lookup f26 = some ⟨oc26, od26, .func (PySem.W.fnOf "_law_size" "_law_size" (defArgs s_l_size) (defBody s_l_size) (defScope s_l_size) .none kV26 dc26 pm26 an26 cd26 ct26), sl26⟩) (c26 : PySem.W.codeIn K cd26 "_law_size" = true) (k26 : PySem.W.keepIn K (.ref f26) = true)
    {f27 : Addr} {od27 an27 : Option Addr} {sl27 : Array (Option Value)} {oc27 kV27 dc27 pm27 cd27 ct27 : Value}
    (a27 : PySem.W.nsIn K mainGlobals "law" = some (some (.ref f27))) (l27 : K.lookup f27 = some ⟨oc27, od27, .func (PySem.W.fnOf "law" "law" (defArgs s_law) (defBody s_law) (defScope s_law) .none kV27 dc27 pm27 an27 cd27 ct27), sl27⟩) (c27 : PySem.W.codeIn K cd27 "law" = true) (k27 : PySem.W.keepIn K (.ref f27) = true)
    (pg_Board : PySem.W.plainGet K C_Board Str.empty = true)
    (hd_Board : PySem.W.hasDictIn K C_Board = true)
    (po_Board : PySem.W.plainOver K C_Board = true)
    (sa_Board : PySem.W.findIn K (.ref C_Board) "__setattr__" = some (some (.builtin "object.__setattr__")))
    (mk_Board : PySem.W.makesIn K C_Board = true)
    (kc_Board : PySem.W.keepIn K (.ref C_Board) = true)
    (na_Board_main_count : PySem.W.findIn K (.ref C_Board) "main_count" = some none)
    (na_Board_number_rows : PySem.W.findIn K (.ref C_Board) "number_rows" = some none)
    (na_Board_goal_row : PySem.W.findIn K (.ref C_Board) "goal_row" = some none)
    (na_Board_stand_columns : PySem.W.findIn K (.ref C_Board) "stand_columns" = some none)
    (na_Board_unit_number : PySem.W.findIn K (.ref C_Board) "unit_number" = some none)
    (z_abs : PySem.W.nsIn K mainGlobals "abs" = some none)
    (z_bool : PySem.W.nsIn K mainGlobals "bool" = some none)
    (z_int : PySem.W.nsIn K mainGlobals "int" = some none)
    (z_isinstance : PySem.W.nsIn K mainGlobals "isinstance" = some none)
    (z_len : PySem.W.nsIn K mainGlobals "len" = some none)
    (z_list : PySem.W.nsIn K mainGlobals "list" = some none)
    (z_max : PySem.W.nsIn K mainGlobals "max" = some none)
    (z_min : PySem.W.nsIn K mainGlobals "min" = some none)
    (z_range : PySem.W.nsIn K mainGlobals "range" = some none)
    (z_sorted : PySem.W.nsIn K mainGlobals "sorted" = some none)
    (z_sum : PySem.W.nsIn K mainGlobals "sum" = some none)
    (z_tuple : PySem.W.nsIn K mainGlobals "tuple" = some none)
    (z_zip : PySem.W.nsIn K mainGlobals "zip" = some none)
    : ∃ fd : FuncData, (∀ (s : Shared) (v : Value), BindsTo s fd ⟨[v], []⟩ [("script", v)]) ∧ ∀ base : Heap, K.In base → base.Ns mainGlobals mg → FnOk l.prog w K mg base CX0 6 fa fd ["script"] (spL K) := by
  have e := hfa.symm.trans (PySem.W.mg_of X G a27)
  cases e
  have T : Tx K mg := ⟨PySem.W.mg_none_of X G z_abs, PySem.W.mg_none_of X G z_bool, PySem.W.mg_none_of X G z_int, PySem.W.mg_none_of X G z_isinstance, PySem.W.mg_none_of X G z_len, PySem.W.mg_none_of X G z_list, PySem.W.mg_none_of X G z_max, PySem.W.mg_none_of X G z_min, PySem.W.mg_none_of X G z_range, PySem.W.mg_none_of X G z_sorted, PySem.W.mg_none_of X G z_sum, PySem.W.mg_none_of X G z_tuple, PySem.W.mg_none_of X G z_zip⟩
  haveI : HasF K C_Board "main_count" := ⟨⟨pg_Board, hd_Board, po_Board, sa_Board⟩, na_Board_main_count⟩
  haveI : HasF K C_Board "number_rows" := ⟨⟨pg_Board, hd_Board, po_Board, sa_Board⟩, na_Board_number_rows⟩
  haveI : HasF K C_Board "goal_row" := ⟨⟨pg_Board, hd_Board, po_Board, sa_Board⟩, na_Board_goal_row⟩
  haveI : HasF K C_Board "stand_columns" := ⟨⟨pg_Board, hd_Board, po_Board, sa_Board⟩, na_Board_stand_columns⟩
  haveI : HasF K C_Board "unit_number" := ⟨⟨pg_Board, hd_Board, po_Board, sa_Board⟩, na_Board_unit_number⟩
  have F0 := fun_mk (st := s_common_of) l0 c0 k0
  have b0 := F0.binds (ps := ["one", "other"]) fun _ _ _ _ _ _ us hl => match us, hl with | [_, _], _ => rfl
  have F1 := fun_mk (st := s_fraction) l1 c1 k1
  have b1 := F1.binds (ps := ["top", "bottom"]) fun _ _ _ _ _ _ us hl => match us, hl with | [_, _], _ => rfl
  have F2 := fun_mk (st := s_Board___init__) l2 c2 k2
  have b2 := F2.binds (ps := ["self", "rows", "sums"]) fun _ _ _ _ _ _ us hl => match us, hl with | [_, _, _], _ => rfl
  have F3 := fun_mk (st := s_Board_turned_row) l3 c3 k3
  have b3 := F3.binds (ps := ["self", "row", "lead_row", "s"]) fun _ _ _ _ _ _ us hl => match us, hl with | [_, _, _, _], _ => rfl
  have F4 := fun_mk (st := s_Board_turn_about) l4 c4 k4
  have b4 := F4.binds (ps := ["self", "r", "s"]) fun _ _ _ _ _ _ us hl => match us, hl with | [_, _, _], _ => rfl
  have F5 := fun_mk (st := s_Board_entering_column) l5 c5 k5
  have b5 := F5.binds (ps := ["self"]) fun _ _ _ _ _ _ us hl => match us, hl with | [_], _ => rfl
  have F6 := fun_mk (st := s_Board_leaving_row) l6 c6 k6
  have b6 := F6.binds (ps := ["self", "s"]) fun _ _ _ _ _ _ us hl => match us, hl with | [_, _], _ => rfl
  have F7 := fun_mk (st := s_Board_lead_down) l7 c7 k7
  have b7 := F7.binds (ps := ["self"]) fun _ _ _ _ _ _ us hl => match us, hl with | [_], _ => rfl
  have F8 := fun_mk (st := s_all_cuts) l8 c8 k8
  have b8 := F8.binds (ps := ["n"]) fun _ _ _ _ _ _ us hl => match us, hl with | [_], _ => rfl
  have F9 := fun_mk (st := s_pairs_of) l9 c9 k9
  have b9 := F9.binds (ps := ["n"]) fun _ _ _ _ _ _ us hl => match us, hl with | [_], _ => rfl
  have F10 := fun_mk (st := s_whole_by) l10 c10 k10
  have b10 := F10.binds (ps := ["table"]) fun _ _ _ _ _ _ us hl => match us, hl with | [_], _ => rfl
  have F11 := fun_mk (st := s_ready_board) l11 c11 k11
  have b11 := F11.binds (ps := ["table"]) fun _ _ _ _ _ _ us hl => match us, hl with | [_], _ => rfl
  have F12 := fun_mk (st := s_cuts_on) l12 c12 k12
  have b12 := F12.binds (ps := ["table", "board"]) fun _ _ _ _ _ _ us hl => match us, hl with | [_, _], _ => rfl
  have F13 := fun_mk (st := s_sum_told) l13 c13 k13
  have b13 := F13.binds (ps := ["table"]) fun _ _ _ _ _ _ us hl => match us, hl with | [_], _ => rfl
  have F14 := fun_mk (st := s_l_cell_at) l14 c14 k14
  have b14 := F14.binds (ps := ["script", "k"]) fun _ _ _ _ _ _ us hl => match us, hl with | [_, _], _ => rfl
  have F15 := fun_mk (st := s_l_numbers) l15 c15 k15
  have b15 := F15.binds (ps := ["cell", "many"]) fun _ _ _ _ _ _ us hl => match us, hl with | [_, _], _ => rfl
  have F16 := fun_mk (st := s_l_low) l16 c16 k16
  have b16 := F16.binds (ps := ["top", "bottom"]) fun _ _ _ _ _ _ us hl => match us, hl with | [_, _], _ => rfl
  have F17 := fun_mk (st := s_l_plus) l17 c17 k17
  have b17 := F17.binds (ps := ["q", "r"]) fun _ _ _ _ _ _ us hl => match us, hl with | [_, _], _ => rfl
  have F18 := fun_mk (st := s_l_cuts) l18 c18 k18
  have b18 := F18.binds (ps := ["n"]) fun _ _ _ _ _ _ us hl => match us, hl with | [_], _ => rfl
  have F19 := fun_mk (st := s_l_table) l19 c19 k19
  have b19 := F19.binds (ps := ["n", "cuts"]) fun _ _ _ _ _ _ us hl => match us, hl with | [_, _], _ => rfl
  have F20 := fun_mk (st := s_l_weight) l20 c20 k20
  have b20 := F20.binds (ps := ["number", "kind"]) fun _ _ _ _ _ _ us hl => match us, hl with | [_, _], _ => rfl
  have F21 := fun_mk (st := s_l_weighted) l21 c21 k21
  have b21 := F21.binds (ps := ["n", "xs"]) fun _ _ _ _ _ _ us hl => match us, hl with | [_, _], _ => rfl
  have F22 := fun_mk (st := s_l_is_fraction) l22 c22 k22
  have b22 := F22.binds (ps := ["found"]) fun _ _ _ _ _ _ us hl => match us, hl with | [_], _ => rfl
  have F23 := fun_mk (st := s_l_is_cut) l23 c23 k23
  have b23 := F23.binds (ps := ["n", "cut"]) fun _ _ _ _ _ _ us hl => match us, hl with | [_, _], _ => rfl
  have F24 := fun_mk (st := s_l_sum_of) l24 c24 k24
  have b24 := F24.binds (ps := ["n", "cuts", "table"]) fun _ _ _ _ _ _ us hl => match us, hl with | [_, _, _], _ => rfl
  have F25 := fun_mk (st := s_l_copy) l25 c25 k25
  have b25 := F25.binds (ps := ["table"]) fun _ _ _ _ _ _ us hl => match us, hl with | [_], _ => rfl
  have F26 := fun_mk (st := s_l_size) l26 c26 k26
  have b26 := F26.binds (ps := ["number", "first"]) fun _ _ _ _ _ _ us hl => match us, hl with | [_, _], _ => rfl
  have F27 := fun_mk (st := s_law) l27 c27 k27
  have b27 := F27.binds (ps := ["script"]) fun _ _ _ _ _ _ us hl => match us, hl with | [_], _ => rfl
  refine ⟨PySem.W.fnOf "law" "law" (defArgs s_law) (defBody s_law) (defScope s_law) .none kV27 dc27 pm27 an27 cd27 ct27, fun s v => .of_eq rfl, fun base _ _ => ?_⟩
  have c_common_of := cal_of (ok_common_of (P := l.prog) (w := w) (base := base) F0 T ) F0 b0 (PySem.W.mg_of X G a0)
  have k_Board : C8.Mak l.prog w K mg base 1 "Board" C_Board _ [] := ⟨f2, _, _, [], ⟨mk_Board, a2, i2, kc_Board⟩, ok_Board___init__ (P := l.prog) (w := w) (base := base) (C := C_Board) F2 T , PySem.W.mg_of X G aC_Board, b2, .nil⟩
  have m_Board_turned_row : C8.Met l.prog w K mg base 1 C_Board "turned_row" _ [] := ⟨f3, _, _, [], ⟨pg_Board, hd_Board, po_Board, sa_Board⟩, ⟨a3, i3, k3⟩, ok_Board_turned_row (P := l.prog) (w := w) (base := base) (C := C_Board) F3 T , b3, .nil⟩
  have m_Board_entering_column : C8.Met l.prog w K mg base 1 C_Board "entering_column" _ [] := ⟨f5, _, _, [], ⟨pg_Board, hd_Board, po_Board, sa_Board⟩, ⟨a5, i5, k5⟩, ok_Board_entering_column (P := l.prog) (w := w) (base := base) (C := C_Board) F5 T , b5, .nil⟩
  have m_Board_leaving_row : C8.Met l.prog w K mg base 1 C_Board "leaving_row" _ [] := ⟨f6, _, _, [], ⟨pg_Board, hd_Board, po_Board, sa_Board⟩, ⟨a6, i6, k6⟩, ok_Board_leaving_row (P := l.prog) (w := w) (base := base) (C := C_Board) F6 T , b6, .nil⟩
  have c_all_cuts := cal_of (ok_all_cuts (P := l.prog) (w := w) (base := base) F8 T ) F8 b8 (PySem.W.mg_of X G a8)
  have c_pairs_of := cal_of (ok_pairs_of (P := l.prog) (w := w) (base := base) F9 T ) F9 b9 (PySem.W.mg_of X G a9)
  have c_l_cell_at := cal_of (ok_l_cell_at (P := l.prog) (w := w) (base := base) F14 T ) F14 b14 (PySem.W.mg_of X G a14)
  have c_l_numbers := cal_of (ok_l_numbers (P := l.prog) (w := w) (base := base) F15 T ) F15 b15 (PySem.W.mg_of X G a15)
  have c_l_low := cal_of (ok_l_low (P := l.prog) (w := w) (base := base) F16 T ) F16 b16 (PySem.W.mg_of X G a16)
  have c_l_cuts := cal_of (ok_l_cuts (P := l.prog) (w := w) (base := base) F18 T ) F18 b18 (PySem.W.mg_of X G a18)
  have c_l_is_cut := cal_of (ok_l_is_cut (P := l.prog) (w := w) (base := base) F23 T ) F23 b23 (PySem.W.mg_of X G a23)
  have c_l_copy := cal_of (ok_l_copy (P := l.prog) (w := w) (base := base) F25 T ) F25 b25 (PySem.W.mg_of X G a25)
  have c_l_size := cal_of (ok_l_size (P := l.prog) (w := w) (base := base) F26 T ) F26 b26 (PySem.W.mg_of X G a26)
  have c_fraction := cal_of (ok_fraction (P := l.prog) (w := w) (base := base) F1 T (c_common_of := c_common_of)) F1 b1 (PySem.W.mg_of X G a1)
  have m_Board_turn_about : C8.Met l.prog w K mg base 2 C_Board "turn_about" _ [] := ⟨f4, _, _, [], ⟨pg_Board, hd_Board, po_Board, sa_Board⟩, ⟨a4, i4, k4⟩, ok_Board_turn_about (P := l.prog) (w := w) (base := base) (C := C_Board) F4 T (m_Board_turned_row := m_Board_turned_row), b4, .nil⟩
  have c_whole_by := cal_of (ok_whole_by (P := l.prog) (w := w) (base := base) F10 T (c_common_of := c_common_of)) F10 b10 (PySem.W.mg_of X G a10)
  have c_l_plus := cal_of (ok_l_plus (P := l.prog) (w := w) (base := base) F17 T (c_l_low := c_l_low)) F17 b17 (PySem.W.mg_of X G a17)
  have c_l_weight := cal_of (ok_l_weight (P := l.prog) (w := w) (base := base) F20 T (c_l_low := c_l_low)) F20 b20 (PySem.W.mg_of X G a20)
  have c_l_is_fraction := cal_of (ok_l_is_fraction (P := l.prog) (w := w) (base := base) F22 T (c_l_low := c_l_low)) F22 b22 (PySem.W.mg_of X G a22)
  have m_Board_lead_down : C8.Met l.prog w K mg base 3 C_Board "lead_down" _ [] := ⟨f7, _, _, [], ⟨pg_Board, hd_Board, po_Board, sa_Board⟩, ⟨a7, i7, k7⟩, ok_Board_lead_down (P := l.prog) (w := w) (base := base) (C := C_Board) F7 T (m_Board_turn_about := m_Board_turn_about) (m_Board_entering_column := m_Board_entering_column) (m_Board_leaving_row := m_Board_leaving_row), b7, .nil⟩
  have c_cuts_on := cal_of (ok_cuts_on (P := l.prog) (w := w) (base := base) (C := C_Board) F12 T (c_fraction := c_fraction) (c_all_cuts := c_all_cuts) (c_whole_by := c_whole_by)) F12 b12 (PySem.W.mg_of X G a12)
  have c_l_table := cal_of (ok_l_table (P := l.prog) (w := w) (base := base) F19 T (c_l_plus := c_l_plus)) F19 b19 (PySem.W.mg_of X G a19)
  have c_l_weighted := cal_of (ok_l_weighted (P := l.prog) (w := w) (base := base) F21 T (c_l_cuts := c_l_cuts) (c_l_weight := c_l_weight)) F21 b21 (PySem.W.mg_of X G a21)
  have c_ready_board := cal_of (ok_ready_board (P := l.prog) (w := w) (base := base) (C := C_Board) F11 T (k_Board := k_Board) (m_Board_lead_down := m_Board_lead_down) (c_all_cuts := c_all_cuts) (c_pairs_of := c_pairs_of) (c_whole_by := c_whole_by)) F11 b11 (PySem.W.mg_of X G a11)
  have c_l_sum_of := cal_of (ok_l_sum_of (P := l.prog) (w := w) (base := base) F24 T (c_l_table := c_l_table) (c_l_is_fraction := c_l_is_fraction) (c_l_is_cut := c_l_is_cut)) F24 b24 (PySem.W.mg_of X G a24)
  have c_sum_told := cal_of (ok_sum_told (P := l.prog) (w := w) (base := base) (C := C_Board) F13 T (c_fraction := c_fraction) (c_ready_board := c_ready_board) (c_cuts_on := c_cuts_on)) F13 b13 (PySem.W.mg_of X G a13)
  exact ok_law F27 T (c_sum_told := c_sum_told) (c_l_cell_at := c_l_cell_at) (c_l_numbers := c_l_numbers) (c_l_table := c_l_table) (c_l_weighted := c_l_weighted) (c_l_sum_of := c_l_sum_of) (c_l_copy := c_l_copy) (c_l_size := c_l_size)
end Fc
open PySem PySem.W PyProof.Rows
set_option maxRecDepth 100000 in
set_option maxHeartbeats 0 in
theorem PySem.Challenge.cw_farcuts_k33_sums_of_drawn_cuts_holds : PySem.Challenge.rw_farcuts_k33_sums_of_drawn_cuts.Holds := by
  w_on; o_law; k_head; (case hw => w_witness2)
  k_fill
  refine L2.walk_of (l := PySem.Challenge.rw_farcuts_k33_sums_of_drawn_cuts) (n := 63) (k := 6) (x := "script") (CX := fun _ => L2.CX0) (sp := fun w => Fc.spL _) rfl (by decide) rfl ⟨rfl, by decide, by decide⟩ (fun w h Y => PySem.W.kIn_of Y) ?F (fun _ _ a ns hl _ hS => ⟨a, ns, rfl, hS, hl, fun _ => rfl⟩) (fun _ _ _ _ _ h => h)
  case F =>
    intro w mg fa h KX G hmg
    refine' Fc.all_mk KX G hmg ?aC_Board ?a0 ?l0 ?c0 ?k0 ?a1 ?l1 ?c1 ?k1 ?i2 ?a2 ?l2 ?c2 ?k2 ?i3 ?a3 ?l3 ?c3 ?k3 ?i4 ?a4 ?l4 ?c4 ?k4 ?i5 ?a5 ?l5 ?c5 ?k5 ?i6 ?a6 ?l6 ?c6 ?k6 ?i7 ?a7 ?l7 ?c7 ?k7 ?a8 ?l8 ?c8 ?k8 ?a9 ?l9 ?c9 ?k9 ?a10 ?l10 ?c10 ?k10 ?a11 ?l11 ?c11 ?k11 ?a12 ?l12 ?c12 ?k12 ?a13 ?l13 ?c13 ?k13 ?a14 ?l14 ?c14 ?k14 ?a15 ?l15 ?c15 ?k15 ?a16 ?l16 ?c16 ?k16 ?a17 ?l17 ?c17 ?k17 ?a18 ?l18 ?c18 ?k18 ?a19 ?l19 ?c19 ?k19 ?a20 ?l20 ?c20 ?k20 ?a21 ?l21 ?c21 ?k21 ?a22 ?l22 ?c22 ?k22 ?a23 ?l23 ?c23 ?k23 ?a24 ?l24 ?c24 ?k24 ?a25 ?l25 ?c25 ?k25 ?a26 ?l26 ?c26 ?k26 ?a27 ?l27 ?c27 ?k27 ?pg_Board ?hd_Board ?po_Board ?sa_Board ?mk_Board ?kc_Board ?na_Board_main_count ?na_Board_number_rows ?na_Board_goal_row ?na_Board_stand_columns ?na_Board_unit_number ?z_abs ?z_bool ?z_int ?z_isinstance ?z_len ?z_list ?z_max ?z_min ?z_range ?z_sorted ?z_sum ?z_tuple ?z_zip
    (case aC_Board => k_is)
    (case a0 => k_is)
    (case l0 => k_is)
    (case c0 => k_is)
    (case k0 => k_is)
    (case a1 => k_is)
    (case l1 => k_is)
    (case c1 => k_is)
    (case k1 => k_is)
    (case a2 => k_is)
    (case l2 => k_is)
    (case c2 => k_is)
    (case k2 => k_is)
    (case a3 => k_is)
    (case l3 => k_is)
    (case c3 => k_is)
    (case k3 => k_is)
    (case a4 => k_is)
    (case l4 => k_is)
    (case c4 => k_is)
    (case k4 => k_is)
    (case a5 => k_is)
    (case l5 => k_is)
    (case c5 => k_is)
    (case k5 => k_is)
    (case a6 => k_is)
    (case l6 => k_is)
    (case c6 => k_is)
    (case k6 => k_is)
    (case a7 => k_is)
    (case l7 => k_is)
    (case c7 => k_is)
    (case k7 => k_is)
    (case a8 => k_is)
    (case l8 => k_is)
    (case c8 => k_is)
    (case k8 => k_is)
    (case a9 => k_is)
    (case l9 => k_is)
    (case c9 => k_is)
    (case k9 => k_is)
    (case a10 => k_is)
    (case l10 => k_is)
    (case c10 => k_is)
    (case k10 => k_is)
    (case a11 => k_is)
    (case l11 => k_is)
    (case c11 => k_is)
    (case k11 => k_is)
    (case a12 => k_is)
    (case l12 => k_is)
    (case c12 => k_is)
    (case k12 => k_is)
    (case a13 => k_is)
    (case l13 => k_is)
    (case c13 => k_is)
    (case k13 => k_is)
    (case a14 => k_is)
    (case l14 => k_is)
    (case c14 => k_is)
    (case k14 => k_is)
    (case a15 => k_is)
    (case l15 => k_is)
    (case c15 => k_is)
    (case k15 => k_is)
    (case a16 => k_is)
    (case l16 => k_is)
    (case c16 => k_is)
    (case k16 => k_is)
    (case a17 => k_is)
    (case l17 => k_is)
    (case c17 => k_is)
    (case k17 => k_is)
    (case a18 => k_is)
    (case l18 => k_is)
    (case c18 => k_is)
    (case k18 => k_is)
    (case a19 => k_is)
    (case l19 => k_is)
    (case c19 => k_is)
    (case k19 => k_is)
    (case a20 => k_is)
    (case l20 => k_is)
    (case c20 => k_is)
    (case k20 => k_is)
    (case a21 => k_is)
    (case l21 => k_is)
    (case c21 => k_is)
    (case k21 => k_is)
    (case a22 => k_is)
    (case l22 => k_is)
    (case c22 => k_is)
    (case k22 => k_is)
    (case a23 => k_is)
    (case l23 => k_is)
    (case c23 => k_is)
    (case k23 => k_is)
    (case a24 => k_is)
    (case l24 => k_is)
    (case c24 => k_is)
    (case k24 => k_is)
    (case a25 => k_is)
    (case l25 => k_is)
    (case c25 => k_is)
    (case k25 => k_is)
    (case a26 => k_is)
    (case l26 => k_is)
    (case c26 => k_is)
    (case k26 => k_is)
    (case a27 => k_is)
    (case l27 => k_is)
    (case c27 => k_is)
    (case k27 => k_is)
    (case pg_Board => k_is)
    (case hd_Board => k_is)
    (case po_Board => k_is)
    (case sa_Board => k_is)
    (case mk_Board => k_is)
    (case kc_Board => k_is)
    (case na_Board_main_count => k_is)
    (case na_Board_number_rows => k_is)
    (case na_Board_goal_row => k_is)
    (case na_Board_stand_columns => k_is)
    (case na_Board_unit_number => k_is)
    (case z_abs => k_is)
    (case z_bool => k_is)
    (case z_int => k_is)
    (case z_isinstance => k_is)
    (case z_len => k_is)
    (case z_list => k_is)
    (case z_max => k_is)
    (case z_min => k_is)
    (case z_range => k_is)
    (case z_sorted => k_is)
    (case z_sum => k_is)
    (case z_tuple => k_is)
    (case z_zip => k_is)
    (case i2 => k_is)
    (case i3 => k_is)
    (case i4 => k_is)
    (case i5 => k_is)
    (case i6 => k_is)
    (case i7 => k_is)
