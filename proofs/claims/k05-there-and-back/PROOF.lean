import PyProof.Rows.All
import Wide.All
import OpenK.AllK
import Wide.FinOn
import PySem.Challenge.RW_farcuts_k05_whole_there_and_back
import HandS.ForMost
import HandS.ForExc
import HandS.Wide
import HandS.IsInst
import HandS.SortInts
import HandS.Deep
import HandS.Steps
import HandS.TupAny
import HandS.Codes
import HandS.NoneIn
import HandS.ExcIs
import HandS.ExcValue
set_option Elab.async false
set_option linter.all false
set_option maxRecDepth 100000
set_option maxHeartbeats 4000000
namespace Fc
open PySem PySem.Spec PyProof.Rows L2
open C8 (Cal pe_c)
/-! ### readings by names -/
def rAddS : R2 := fun x y H Q => ∃ i j, x = .str i ∧ y = .str j ∧ i.length + j.length ≤ sizeLine ∧ Q (.str (i ++ j)) H
theorem op_addS {X : Cx} : OpR X (binaryOp .Add) rAddS := op_add_str
def rLenSeq (K : PySem.W.Frag) : List V → Hp → VK → Prop := fun xs H Q => ∃ p ys, xs = [.ref p] ∧ (SqL K H p ys ∨ SqT K H p ys) ∧ Q (.int ys.length) H
theorem cr_lenSeq {X : Cx} : CallR X (.builtin "len") (rLenSeq X.K) := call_len_seq
def rLenStr : List V → Hp → VK → Prop := fun xs H Q => ∃ z, xs = [.str z] ∧ z.length ≤ sizeLine ∧ Q (.int z.length) H
theorem cr_lenStr {X : Cx} : CallR X (.builtin "len") rLenStr := call_len_str
def rAbs : List V → Hp → VK → Prop := fun xs H Q => ∃ i, xs = [.int i] ∧ Q (.int (if i < 0 then -i else i)) H
theorem cr_abs {X : Cx} : CallR X (.builtin "abs") rAbs := call_abs
def rMax2 : List V → Hp → VK → Prop := fun xs H Q => ∃ i j, xs = [.int i, .int j] ∧ Q (.int (if j > i then j else i)) H
theorem cr_max2 {X : Cx} (h : X.calm = true) : CallR X (.builtin "max") rMax2 := call_max2 h
def rMin2 : List V → Hp → VK → Prop := fun xs H Q => ∃ i j, xs = [.int i, .int j] ∧ Q (.int (if j < i then j else i)) H
theorem cr_min2 {X : Cx} (h : X.calm = true) : CallR X (.builtin "min") rMin2 := call_min2 h
def rInt1 : List V → Hp → VK → Prop := fun xs H Q => (∃ i, xs = [.int i] ∧ Q (.int i) H) ∨ ∃ k, xs = [.bl k] ∧ Q (.int (if k then 1 else 0)) H
theorem cr_int1 {X : Cx} : CallR X (.type "int") rInt1 := call_int1
def rStrI : List V → Hp → VK → Prop := fun xs H Q => ∃ i, xs = [.int i] ∧ i.natAbs.log2 < 1920 ∧ Q (.str (toString i)) H
theorem cr_strI {X : Cx} : CallR X (.type "str") rStrI := call_str_int
def rListOf (K : PySem.W.Frag) : List V → Hp → VK → Prop := fun xs H Q => ∃ p ys, xs = [.ref p] ∧ (SqL K H p ys ∨ SqT K H p ys) ∧ ∀ l, H l = none → Q (.ref l) (upd H l (.lst ys))
theorem cr_listOf {X : Cx} : CallR X (.type "list") (rListOf X.K) := call_list_of
theorem room_u {k : Nat} {A : Around} (hr : Room k A) : A.units + 64 < cLine := by have := hr.un; omega
theorem room_u65 {k : Nat} {A : Around} (hr : Room k A) : A.units + 65 < cLine := by have := hr.un; omega
theorem _root_.L2.Room.units65 {k : Nat} {A : Around} (hr : Room k A) : A.units + 65 < cLine := room_u65 hr
section
variable {P : Program} {w : World} {K : PySem.W.Frag} {mg : Str → Option Value} {base : Heap}
theorem cal_of {x qual : Str} {st : Stmt} {f : Addr} {fd : FuncData} {ps : List Str} {k : Nat} {sp : Sp} (h : FnOk P w K mg base CX0 k f fd ps sp) (F : Fun K x qual st f fd) (b : Binds K fd ps []) (g : mg x = some (.ref f)) : Cal P w K mg base k x sp [] :=
  ⟨⟨f, fd, ps, [], h, g, F.kp, b, .nil⟩⟩
end
/-! ### stepping through a reading -/
section
variable {K : PySem.W.Frag} {σ : L2.St} {H : Hp} {Q : VK} {D : Ends} {x y v : V} {ta tb te : TE} {t u : TS} {i j : Int}
theorem g_var {n : Nat} (h : σ[n]? = some (some v)) (q : Q v H) : tVar n σ H Q := ⟨v, h, q⟩
theorem g_c (q : Q v H) : tC v σ H Q := q
theorem g_op {r : R2} (q : ta σ H fun x H1 => tb σ H1 fun y H2 => r x y H2 Q) : tOp r ta tb σ H Q := q
theorem g_un {r : V → Hp → VK → Prop} (q : ta σ H fun x H1 => r x H1 Q) : tUn r ta σ H Q := q
theorem g_neg (q : Q (.int (-i)) H) : rU (fun i => .int (-i)) (.int i) H Q := ⟨i, rfl, q⟩
theorem g_I0 {g : Int → Int → V} (q : Q (g i j) H) : rI0 g (.int i) (.int j) H Q := ⟨i, j, rfl, rfl, q⟩
theorem g_mod (c : 0 < j) (q : Q (.int (i % j)) H) : rI (fun _ j => 0 < j) (fun i j => .int (i % j)) (.int i) (.int j) H Q := ⟨i, j, rfl, rfl, c, q⟩
theorem g_mul (c : CMulW i j) (q : Q (.int (i * j)) H) : rI CMulW (fun i j => .int (i * j)) (.int i) (.int j) H Q := ⟨i, j, rfl, rfl, c, q⟩
theorem g_div (c : CDivW i j) (q : Q (.int (i / j)) H) : rI CDivW (fun i j => .int (i / j)) (.int i) (.int j) H Q := ⟨i, j, rfl, rfl, c, q⟩
theorem g_pow (c : CPow i j) (q : Q (.int (i ^ j.toNat)) H) : rI CPow (fun i j => .int (i ^ j.toNat)) (.int i) (.int j) H Q := ⟨i, j, rfl, rfl, c, q⟩
theorem g_eq (c : scal x y = true) (q : Q (.bl (decide (x = y))) H) : rEq x y H Q := ⟨c, q⟩
theorem g_ne (c : scal x y = true) (q : Q (.bl (!decide (x = y))) H) : rNe x y H Q := ⟨c, q⟩
theorem g_eqI (q : Q (.bl (decide (i = j))) H) : rEq (.int i) (.int j) H Q := ⟨rfl, by
  have e : decide (V.int i = V.int j) = decide (i = j) := by simp
  rw [e]; exact q⟩
theorem g_neI (q : Q (.bl (!decide (i = j))) H) : rNe (.int i) (.int j) H Q := ⟨rfl, by
  have e : decide (V.int i = V.int j) = decide (i = j) := by simp
  rw [e]; exact q⟩
theorem g_eqB {a b : Bool} (q : Q (.bl (decide (a = b))) H) : rEq (.bl a) (.bl b) H Q := ⟨rfl, by
  have e : decide (V.bl a = V.bl b) = decide (a = b) := by simp
  rw [e]; exact q⟩
theorem g_neB {a b : Bool} (q : Q (.bl (!decide (a = b))) H) : rNe (.bl a) (.bl b) H Q := ⟨rfl, by
  have e : decide (V.bl a = V.bl b) = decide (a = b) := by simp
  rw [e]; exact q⟩
theorem g_ixT {p : Addr} {xs : List V} (h : SqT K H p xs) (a : atI xs i = some v) (q : Q v H) : rIxT K (.ref p) (.int i) H Q := ⟨p, xs, i, v, rfl, rfl, h, a, q⟩
theorem g_ixL {p : Addr} {xs : List V} (h : SqL K H p xs) (a : atI xs i = some v) (q : Q v H) : rIxL K (.ref p) (.int i) H Q := ⟨p, xs, i, v, rfl, rfl, h, a, q⟩
theorem g_tcons {tr : TA} {Q : List V → Hp → Prop} (q : ta σ H fun x H1 => tr σ H1 fun xs H2 => Q (x :: xs) H2) : tCons ta tr σ H Q := q
theorem g_tnil {Q : List V → Hp → Prop} (q : Q [] H) : tNil σ H Q := q
theorem g_cb {r : List V → Hp → VK → Prop} {t : TA} (q : t σ H fun vs H1 => r vs H1 Q) : tCB r t σ H Q := q
theorem g_call {sp : Sp} {dvs : List V} {E : XK} {t : TA} (q : t σ H fun vs H1 => sp (vs ++ dvs) H1 Q E) : tCall sp dvs E t σ H Q := q
theorem g_tup {t : TA} (q : t σ H fun xs H1 => xs.length ≤ sizeLine ∧ ∀ p, H1 p = none → Q (.ref p) (upd H1 p (.tup xs))) : tTup t σ H Q := q
theorem g_lst {t : TA} (q : t σ H fun xs H1 => xs.length ≤ sizeLine ∧ ∀ p, H1 p = none → Q (.ref p) (upd H1 p (.lst xs))) : tLst t σ H Q := q
theorem g_if {c : TT} (q : c σ H fun b H1 => if b = true then t D σ H1 else u D σ H1) : tIfS c t u D σ H := q
theorem g_test {Q : Bool → Hp → Prop} (q : te σ H fun x H' => ∃ k, x = .bl k ∧ Q k H') : tTest te σ H Q := q
theorem g_tB {Q : Bool → Hp → Prop} (q : te σ H fun x H' => ∃ k, x = .bl k ∧ Q k H') : tB te σ H Q := q
theorem g_bl {b : Bool} {Q : Bool → Hp → Prop} (q : Q b H) : ∃ k, V.bl b = .bl k ∧ Q k H := ⟨b, rfl, q⟩
theorem g_blV {b : Bool} {Q : Bool → Prop} (q : Q b) : ∃ k, V.bl b = .bl k ∧ Q k := ⟨b, rfl, q⟩
theorem g_not {c : TT} {Q : Bool → Hp → Prop} (q : c σ H fun c H1 => Q (!c) H1) : tNot c σ H Q := q
theorem g_and {c d : TT} {Q : Bool → Hp → Prop} (q : c σ H fun c H1 => if c = true then d σ H1 Q else Q false H1) : tAnd c d σ H Q := q
theorem g_or {c d : TT} {Q : Bool → Hp → Prop} (q : c σ H fun c H1 => if c = true then Q true H1 else d σ H1 Q) : tOr c d σ H Q := q
theorem g_andV (q : ta σ H fun x H1 => ∃ c, x = .bl c ∧ if c = true then tb σ H1 Q else Q (.bl false) H1) : tAndV ta tb σ H Q := q
theorem g_orV (q : ta σ H fun x H1 => ∃ c, x = .bl c ∧ if c = true then Q (.bl true) H1 else tb σ H1 Q) : tOrV ta tb σ H Q := q
theorem g_notV (q : ta σ H fun x H1 => ∃ c, x = .bl c ∧ Q (.bl (!c)) H1) : tNotV ta σ H Q := q
theorem g_seq (q : t { D with nx := u D } σ H) : tSeq t u D σ H := q
theorem g_cut (Mid : L2.St → Hp → Prop) (h : t { D with nx := Mid } σ H) (q : ∀ σ' H', Mid σ' H' → u D σ' H') : C8.tCut t u D σ H := ⟨Mid, h, q⟩
theorem g_next (q : D.nx σ H) : tNext D σ H := q
theorem g_asg {g : TG} (q : te σ H fun x H1 => g x σ H1 D.nx) : tAsg te g D σ H := q
theorem g_name {n : Nat} {Q : L2.St → Hp → Prop} (q : Q (σ.set n (some v)) H) : gName n v σ H Q := q
theorem g_ret (q : te σ H D.rt) : tRet te D σ H := q
theorem g_drop (q : te σ H fun _ H1 => D.nx σ H1) : tDrop te D σ H := q
theorem g_par {a b : Nat} {ta : TA} (q : ta σ H fun vs H1 => ∃ v w, vs = [v, w] ∧ D.nx ((σ.set a (some v)).set b (some w)) H1) : tPar a b ta D σ H := q
theorem g_two {x y : V} {Q : V → V → Prop} (q : Q x y) : ∃ v w, [x, y] = [v, w] ∧ Q v w := ⟨x, y, rfl, q⟩
theorem g_aug {n : Nat} {ti : R2} (h : σ[n]? = some (some x)) (q : te σ H fun y H1 => ti x y H1 fun z H2 => D.nx (σ.set n (some z)) H2) : tAug n te ti D σ H := ⟨x, h, q⟩
theorem g_ipI {g : Int → Int → Int} (q : Q (.int (g i j)) H) : ipI g (.int i) (.int j) H Q := ⟨i, j, rfl, rfl, q⟩
theorem g_sub {o ix : TE} {s : V → V → V → Hp → (Hp → Prop) → Prop} {Q : L2.St → Hp → Prop} (q : o σ H fun o H1 => ix σ H1 fun i H2 => s o i v H2 fun H3 => Q σ H3) : gSub o ix s v σ H Q := q
theorem g_setL {p : Addr} {xs : List V} {k : Nat} {Q : Hp → Prop} (h : H p = some (.lst xs)) (e : ixN xs.length i = some k) (q : Q (upd H p (.lst (xs.set k v)))) : rSetL (.ref p) (.int i) v H Q := ⟨p, xs, i, k, rfl, rfl, h, e, q⟩
theorem g_abs (q : Q (.int (if i < 0 then -i else i)) H) : rAbs [.int i] H Q := ⟨i, rfl, q⟩
theorem g_max2 (q : Q (.int (if j > i then j else i)) H) : rMax2 [.int i, .int j] H Q := ⟨i, j, rfl, q⟩
theorem g_min2 (q : Q (.int (if j < i then j else i)) H) : rMin2 [.int i, .int j] H Q := ⟨i, j, rfl, q⟩
theorem g_intI (q : Q (.int i) H) : rInt1 [.int i] H Q := .inl ⟨i, rfl, q⟩
theorem g_intB {k : Bool} (q : Q (.int (if k then 1 else 0)) H) : rInt1 [.bl k] H Q := .inr ⟨k, rfl, q⟩
theorem g_lenL {p : Addr} {xs : List V} (h : SqL K H p xs) (q : Q (.int xs.length) H) : rLenSeq K [.ref p] H Q := ⟨p, xs, rfl, .inl h, q⟩
theorem g_lenT {p : Addr} {xs : List V} (h : SqT K H p xs) (q : Q (.int xs.length) H) : rLenSeq K [.ref p] H Q := ⟨p, xs, rfl, .inr h, q⟩
theorem g_inL {p : Addr} {xs : List V} {neg : Bool} (h : SqL K H p xs) (a : flatV x = true) (b : xs.all flatV = true) (q : Q (.bl (if neg then !inV x xs else inV x xs)) H) : rIn K neg x (.ref p) H Q := ⟨p, xs, rfl, .inl h, a, b, q⟩
theorem g_isi {c : V} {t u : Value} {b : Bool} (h1 : ClsV c u) (h2 : TyX K H x t) (h3 : PySem.W.kitOne K t u = some b) (q : Q (.bl b) H) : rIsi K [x, c] H Q := ⟨x, c, t, u, b, rfl, h1, h2, h3, q⟩
theorem ifD {p : Prop} [Decidable p] {A B : Prop} (h1 : p → A) (h2 : ¬ p → B) : if decide p = true then A else B := by
  by_cases h : p
  · simp only [h, decide_true, if_true]; exact h1 h
  · simp only [h, decide_false]; exact h2 h
theorem ifND {p : Prop} [Decidable p] {A B : Prop} (h1 : ¬ p → A) (h2 : p → B) : if (!decide p) = true then A else B := by
  by_cases h : p
  · simp only [h, decide_true]; exact h2 h
  · simp only [h, decide_false]; exact h1 h
theorem ifB {b : Bool} {A B : Prop} (h1 : b = true → A) (h2 : b = false → B) : if b = true then A else B := by
  cases b
  · exact h2 rfl
  · exact h1 rfl
end
/-! ### heaps -/
section
variable {K : PySem.W.Frag} {H H' : Hp} {a p : Addr} {xs ys : List V} {o : HO}
theorem same_new (h : H p = none) : Same H (upd H p o) := fun b u e => by rw [upd_ne (ne_of_none e h)]; exact e
theorem same_to {H1 : Hp} (e : Same H H') (h : H' p = none) : Same H (upd H' p o) := e.trans (same_new h)
theorem sqT_same (e : Same H H') (h : SqT K H a xs) : SqT K H' a xs := by
  rcases h with (h | ⟨o, h⟩) | h
  · exact .inl (.inl (e _ _ h))
  · exact .inl (.inr ⟨o, e _ _ h⟩)
  · exact .inr h
theorem sqL_same (e : Same H H') (h : SqL K H a xs) : SqL K H' a xs := e.seq h
theorem sqT_new (e : H p = none) (h : SqT K H a xs) : SqT K (upd H p o) a xs := sqT_same (same_new e) h
theorem sqL_new (e : H p = none) (h : SqL K H a xs) : SqL K (upd H p o) a xs := sqL_same (same_new e) h
theorem sqT_at : SqT K (upd H p (.tup xs)) p xs := .inl (.inl upd_same)
theorem sqL_at : SqL K (upd H p (.lst xs)) p xs := .inl (.inl upd_same)
theorem sqT_mut (e : H p = some (.lst ys)) (h : SqT K H a xs) : SqT K (upd H p o) a xs := by
  rcases h with (h | ⟨u, h⟩) | h
  · have n : a ≠ p := ne_of h e (by intro z; cases z)
    exact .inl (.inl (by rw [upd_ne n]; exact h))
  · have n : a ≠ p := ne_of h e (by intro z; cases z)
    exact .inl (.inr ⟨u, by rw [upd_ne n]; exact h⟩)
  · exact .inr h
/-- all but the object at p stands as it stood -/
def But (p : Addr) (H H' : Hp) : Prop := ∀ b o, b ≠ p → H b = some o → H' b = some o
theorem But.refl (p : Addr) (H : Hp) : But p H H := fun _ _ _ h => h
theorem But.trans {H1 H2 : Hp} (a : But p H H1) (b : But p H1 H2) : But p H H2 := fun c o n h => b c o n (a c o n h)
theorem But.same (e : Same H H') : But p H H' := fun b o _ h => e b o h
theorem But.mut : But p H (upd H p o) := fun b u n h => by rw [upd_ne n]; exact h
theorem But.new {q : Addr} (h : H q = none) : But p H (upd H q o) := But.same (same_new h)
theorem sqT_but (b : But p H H') (e : H p = some (.lst ys)) (h : SqT K H a xs) : SqT K H' a xs := by
  rcases h with (h | ⟨u, h⟩) | h
  · exact .inl (.inl (b _ _ (ne_of h e (by intro z; cases z)) h))
  · exact .inl (.inr ⟨u, b _ _ (ne_of h e (by intro z; cases z)) h⟩)
  · exact .inr h
theorem sqL_but (b : But p H H') (e : H p = none) (h : SqL K H a xs) : SqL K H' a xs := by
  rcases h with (h | ⟨u, h⟩) | h
  · exact .inl (.inl (b _ _ (ne_of_none h e) h))
  · exact .inl (.inr ⟨u, b _ _ (ne_of_none h e) h⟩)
  · exact .inr h
theorem new_of (n : H' p = none) (e : Same H H') : H p = none := e.free n
end
/-! ### words -/

/-! ### loops -/
section
variable {K : PySem.W.Frag} {σ : L2.St} {H : Hp} {Q : VK} {D : Ends} {x y v : V} {ta tb te : TE} {t u : TS} {i j : Int}
/-- what a for's loop asks, walked by J -/
def LoopF (J : It) (g : TG) (tb : TS) (D : Ends) (σ : L2.St) (H : Hp) : Prop := ∃ W : Nat → Nat → L2.St → Hp → Prop, (∃ m, W 0 m σ H) ∧ ∀ i m σ H, W i m σ H →
  (J.stop i H ∧ D.nx σ H) ∨ (J.go i H ∧ ∃ N : L2.St → Hp → Prop, (∀ σ' H', N σ' H' → ∃ m', m' < m ∧ W (i + 1) m' σ' H') ∧ ∀ x H', J.yld i H x H' → g x σ H' fun σ2 H2 => tb { D with nx := N, ct := N, bk := D.nx } σ2 H2)
theorem g_for {wi : TI} {g : TG} {tb : TS} (q : wi σ H fun J H1 => LoopF J g tb D σ H1) : tFor wi g tb D σ H := q
theorem loop_range {lo : Int} {n : Nat} {g : TG} {tb : TS} (Pv : Nat → L2.St → Hp → Prop) (h0 : Pv 0 σ H)
    (hs : ∀ i σ H, i < n → Pv i σ H → g (.int (lo + i)) σ H fun σ2 H2 => tb { D with nx := Pv (i + 1), ct := Pv (i + 1), bk := D.nx } σ2 H2) (hd : ∀ σ H, Pv n σ H → D.nx σ H) : LoopF (Itr lo n) g tb D σ H := for_range Pv h0 hs hd
theorem loop_list {a : Addr} {xs : List V} {g : TG} {tb : TS} (Pv : Nat → L2.St → Hp → Prop) (h0 : Pv 0 σ H) (hl : ∀ i σ H, i ≤ xs.length → Pv i σ H → SqL K H a xs)
    (hs : ∀ i x σ H, xs[i]? = some x → Pv i σ H → g x σ H fun σ2 H2 => tb { D with nx := Pv (i + 1), ct := Pv (i + 1), bk := D.nx } σ2 H2) (hd : ∀ σ H, Pv xs.length σ H → D.nx σ H) : LoopF (Itl K a) g tb D σ H := for_list Pv h0 hl hs hd
theorem loop_tup {a : Addr} {xs : List V} {g : TG} {tb : TS} (Pv : Nat → L2.St → Hp → Prop) (h0 : Pv 0 σ H) (hl : ∀ i σ H, i ≤ xs.length → Pv i σ H → SqT K H a xs)
    (hs : ∀ i x σ H, xs[i]? = some x → Pv i σ H → g x σ H fun σ2 H2 => tb { D with nx := Pv (i + 1), ct := Pv (i + 1), bk := D.nx } σ2 H2) (hd : ∀ σ H, Pv xs.length σ H → D.nx σ H) : LoopF (Itt K a) g tb D σ H := for_tup Pv h0 hl hs hd
def rng1 (R : It → Hp → Prop) (vs : List V) (H : Hp) : Prop := ∃ j : Int, vs = [.int j] ∧ -(2 ^ 62) ≤ j ∧ j < 2 ^ 62 ∧ R (Itr 0 j.toNat) H
def rng2 (R : It → Hp → Prop) (vs : List V) (H : Hp) : Prop := ∃ i j : Int, vs = [.int i, .int j] ∧ (-(2 ^ 62) ≤ i ∧ i < 2 ^ 62 ∧ -(2 ^ 62) ≤ j ∧ j < 2 ^ 62) ∧ R (Itr i (j - i).toNat) H
theorem g_irng1 {ta : TA} {R : It → Hp → Prop} (q : ta σ H (rng1 R)) : iRng1 ta σ H R := q
theorem g_irng2 {ta : TA} {R : It → Hp → Prop} (q : ta σ H (rng2 R)) : iRng2 ta σ H R := q
theorem g_rng1 {R : It → Hp → Prop} (h : -(2 ^ 62) ≤ j ∧ j < 2 ^ 62) (q : R (Itr 0 j.toNat) H) : rng1 R [.int j] H := ⟨j, rfl, h.1, h.2, q⟩
theorem g_rng2 {R : It → Hp → Prop} (h : -(2 ^ 62) ≤ i ∧ i < 2 ^ 62 ∧ -(2 ^ 62) ≤ j ∧ j < 2 ^ 62) (q : R (Itr i (j - i).toNat) H) : rng2 R [.int i, .int j] H := ⟨i, j, rfl, h, q⟩
def ilR (K : PySem.W.Frag) (R : It → Hp → Prop) : VK := fun x H1 => ∃ a, x = .ref a ∧ (∃ xs, SqL K H1 a xs) ∧ R (Itl K a) H1
def itR (K : PySem.W.Frag) (R : It → Hp → Prop) : VK := fun x H1 => ∃ a, x = .ref a ∧ (∃ xs, SqT K H1 a xs) ∧ R (Itt K a) H1
theorem g_ilist {tl : TE} {R : It → Hp → Prop} (q : tl σ H (ilR K R)) : iList K tl σ H R := q
theorem g_itup {tl : TE} {R : It → Hp → Prop} (q : tl σ H (itR K R)) : iTup K tl σ H R := q
theorem g_ilR {a : Addr} {xs : List V} {R : It → Hp → Prop} (h : SqL K H a xs) (q : R (Itl K a) H) : ilR K R (.ref a) H := ⟨a, rfl, ⟨xs, h⟩, q⟩
theorem g_itR {a : Addr} {xs : List V} {R : It → Hp → Prop} (h : SqT K H a xs) (q : R (Itt K a) H) : itR K R (.ref a) H := ⟨a, rfl, ⟨xs, h⟩, q⟩
/-- what a comprehension asks, walked by J, its list at L -/
def LoopC (J : It) (g : TG) (tt : TT) (te : TE) (vs : List Nat) (L : Addr) (σ : L2.St) (Qd : Hp → Prop) (H1 : Hp) : Prop := ∃ W : Nat → Nat → Hp → Prop, (∃ m, W 0 m (upd H1 L (.lst []))) ∧ ∀ i m H, W i m H →
  (J.stop i H ∧ Qd H) ∨ (J.go i H ∧ ∃ Nx : Hp → Prop, (∀ H', Nx H' → ∃ m', m' < m ∧ W (i + 1) m' H') ∧ ∀ x H', J.yld i H x H' → g x (wipe σ vs) H' fun σ2 H2 => wipe σ2 vs = wipe σ vs ∧ tt σ2 H2 fun b H3 =>
    if b = true then te σ2 H3 fun y H4 => ∃ acc, H4 L = some (.lst acc) ∧ acc.length < sizeLine ∧ Nx (upd H4 L (.lst (acc ++ [y]))) else Nx H3)
theorem g_lc {wi : TI} {g : TG} {tt : TT} {vs : List Nat} (q : wi σ H fun J H1 => ∀ L, H1 L = none → LoopC J g tt te vs L σ (fun H => Q (.ref L) H) H1) : tLc wi g tt te vs σ H Q := q
theorem lcl_range {lo : Int} {n : Nat} {g : TG} {tt : TT} {te : TE} {vs : List Nat} {L : Addr} {Qd : Hp → Prop} (Pv : Nat → Hp → Prop) (h0 : Pv 0 (upd H L (.lst [])))
    (hs : ∀ i H, i < n → Pv i H → g (.int (lo + i)) (wipe σ vs) H fun σ2 H2 => wipe σ2 vs = wipe σ vs ∧ tt σ2 H2 fun b H3 =>
      if b = true then te σ2 H3 fun y H4 => ∃ acc, H4 L = some (.lst acc) ∧ acc.length < sizeLine ∧ Pv (i + 1) (upd H4 L (.lst (acc ++ [y]))) else Pv (i + 1) H3) (hd : ∀ H, Pv n H → Qd H) : LoopC (Itr lo n) g tt te vs L σ Qd H := lc_range Pv h0 hs hd
theorem lcl_list {a : Addr} {xs : List V} {g : TG} {tt : TT} {te : TE} {vs : List Nat} {L : Addr} {Qd : Hp → Prop} (Pv : Nat → Hp → Prop) (h0 : Pv 0 (upd H L (.lst []))) (hl : ∀ i H, i ≤ xs.length → Pv i H → SqL K H a xs)
    (hs : ∀ i x H, xs[i]? = some x → Pv i H → g x (wipe σ vs) H fun σ2 H2 => wipe σ2 vs = wipe σ vs ∧ tt σ2 H2 fun b H3 =>
      if b = true then te σ2 H3 fun y H4 => ∃ acc, H4 L = some (.lst acc) ∧ acc.length < sizeLine ∧ Pv (i + 1) (upd H4 L (.lst (acc ++ [y]))) else Pv (i + 1) H3) (hd : ∀ H, Pv xs.length H → Qd H) : LoopC (Itl K a) g tt te vs L σ Qd H := lc_list Pv h0 hl hs hd
theorem lcl_tup {a : Addr} {xs : List V} {g : TG} {tt : TT} {te : TE} {vs : List Nat} {L : Addr} {Qd : Hp → Prop} (Pv : Nat → Hp → Prop) (h0 : Pv 0 (upd H L (.lst []))) (hl : ∀ i H, i ≤ xs.length → Pv i H → SqT K H a xs)
    (hs : ∀ i x H, xs[i]? = some x → Pv i H → g x (wipe σ vs) H fun σ2 H2 => wipe σ2 vs = wipe σ vs ∧ tt σ2 H2 fun b H3 =>
      if b = true then te σ2 H3 fun y H4 => ∃ acc, H4 L = some (.lst acc) ∧ acc.length < sizeLine ∧ Pv (i + 1) (upd H4 L (.lst (acc ++ [y]))) else Pv (i + 1) H3) (hd : ∀ H, Pv xs.length H → Qd H) : LoopC (Itt K a) g tt te vs L σ Qd H := lc_tup Pv h0 hl hs hd
theorem g_yes {Q : Bool → Hp → Prop} (q : Q true H) : tYes σ H Q := q
/-- a power of written numbers -/
theorem g_powE {k : Int} (c : CPow i j) (e : i ^ j.toNat = k) (q : Q (.int k) H) : rI CPow (fun i j => .int (i ^ j.toNat)) (.int i) (.int j) H Q := ⟨i, j, rfl, rfl, c, by show Q (.int (i ^ j.toNat)) H; rw [e]; exact q⟩
theorem cpow_ok (h : 0 ≤ j ∧ j ≤ 1000000 ∧ i.natAbs < 2 ^ 64) : CPow i j := h
theorem atI_of {ns : List Int} {k : Int} (p : Int → Prop) (h0 : 0 ≤ k) (h : k < ns.length) (hp : ∀ z ∈ ns, p z) : ∃ z, atI (ns.map V.int) k = some (.int z) ∧ p z := by
  obtain ⟨j, rfl⟩ : ∃ j : Nat, k = j := ⟨k.toNat, by omega⟩
  have hj : j < ns.length := by omega
  exact ⟨ns[j], atI_nat (by rw [List.getElem?_map, List.getElem?_eq_getElem hj]; rfl), hp _ (List.getElem_mem hj)⟩
theorem two_le : ([x, y] : List V).length ≤ sizeLine := by show 2 ≤ sizeLine; decide
theorem sz_le {n : Nat} (h : n ≤ 100000) : n ≤ sizeLine := Nat.le_trans h (by decide)
theorem sz_lt {n : Nat} (h : n < 100000) : n < sizeLine := Nat.lt_of_lt_of_le h (by decide)
theorem tyX_tup {a : Addr} {xs : List V} (h : SqT K H a xs) : TyX K H (.ref a) (.type "tuple") := by
  rcases h with (h | ⟨o, h⟩) | ⟨o, its, n, h, c, _⟩
  · exact .base (.tup h)
  · exact .fTuple h
  · exact .kTuple h c
theorem tyX_lst {a : Addr} {xs : List V} (h : SqL K H a xs) : TyX K H (.ref a) (.type "list") := by
  rcases h with (h | ⟨o, h⟩) | ⟨o, its, n, h, c, _⟩
  · exact .base (.lst h)
  · exact .base (.frz h)
  · exact .kList h c
theorem g_isiT {a : Addr} {xs : List V} (h : SqT K H a xs) (q : Q (.bl true) H) : rIsi K [.ref a, .ty "tuple"] H Q := g_isi (.ty _) (tyX_tup h) (kit_ty (by decide +kernel)) q
theorem g_isiL {a : Addr} {xs : List V} (h : SqL K H a xs) (q : Q (.bl true) H) : rIsi K [.ref a, .ty "list"] H Q := g_isi (.ty _) (tyX_lst h) (kit_ty (by decide +kernel)) q
theorem g_isiTL {a : Addr} {xs : List V} (h : SqT K H a xs) (q : Q (.bl false) H) : rIsi K [.ref a, .ty "list"] H Q := g_isi (.ty _) (tyX_tup h) (kit_ty (by decide +kernel)) q
theorem g_isiLT {a : Addr} {xs : List V} (h : SqL K H a xs) (q : Q (.bl false) H) : rIsi K [.ref a, .ty "tuple"] H Q := g_isi (.ty _) (tyX_lst h) (kit_ty (by decide +kernel)) q
theorem g_isiI (q : Q (.bl true) H) : rIsi K [.int i, .ty "int"] H Q := g_isi (.ty _) (.base (.int i)) (kit_ty (by decide +kernel)) q
theorem g_isiIB (q : Q (.bl false) H) : rIsi K [.int i, .ty "bool"] H Q := g_isi (.ty _) (.base (.int i)) (kit_ty (by decide +kernel)) q
theorem g_isiB {b : Bool} (q : Q (.bl true) H) : rIsi K [.bl b, .ty "bool"] H Q := g_isi (.ty _) (.base (.bl b)) (kit_ty (by decide +kernel)) q
theorem g_isiS {s : Str} (q : Q (.bl true) H) : rIsi K [.str s, .ty "str"] H Q := g_isi (.ty _) (.base (.str s)) (kit_ty (by decide +kernel)) q
end
/-! ### one step of a reading: what stands below it, found by its head -/
class St1 (g : Prop) (n : outParam Prop) : Prop where
  pf : n → g
section
variable {K : PySem.W.Frag} {σ : L2.St} {H : Hp} {Q : VK} {D : Ends} {x y v : V} {ta tb te : TE} {t u : TS} {i j : Int} {n m : Nat} {b : Bool}
instance  : St1 (tC v σ H Q) (Q v H) := ⟨g_c⟩
instance {r : R2} : St1 (tOp r ta tb σ H Q) (ta σ H fun x H1 => tb σ H1 fun y H2 => r x y H2 Q) := ⟨g_op⟩
instance {r : V → Hp → VK → Prop} : St1 (tUn r ta σ H Q) (ta σ H fun x H1 => r x H1 Q) := ⟨g_un⟩
instance  : St1 (rU (fun i => .int (-i)) (.int i) H Q) (Q (.int (-i)) H) := ⟨g_neg⟩
instance {g : Int → Int → V} : St1 (rI0 g (.int i) (.int j) H Q) (Q (g i j) H) := ⟨g_I0⟩
instance  : St1 (rEq (.int i) (.int j) H Q) (Q (.bl (decide (i = j))) H) := ⟨g_eqI⟩
instance  : St1 (rNe (.int i) (.int j) H Q) (Q (.bl (!decide (i = j))) H) := ⟨g_neI⟩
instance {a b : Bool} : St1 (rEq (.bl a) (.bl b) H Q) (Q (.bl (decide (a = b))) H) := ⟨g_eqB⟩
instance {a b : Bool} : St1 (rNe (.bl a) (.bl b) H Q) (Q (.bl (!decide (a = b))) H) := ⟨g_neB⟩
instance {tr : TA} {Q : List V → Hp → Prop} : St1 (tCons ta tr σ H Q) (ta σ H fun x H1 => tr σ H1 fun xs H2 => Q (x :: xs) H2) := ⟨g_tcons⟩
instance {Q : List V → Hp → Prop} : St1 (tNil σ H Q) (Q [] H) := ⟨g_tnil⟩
instance {r : List V → Hp → VK → Prop} {t : TA} : St1 (tCB r t σ H Q) (t σ H fun vs H1 => r vs H1 Q) := ⟨g_cb⟩
instance {sp : Sp} {dvs : List V} {E : XK} {t : TA} : St1 (tCall sp dvs E t σ H Q) (t σ H fun vs H1 => sp (vs ++ dvs) H1 Q E) := ⟨g_call⟩
instance {t : TA} : St1 (tTup t σ H Q) (t σ H fun xs H1 => xs.length ≤ sizeLine ∧ ∀ p, H1 p = none → Q (.ref p) (upd H1 p (.tup xs))) := ⟨g_tup⟩
instance {t : TA} : St1 (tLst t σ H Q) (t σ H fun xs H1 => xs.length ≤ sizeLine ∧ ∀ p, H1 p = none → Q (.ref p) (upd H1 p (.lst xs))) := ⟨g_lst⟩
instance {c : TT} : St1 (tIfS c t u D σ H) (c σ H fun b H1 => if b = true then t D σ H1 else u D σ H1) := ⟨g_if⟩
instance {Q : Bool → Hp → Prop} : St1 (tTest te σ H Q) (te σ H fun x H' => ∃ k, x = .bl k ∧ Q k H') := ⟨g_test⟩
instance {Q : Bool → Hp → Prop} : St1 (tB te σ H Q) (te σ H fun x H' => ∃ k, x = .bl k ∧ Q k H') := ⟨g_tB⟩
instance {c : TT} {Q : Bool → Hp → Prop} : St1 (tNot c σ H Q) (c σ H fun c H1 => Q (!c) H1) := ⟨g_not⟩
instance {c d : TT} {Q : Bool → Hp → Prop} : St1 (tAnd c d σ H Q) (c σ H fun c H1 => if c = true then d σ H1 Q else Q false H1) := ⟨g_and⟩
instance {c d : TT} {Q : Bool → Hp → Prop} : St1 (tOr c d σ H Q) (c σ H fun c H1 => if c = true then Q true H1 else d σ H1 Q) := ⟨g_or⟩
instance  : St1 (tAndV ta tb σ H Q) (ta σ H fun x H1 => ∃ c, x = .bl c ∧ if c = true then tb σ H1 Q else Q (.bl false) H1) := ⟨g_andV⟩
instance  : St1 (tOrV ta tb σ H Q) (ta σ H fun x H1 => ∃ c, x = .bl c ∧ if c = true then Q (.bl true) H1 else tb σ H1 Q) := ⟨g_orV⟩
instance  : St1 (tNotV ta σ H Q) (ta σ H fun x H1 => ∃ c, x = .bl c ∧ Q (.bl (!c)) H1) := ⟨g_notV⟩
instance  : St1 (tSeq t u D σ H) (t { D with nx := u D } σ H) := ⟨g_seq⟩
instance  : St1 (tNext D σ H) (D.nx σ H) := ⟨g_next⟩
instance {g : TG} : St1 (tAsg te g D σ H) (te σ H fun x H1 => g x σ H1 D.nx) := ⟨g_asg⟩
instance {Q : L2.St → Hp → Prop} : St1 (gName n v σ H Q) (Q (σ.set n (some v)) H) := ⟨g_name⟩
instance  : St1 (tRet te D σ H) (te σ H D.rt) := ⟨g_ret⟩
instance  : St1 (tDrop te D σ H) (te σ H fun _ H1 => D.nx σ H1) := ⟨g_drop⟩
instance {ta : TA} : St1 (tPar n m ta D σ H) (ta σ H fun vs H1 => ∃ v w, vs = [v, w] ∧ D.nx ((σ.set n (some v)).set m (some w)) H1) := ⟨g_par⟩
instance {g : Int → Int → Int} : St1 (ipI g (.int i) (.int j) H Q) (Q (.int (g i j)) H) := ⟨g_ipI⟩
instance {o ix : TE} {s : V → V → V → Hp → (Hp → Prop) → Prop} {Q : L2.St → Hp → Prop} : St1 (gSub o ix s v σ H Q) (o σ H fun o H1 => ix σ H1 fun i H2 => s o i v H2 fun H3 => Q σ H3) := ⟨g_sub⟩
instance  : St1 (rAbs [.int i] H Q) (Q (.int (if i < 0 then -i else i)) H) := ⟨g_abs⟩
instance  : St1 (rMax2 [.int i, .int j] H Q) (Q (.int (if j > i then j else i)) H) := ⟨g_max2⟩
instance  : St1 (rMin2 [.int i, .int j] H Q) (Q (.int (if j < i then j else i)) H) := ⟨g_min2⟩
instance  : St1 (rInt1 [.int i] H Q) (Q (.int i) H) := ⟨g_intI⟩
instance  : St1 (rInt1 [.bl b] H Q) (Q (.int (if b then 1 else 0)) H) := ⟨g_intB⟩
instance {wi : TI} {g : TG} {tb : TS} : St1 (tFor wi g tb D σ H) (wi σ H fun J H1 => LoopF J g tb D σ H1) := ⟨g_for⟩
instance {ta : TA} {R : It → Hp → Prop} : St1 (iRng1 ta σ H R) (ta σ H (rng1 R)) := ⟨g_irng1⟩
instance {ta : TA} {R : It → Hp → Prop} : St1 (iRng2 ta σ H R) (ta σ H (rng2 R)) := ⟨g_irng2⟩
instance {tl : TE} {R : It → Hp → Prop} : St1 (iList K tl σ H R) (tl σ H (ilR K R)) := ⟨g_ilist⟩
instance {tl : TE} {R : It → Hp → Prop} : St1 (iTup K tl σ H R) (tl σ H (itR K R)) := ⟨g_itup⟩
instance {wi : TI} {g : TG} {tt : TT} {vs : List Nat} : St1 (tLc wi g tt te vs σ H Q) (wi σ H fun J H1 => ∀ L, H1 L = none → LoopC J g tt te vs L σ (fun H => Q (.ref L) H) H1) := ⟨g_lc⟩
instance {Q : Bool → Hp → Prop} : St1 (tYes σ H Q) (Q true H) := ⟨g_yes⟩
instance  : St1 (rIsi K [.int i, .ty "int"] H Q) (Q (.bl true) H) := ⟨g_isiI⟩
instance  : St1 (rIsi K [.int i, .ty "bool"] H Q) (Q (.bl false) H) := ⟨g_isiIB⟩
instance  : St1 (rIsi K [.bl b, .ty "bool"] H Q) (Q (.bl true) H) := ⟨g_isiB⟩
instance {s : Str} : St1 (rIsi K [.str s, .ty "str"] H Q) (Q (.bl true) H) := ⟨g_isiS⟩
instance {b : Bool} {Q : Bool → Prop} : St1 (∃ k, V.bl b = .bl k ∧ Q k) (Q b) := ⟨fun q => ⟨b, rfl, q⟩⟩
instance {x y : V} {Q : V → V → Prop} : St1 (∃ v w, [x, y] = [v, w] ∧ Q v w) (Q x y) := ⟨fun q => ⟨x, y, rfl, q⟩⟩
instance {A B : Prop} : St1 (if true = true then A else B) A := ⟨iteT⟩
instance {A B : Prop} : St1 (if false = true then A else B) B := ⟨iteF⟩
instance {A B : Prop} : St1 (if (!true) = true then A else B) B := ⟨iteF⟩
instance {A B : Prop} : St1 (if (!false) = true then A else B) A := ⟨iteT⟩
instance {p A B : Prop} [Decidable p] : St1 (if (!!decide p) = true then A else B) (if decide p = true then A else B) := ⟨fun h => by rw [Bool.not_not]; exact h⟩
end

/-! ### the rules that hang on the written part, with K said -/
section
variable {X : Cx} {K : PySem.W.Frag}
theorem k_isi (h : X.K = K := by rfl) : CallR X (.builtin "isinstance") (rIsi K) := by subst h; exact call_isi
theorem k_isiT (h : X.K = K := by rfl) : CallR X (.builtin "isinstance") (rIsiT K) := by subst h; exact call_isiT
theorem k_ixL (h : X.K = K := by rfl) : IxR X (rIxL K) := by subst h; exact ix_list
theorem k_ixT (h : X.K = K := by rfl) : IxR X (rIxT K) := by subst h; exact ix_tup
theorem k_slL (h : X.K = K := by rfl) : SlR X (rSlL K) := by subst h; exact sl_list
theorem k_slT (h : X.K = K := by rfl) : SlR X (rSlA K) := by subst h; exact sl_tupA
theorem k_len (h : X.K = K := by rfl) : CallR X (.builtin "len") (rLenSeq K) := by subst h; exact cr_lenSeq
theorem k_list (h : X.K = K := by rfl) : CallR X (.type "list") (rListOf K) := by subst h; exact cr_listOf
theorem k_sum (hc : X.calm = true := by rfl) (h : X.K = K := by rfl) : CallR X (.builtin "sum") (rSum K) := by subst h; exact cr_sum hc
theorem k_max (hc : X.calm = true := by rfl) (h : X.K = K := by rfl) : CallR X (.builtin "max") (rMax K) := by subst h; exact cr_max hc
theorem k_min (hc : X.calm = true := by rfl) (h : X.K = K := by rfl) : CallR X (.builtin "min") (rMin K) := by subst h; exact cr_min hc
theorem k_all (hc : X.calm = true := by rfl) (h : X.K = K := by rfl) : CallR X (.builtin "all") (rAll K) := by subst h; exact cr_all hc
theorem k_any (hc : X.calm = true := by rfl) (h : X.K = K := by rfl) : CallR X (.builtin "any") (rAny K) := by subst h; exact cr_any hc
theorem k_sortedI (h : X.K = K := by rfl) : CallR X (.builtin "sorted") (rSortedI K) := by subst h; exact cr_sortedI
theorem k_in (h : X.K = K := by rfl) : OpR X (compareOp .In) (rIn K false) := by subst h; exact op_in_seq
theorem k_notIn (h : X.K = K := by rfl) : OpR X (compareOp .NotIn) (rIn K true) := by subst h; exact op_notIn_seq
theorem k_eqD (hu : X.A.units + 64 < cLine) (h : X.K = K := by rfl) : OpR X (compareOp .Eq) (rEqD K) := by subst h; exact op_eqD hu
theorem k_neD (hu : X.A.units + 64 < cLine) (h : X.K = K := by rfl) : OpR X (compareOp .NotEq) (rNeD K) := by subst h; exact op_neD hu
theorem k_inD (hu : X.A.units + 65 < cLine) (h : X.K = K := by rfl) : OpR X (compareOp .In) (rInD K) := by subst h; exact op_inD hu
theorem k_notInD (hu : X.A.units + 65 < cLine) (h : X.K = K := by rfl) : OpR X (compareOp .NotIn) (rNotInD K) := by subst h; exact op_notInD hu
theorem k_catT (h : X.K = K := by rfl) : OpR X (binaryOp .Add) (rCatA K) := by subst h; exact op_catA
end
section
variable {X : Cx} {K : PySem.W.Frag} {tg : Expr}
theorem k_piL {l : Expr} {tl : TE} (hl : PE X l tl) (h : X.K = K := by rfl) : PI X tg l (iList K tl) := by subst h; exact pi_list hl
theorem k_piT {l : Expr} {tl : TE} (hl : PE X l tl) (h : X.K = K := by rfl) : PI X tg l (iTup K tl) := by subst h; exact pi_tup hl
theorem k_enum {e : Expr} {ta : TA} {p pos tpos : Pos} {elts : List Expr} {kk : Nat} (hg : Gl X "enumerate") (hm : X.mg "enumerate" = none) (ha : PA X [e] ta) (hs : starEach [e] X.env = [(false, eval e X.env)] := by rfl) (h : X.K = K := by rfl) :
    PI X (.Tuple elts kk tpos) (.Call (.Name "enumerate" p) [e] [] pos) (iEnum K ta) := by subst h; exact pi_enum hg hm ha hs
theorem k_zip {e e2 : Expr} {ta : TA} {p pos tpos : Pos} {elts : List Expr} {kk : Nat} (hg : Gl X "zip") (hm : X.mg "zip" = none) (ha : PA X [e, e2] ta)
    (hs : starEach [e, e2] X.env = (false, eval e X.env) :: starEach [e2] X.env := by rfl) (hpl : (backTo pos (starEach [e2] X.env)).any (·.1) = false := by rfl) (h : X.K = K := by rfl) :
    PI X (.Tuple elts kk tpos) (.Call (.Name "zip" p) [e, e2] [] pos) (iZip K ta) := by subst h; exact pi_zip hg hm ha hs hpl
theorem k_tup {pos : Pos} {es : List Expr} {k : Nat} {t : TGs} {n : Nat} (hc : X.calm = true) (h : PGs X es t)
    (hn : (assignEach es X.env).length = n := by rfl) (hst : (assignEach es X.env).findIdx? (·.1) = none := by rfl) (h : X.K = K := by rfl) : PG X (.Tuple es k pos) (gTup K n t) := by subst h; exact pg_tup hc (by assumption) hn hst
end

/-! ### fractions: the mathematics -/
theorem divInt_num (t b : Int) (hb : b ≠ 0) : (Rat.divInt t b).num = if b < 0 then t.fdiv (-(Int.gcd t b : Int)) else t.fdiv (Int.gcd t b : Int) := by
  rw [Rat.num_divInt, Int.gcd_comm]
  have hd : ((t.gcd b : Nat) : Int) ∣ t := Int.gcd_dvd_left t b
  by_cases h : b < 0
  · rw [if_pos h, Int.sign_eq_neg_one_of_neg h, Int.fdiv_eq_ediv_of_dvd (Int.neg_dvd.mpr hd), Int.ediv_neg, Int.neg_mul, Int.one_mul, Int.neg_ediv_of_dvd hd]
  · rw [if_neg h, Int.sign_eq_one_of_pos (by omega), Int.one_mul, Int.fdiv_eq_ediv_of_dvd hd]
theorem divInt_den (t b : Int) (hb : b ≠ 0) : ((Rat.divInt t b).den : Int) = if b < 0 then b.fdiv (-(Int.gcd t b : Int)) else b.fdiv (Int.gcd t b : Int) := by
  rw [Rat.den_divInt, if_neg hb, Int.gcd_comm]
  have hd : ((t.gcd b : Nat) : Int) ∣ b := Int.gcd_dvd_right t b
  by_cases h : b < 0
  · rw [if_pos h, Int.fdiv_eq_ediv_of_dvd (Int.neg_dvd.mpr hd), Int.ediv_neg, ← Int.neg_ediv_of_dvd hd, Int.natCast_ediv]
    congr 1; omega
  · rw [if_neg h, Int.fdiv_eq_ediv_of_dvd hd, Int.natCast_ediv]
    congr 1; omega
theorem gcd_fmod (a b : Int) : b.gcd (a.fmod b) = a.gcd b := by
  rw [Int.fmod_def, Int.gcd_sub_mul_left_right, Int.gcd_comm]
theorem fmod_small (a b : Int) (hb : b ≠ 0) : (a.fmod b).natAbs < b.natAbs := by
  by_cases h : 0 < b
  · have h1 := Int.fmod_nonneg_of_pos a h
    have h2 := Int.fmod_lt_of_pos a h
    omega
  · have h0 : 0 < -b := by omega
    have e : a.fmod b = -((-a).fmod (-b)) := by
      rw [Int.fmod_def, Int.fmod_def, Int.neg_fdiv_neg, Int.neg_mul]; omega
    have h1 := Int.fmod_nonneg_of_pos (-a) h0
    have h2 := Int.fmod_lt_of_pos (-a) h0
    omega
theorem gcd_lt {t b : Int} {n : Nat} (hb : b ≠ 0) (h : b.natAbs < 2 ^ n) : (Int.gcd t b : Int).natAbs < 2 ^ n := by
  have : Int.gcd t b ≤ b.natAbs := Nat.le_of_dvd (by omega) (Nat.gcd_dvd_right _ _)
  show Int.gcd t b < 2 ^ n
  omega
theorem gcd_pos' {t b : Int} (hb : b ≠ 0) : 0 < (Int.gcd t b : Int) := by
  have := Int.gcd_pos_iff (a := t) (b := b) |>.mpr (.inr hb)
  omega
theorem gcd_abs (a b : Int) : Int.gcd (if a < 0 then -a else a) (if b < 0 then -b else b) = Int.gcd a b := by
  unfold Int.gcd
  congr 1 <;> split <;> omega
/-- what a fraction's tuple holds -/
def FV (x : Rat) : List V := [.int x.num, .int (x.den : Int)]
/-- small enough -/
def Bd (n : Nat) (x : Rat) : Prop := x.num.natAbs < 2 ^ n ∧ (x.den : Int).natAbs < 2 ^ n
theorem Bd.mono {n m : Nat} {x : Rat} (h : Bd n x) (l : n ≤ m) : Bd m x := ⟨Nat.lt_of_lt_of_le h.1 (Nat.pow_le_pow_right (by decide) l), Nat.lt_of_lt_of_le h.2 (Nat.pow_le_pow_right (by decide) l)⟩
theorem Bd.num {n : Nat} {x : Rat} (h : Bd n x) : x.num.natAbs < 2 ^ n := h.1
theorem Bd.de {n : Nat} {x : Rat} (h : Bd n x) : (x.den : Int).natAbs < 2 ^ n := h.2
theorem den_ne (x : Rat) : (x.den : Int) ≠ 0 := by have := x.den_pos; omega
theorem den_pos' (x : Rat) : (0 : Int) < (x.den : Int) := by have := x.den_pos; omega
theorem mulW {i j : Int} (n m : Nat) (h1 : i.natAbs < 2 ^ n) (h2 : j.natAbs < 2 ^ m) (h0 : 0 < n := by decide) (h3 : 0 < m := by decide) (h : n + m ≤ 1000000 := by decide) : CMulW i j := wide_mul h1 h2 h0 h3 h
theorem plus_eq (x y : Rat) : Rat.divInt (x.num * y.den + y.num * x.den) (x.den * y.den) = x + y := by
  have := Rat.divInt_add_divInt x.num y.num (den_ne x) (den_ne y)
  rw [Rat.num_divInt_den, Rat.num_divInt_den] at this
  exact this.symm
theorem minus_eq (x y : Rat) : Rat.divInt (x.num * y.den - y.num * x.den) (x.den * y.den) = x - y := by
  have := Rat.divInt_sub_divInt x.num y.num (den_ne x) (den_ne y)
  rw [Rat.num_divInt_den, Rat.num_divInt_den] at this
  exact this.symm
theorem times_eq (x y : Rat) : Rat.divInt (x.num * y.num) (x.den * y.den) = x * y := by
  have := Rat.divInt_mul_divInt x.num y.num (d₁ := x.den) (d₂ := y.den)
  rw [Rat.num_divInt_den, Rat.num_divInt_den] at this
  exact this.symm
theorem divided_eq (x y : Rat) : Rat.divInt (x.num * y.den) (x.den * y.num) = x / y := by
  have h := Rat.divInt_mul_divInt x.num y.den (d₁ := x.den) (d₂ := y.num)
  rw [← Rat.inv_divInt y.num y.den, Rat.num_divInt_den, Rat.num_divInt_den] at h
  rw [Rat.div_def]; exact h.symm
theorem lt_eq (x y : Rat) : decide (x.num * (y.den : Int) < y.num * (x.den : Int)) = decide (x < y) := by
  rw [decide_eq_decide]; exact (Rat.lt_iff x y).symm
theorem natAbs_mul_lt {i j : Int} {n m : Nat} (h1 : i.natAbs < 2 ^ n) (h2 : j.natAbs < 2 ^ m) : (i * j).natAbs < 2 ^ (n + m) := wide_lt h1 h2
/-- the floor by a divisor of either sign -/
def CDivV (_ j : Int) : Prop := j ≠ 0 ∧ j.natAbs.log2 < 9000
theorem op_fdivV {X : Cx} : OpR X (binaryOp .FloorDiv) (rI CDivV fun i j => .int (i.fdiv j)) := opI fun i j _ _ _ _ _ hc q =>
  floordiv_int hc.1 q (.inl (PyProof.noPylong_of_log2 hc.2))
theorem divV {i j : Int} (n : Nat) (h : j ≠ 0) (hb : j.natAbs < 2 ^ n) (h0 : 0 < n := by decide) (h9 : n ≤ 9000 := by decide) : CDivV i j := ⟨h, Nat.lt_of_lt_of_le (PySem.Flt.log2_lt_of h0 hb) h9⟩
section
variable {Q : VK} {H : Hp} {i j : Int}
theorem g_divV (c : CDivV i j) (q : Q (.int (i.fdiv j)) H) : rI CDivV (fun i j => .int (i.fdiv j)) (.int i) (.int j) H Q := ⟨i, j, rfl, rfl, c, q⟩
theorem g_modN (c : j ≠ 0) (q : Q (.int (i.fmod j)) H) : rI (fun _ j => j ≠ 0) (fun i j => .int (i.fmod j)) (.int i) (.int j) H Q := ⟨i, j, rfl, rfl, c, q⟩
end
abbrev Fr (K : PySem.W.Frag) (H : Hp) (a : Addr) (x : Rat) : Prop := SqT K H a (FV x)

/-! ### == of data -/
/-- a fraction as a datum -/
def FD (x : Rat) : PyData := .tuple [.int x.num, .int (x.den : Int)]
theorem rat_ext {x y : Rat} : x = y ↔ x.num = y.num ∧ x.den = y.den := ⟨fun e => by subst e; exact ⟨rfl, rfl⟩, fun ⟨a, b⟩ => Rat.ext a b⟩
theorem FD_eqv (x y : Rat) : PyData.eqv (FD x) (FD y) = decide (x = y) := by
  unfold FD
  simp only [PyData.eqv, PyData.eqvAll, Bool.and_true]
  rw [Bool.eq_iff_iff]
  simp only [Bool.and_eq_true, beq_iff_eq, decide_eq_true_eq, rat_ext, Int.natCast_inj]
theorem FD_shaped (x : Rat) : SeqAt.shaped (FD x) = true := rfl
theorem FD_dp {K : PySem.W.Frag} {H : Hp} {a : Addr} {x : Rat} (h : Fr K H a x) : Dp K H (.ref a) (FD x) := .tup h (.cons (.int _) (.cons (.int _) .nil))
theorem g_eqF {K : PySem.W.Frag} {H : Hp} {Q : VK} {a b : Addr} {x y : Rat} (h1 : Fr K H a x) (h2 : Fr K H b y) (q : Q (.bl (decide (x = y))) H) : rEqD K (.ref a) (.ref b) H Q := ⟨_, _, FD_dp h1, FD_dp h2, rfl, rfl, by rw [FD_eqv]; exact q⟩
theorem g_neF {K : PySem.W.Frag} {H : Hp} {Q : VK} {a b : Addr} {x y : Rat} (h1 : Fr K H a x) (h2 : Fr K H b y) (q : Q (.bl (!decide (x = y))) H) : rNeD K (.ref a) (.ref b) H Q := ⟨_, _, FD_dp h1, FD_dp h2, rfl, rfl, by rw [FD_eqv]; exact q⟩
/-- an empty list against a list -/
theorem g_neNil {K : PySem.W.Frag} {H : Hp} {Q : VK} {a b : Addr} (h1 : SqL K H a []) (h2 : SqL K H b []) (q : Q (.bl false) H) : rNeD K (.ref a) (.ref b) H Q := ⟨_, _, .lst h1 .nil, .lst h2 .nil, rfl, rfl, q⟩
theorem g_eqNil {K : PySem.W.Frag} {H : Hp} {Q : VK} {a b : Addr} (h1 : SqL K H a []) (h2 : SqL K H b []) (q : Q (.bl true) H) : rEqD K (.ref a) (.ref b) H Q := ⟨_, _, .lst h1 .nil, .lst h2 .nil, rfl, rfl, q⟩

section
variable {P : Program} {w : World} {K : PySem.W.Frag} {mg : Str → Option Value} {base : Heap}
/-! ### fractions: the walk -/
def sp_common : Sp := fun vs H Q _ => ∃ a b : Int, vs = [.int a, .int b] ∧ Q (.int (Int.gcd a b)) H
theorem abs_gcd0 (a : Int) : (if a < 0 then -a else a) = (Int.gcd a 0 : Int) := by
  rw [Int.gcd_zero_right]; split <;> omega
def sp_fraction : Sp := fun vs H Q _ => ∃ t b : Int, vs = [.int t, .int b] ∧ b ≠ 0 ∧ b.natAbs < 2 ^ 8500 ∧ ∀ p, H p = none → Q (.ref p) (upd H p (.tup (FV (Rat.divInt t b))))
/-- two fractions to one -/
def sp2F (K : PySem.W.Frag) (f : Rat → Rat → Rat) (pre : Rat → Rat → Prop) : Sp := fun vs H Q _ => ∃ (a b : Addr) (x y : Rat), vs = [.ref a, .ref b] ∧ Fr K H a x ∧ Fr K H b y ∧ Bd 4000 x ∧ Bd 4000 y ∧ pre x y ∧
  ∀ p, H p = none → Q (.ref p) (upd H p (.tup (FV (f x y))))
theorem fr_at {H : Hp} {a : Addr} {x : Rat} {o : HO} (h : o = .tup (FV x)) : Fr K (upd H a o) a x := by subst h; exact sqT_at
def sp_below (K : PySem.W.Frag) : Sp := fun vs H Q _ => ∃ (a b : Addr) (x y : Rat), vs = [.ref a, .ref b] ∧ Fr K H a x ∧ Fr K H b y ∧ Bd 4000 x ∧ Bd 4000 y ∧ Q (.bl (decide (x < y))) H
end

/-! ### the law's pool of draws -/
/-- a pool with at most n draws behind it -/
def Pool (n : Nat) (H : Hp) (p : Addr) : Prop := ∃ a b c : Int, H p = some (.lst [.int a, .int b, .int c]) ∧ 0 ≤ c ∧ c ≤ n
theorem Pool.mono {n m : Nat} {H : Hp} {p : Addr} (h : Pool n H p) (l : n ≤ m) : Pool m H p := by
  obtain ⟨a, b, c, e, h0, h1⟩ := h
  exact ⟨a, b, c, e, h0, by omega⟩
theorem Pool.same {n : Nat} {H H' : Hp} {p : Addr} (h : Pool n H p) (s : Same H H') : Pool n H' p := by
  obtain ⟨a, b, c, e, h0, h1⟩ := h
  exact ⟨a, b, c, s _ _ e, h0, h1⟩
theorem Pool.new {n : Nat} {H : Hp} {p q : Addr} {o : HO} (h : Pool n H p) (s : H q = none) : Pool n (upd H q o) p := h.same (same_new s)
theorem Pool.some {n : Nat} {H : Hp} {p : Addr} (h : Pool n H p) : ∃ xs, H p = Option.some (.lst xs) := by
  obtain ⟨a, b, c, e, _⟩ := h
  exact ⟨_, e⟩
theorem sqT_pool {K : PySem.W.Frag} {n : Nat} {H H' : Hp} {p a : Addr} {xs : List V} (b : But p H H') (e : Pool n H p) (h : SqT K H a xs) : SqT K H' a xs := by
  obtain ⟨ys, e⟩ := e.some
  exact sqT_but b e h
theorem same_of_but {p : Addr} {H H' : Hp} (b : But p H H') (n : H p = none) : Same H H' := fun q o e => b q o (ne_of_none e n) e
theorem But.newp {p q : Addr} {H H' : Hp} {o : HO} (b : But p H H') (n : H' q = none) : But p H (upd H' q o) := b.trans (But.new n)
section
variable {P : Program} {w : World} {K : PySem.W.Frag} {mg : Str → Option Value} {base : Heap}
def sp_pool (K : PySem.W.Frag) : Sp := fun vs H Q _ => ∃ (a : Addr) (ns : List Int) (k : Int), vs = [.ref a, .int k] ∧ SqL K H a (ns.map V.int) ∧ 0 ≤ k ∧ k ≤ 1000 ∧
  ∀ p H', H p = none → Same H H' → Pool 23000 H' p → Q (.ref p) H'
theorem atI_int {ns : List Int} {k : Int} (h0 : 0 ≤ k) (h : k < ns.length) : ∃ z, atI (ns.map V.int) k = some (.int z) := by
  obtain ⟨j, rfl⟩ : ∃ j : Nat, k = j := ⟨k.toNat, by omega⟩
  have hj : j < ns.length := by omega
  exact ⟨ns[j], atI_nat (by rw [List.getElem?_map, List.getElem?_eq_getElem hj]; rfl)⟩
def sp_take (K : PySem.W.Frag) : Sp := fun vs H Q _ => ∃ (p : Addr) (n : Nat) (m : Int), vs = [.ref p, .int m] ∧ Pool n H p ∧ n ≤ 2 ^ 60 ∧ 0 < m ∧ m.natAbs < 2 ^ 8500 ∧
  ∀ r H', 0 ≤ r → r < m → But p H H' → Pool (n + 1) H' p → Q (.int r) H'
end

/-! ### the law's own fractions -/
theorem Bd_divInt {t b : Int} {n : Nat} (hb : b ≠ 0) (h1 : t.natAbs < 2 ^ n) (h2 : b.natAbs < 2 ^ n) : Bd n (Rat.divInt t b) := by
  constructor
  · rw [Rat.num_divInt]
    refine Nat.lt_of_le_of_lt ?_ h1
    rw [Int.natAbs_ediv_of_dvd (Int.dvd_mul_of_dvd_right (Int.gcd_dvd_right b t)), Int.natAbs_mul, Int.natAbs_sign_of_ne_zero hb, Nat.one_mul]
    exact Nat.div_le_self _ _
  · rw [Rat.den_divInt, if_neg hb]
    exact Nat.lt_of_le_of_lt (Nat.div_le_self _ _) h2
theorem atI_memV {xs : List V} {k : Int} (p : V → Prop) (h0 : 0 ≤ k) (h : k < xs.length) (hp : ∀ z ∈ xs, p z) : ∃ z, atI xs k = some z ∧ p z := by
  obtain ⟨j, rfl⟩ : ∃ j : Nat, k = j := ⟨k.toNat, by omega⟩
  have hj : j < xs.length := by omega
  exact ⟨xs[j], atI_nat (List.getElem?_eq_getElem hj), hp _ (List.getElem_mem hj)⟩
theorem FV_neg (x : Rat) : FV (-x) = [.int (0 - x.num), .int (x.den : Int)] := by
  unfold FV
  rw [Rat.neg_num, Rat.neg_den, Int.zero_sub]
theorem Bd.neg {n : Nat} {x : Rat} (h : Bd n x) : Bd n (-x) := by
  unfold Bd at *
  rw [Rat.neg_num, Rat.neg_den]
  omega
section
variable {P : Program} {w : World} {K : PySem.W.Frag} {mg : Str → Option Value} {base : Heap}
def sp_figures (K : PySem.W.Frag) : Sp := fun vs H Q _ => ∃ (p : Addr) (n : Nat), vs = [.ref p] ∧ Pool n H p ∧ n ≤ 2 ^ 59 ∧
  ∀ r H', 0 ≤ r → r < 10 ^ 40 → But p H H' → Pool (n + 10) H' p → Q (.int r) H'
/-- a drawn fraction -/
def sp_q (K : PySem.W.Frag) : Sp := fun vs H Q _ => ∃ (p : Addr) (n : Nat), vs = [.ref p] ∧ Pool n H p ∧ n ≤ 2 ^ 58 ∧
  ∀ a x H', H a = none → Bd 134 x → But p H H' → Pool (n + 40) H' p → Fr K H' a x → Q (.ref a) H'
theorem pool_ne {n : Nat} {H : Hp} {p l : Addr} (h : Pool n H p) (e : H l = none) : l ≠ p := fun z => by
  obtain ⟨xs, e2⟩ := h.some
  rw [← z, e] at e2; cases e2
theorem FV_zero : FV 0 = [.int 0, .int 1] := rfl
theorem Bd_zero {n : Nat} (h : 0 < n) : Bd n 0 := ⟨Nat.pow_pos (by decide), Nat.one_lt_two_pow (by omega)⟩
theorem free_but {p a : Addr} {H H' : Hp} (b : But p H H') (n : a ≠ p) (e : H' a = none) : H a = none := by
  cases h : H a with
  | none => rfl
  | some o => rw [b a o n h] at e; cases e
end

section
variable {P : Program} {w : World} {K : PySem.W.Frag} {mg : Str → Option Value} {base : Heap}
/-- found is told to be the fraction t over b -/
def sp_isfr (K : PySem.W.Frag) : Sp := fun vs H Q _ => ∃ (a : Addr) (t b : Int), vs = [.ref a, .int t, .int b] ∧ Fr K H a (Rat.divInt t b) ∧ b ≠ 0 ∧ b.natAbs < 2 ^ 8500 ∧ ∀ H', Same H H' → Q (.bl true) H'
end

/-! ### bounds, and the deeds by one step each -/
def IB (n : Nat) (i : Int) : Prop := i.natAbs < 2 ^ n
theorem IB.mono {n m : Nat} {i : Int} (h : IB n i) (l : n ≤ m) : IB m i := Nat.lt_of_lt_of_le h (Nat.pow_le_pow_right (by decide) l)
theorem IB.num {n : Nat} {x : Rat} (h : Bd n x) : IB n x.num := h.1
theorem IB.den {n : Nat} {x : Rat} (h : Bd n x) : IB n (x.den : Int) := h.2
theorem IB.mul {n m : Nat} {i j : Int} (h : IB n i) (h' : IB m j) : IB (n + m) (i * j) := natAbs_mul_lt h h'
theorem two_pow_max {n m : Nat} {a b : Nat} (h : a < 2 ^ n) (h' : b < 2 ^ m) : a + b < 2 ^ (max n m + 1) := by
  have h1 := Nat.pow_le_pow_right (n := 2) (by decide) (Nat.le_max_left n m)
  have h2 := Nat.pow_le_pow_right (n := 2) (by decide) (Nat.le_max_right n m)
  rw [Nat.pow_succ]
  omega
theorem IB.add {n m : Nat} {i j : Int} (h : IB n i) (h' : IB m j) : IB (max n m + 1) (i + j) := Nat.lt_of_le_of_lt (Int.natAbs_add_le i j) (two_pow_max h h')
theorem IB.sub {n m : Nat} {i j : Int} (h : IB n i) (h' : IB m j) : IB (max n m + 1) (i - j) := by
  refine Nat.lt_of_le_of_lt ?_ (two_pow_max h h')
  omega
theorem IB.neg {n : Nat} {i : Int} (h : IB n i) : IB n (-i) := by unfold IB at *; rw [Int.natAbs_neg]; exact h
theorem IB.lit {i : Int} (h : i.natAbs < 2 ^ 64 := by decide) : IB 64 i := h
theorem IB.mulW {n m : Nat} {i j : Int} (h : IB n i) (h' : IB m j) (l : n + m + 2 ≤ 1000000) : CMulW i j := wide_mul (a := n + 1) (b := m + 1) (h.mono (by omega)) (h'.mono (by omega)) (by omega) (by omega) (by omega)
theorem Bd_add {n m : Nat} {x y : Rat} (h : Bd n x) (h' : Bd m y) : Bd (n + m + 1) (x + y) := by
  rw [← plus_eq]
  refine Bd_divInt (Int.ne_of_gt (Int.mul_pos (den_pos' x) (den_pos' y))) ?_ ?_
  · exact (IB.add (IB.mul (IB.num h) (IB.den h')) (IB.mul (IB.num h') (IB.den h))).mono (by omega)
  · exact (IB.mul (IB.den h) (IB.den h')).mono (by omega)
theorem Bd_sub {n m : Nat} {x y : Rat} (h : Bd n x) (h' : Bd m y) : Bd (n + m + 1) (x - y) := by
  rw [← minus_eq]
  refine Bd_divInt (Int.ne_of_gt (Int.mul_pos (den_pos' x) (den_pos' y))) ?_ ?_
  · exact (IB.sub (IB.mul (IB.num h) (IB.den h')) (IB.mul (IB.num h') (IB.den h))).mono (by omega)
  · exact (IB.mul (IB.den h) (IB.den h')).mono (by omega)
theorem Bd_mul {n m : Nat} {x y : Rat} (h : Bd n x) (h' : Bd m y) : Bd (n + m) (x * y) := by
  rw [← times_eq]
  refine Bd_divInt (Int.ne_of_gt (Int.mul_pos (den_pos' x) (den_pos' y))) ?_ ?_
  · exact IB.mul (IB.num h) (IB.num h')
  · exact IB.mul (IB.den h) (IB.den h')
theorem num_ne {y : Rat} (h : y ≠ 0) : y.num ≠ 0 := fun z => h (Rat.num_eq_zero.mp z)
theorem Bd_div {n m : Nat} {x y : Rat} (h : Bd n x) (h' : Bd m y) (h0 : y ≠ 0) : Bd (n + m) (x / y) := by
  rw [← divided_eq]
  refine Bd_divInt (Int.mul_ne_zero (den_ne x) (num_ne h0)) ?_ ?_
  · exact IB.mul (IB.num h) (IB.den h')
  · exact IB.mul (IB.den h) (IB.num h')
section
variable {K : PySem.W.Frag} {H : Hp} {Q : VK} {E : XK} {a b : Addr} {x y : Rat} {t u : Int}
theorem g_plus (hx : Fr K H a x) (hy : Fr K H b y) (bx : Bd 4000 x) (bu : Bd 4000 y) (q : ∀ p, H p = none → Q (.ref p) (upd H p (.tup (FV (x + y))))) : sp2F K (fun x y => x + y) (fun _ _ => True) ([.ref a, .ref b] ++ []) H Q E := ⟨a, b, x, y, rfl, hx, hy, bx, bu, trivial, q⟩
theorem g_minus (hx : Fr K H a x) (hy : Fr K H b y) (bx : Bd 4000 x) (bu : Bd 4000 y) (q : ∀ p, H p = none → Q (.ref p) (upd H p (.tup (FV (x - y))))) : sp2F K (fun x y => x - y) (fun _ _ => True) ([.ref a, .ref b] ++ []) H Q E := ⟨a, b, x, y, rfl, hx, hy, bx, bu, trivial, q⟩
theorem g_times (hx : Fr K H a x) (hy : Fr K H b y) (bx : Bd 4000 x) (bu : Bd 4000 y) (q : ∀ p, H p = none → Q (.ref p) (upd H p (.tup (FV (x * y))))) : sp2F K (fun x y => x * y) (fun _ _ => True) ([.ref a, .ref b] ++ []) H Q E := ⟨a, b, x, y, rfl, hx, hy, bx, bu, trivial, q⟩
theorem g_divided (hx : Fr K H a x) (hy : Fr K H b y) (bx : Bd 4000 x) (bu : Bd 4000 y) (h0 : y ≠ 0) (q : ∀ p, H p = none → Q (.ref p) (upd H p (.tup (FV (x / y))))) : sp2F K (fun x y => x / y) (fun _ y => y ≠ 0) ([.ref a, .ref b] ++ []) H Q E := ⟨a, b, x, y, rfl, hx, hy, bx, bu, h0, q⟩
theorem g_below (hx : Fr K H a x) (hy : Fr K H b y) (bx : Bd 4000 x) (bu : Bd 4000 y) (q : Q (.bl (decide (x < y))) H) : sp_below K ([.ref a, .ref b] ++ []) H Q E := ⟨a, b, x, y, rfl, hx, hy, bx, bu, q⟩
theorem g_frac (h0 : u ≠ 0) (h : IB 8500 u) (q : ∀ p, H p = none → Q (.ref p) (upd H p (.tup (FV (Rat.divInt t u))))) : sp_fraction ([.int t, .int u] ++ []) H Q E := ⟨t, u, rfl, h0, h, q⟩
theorem ifN_known {p A B : Prop} [Decidable p] (h : p) (q : B) : if (!decide p) = true then A else B := by
  rw [decide_eq_true h]; exact q
theorem ifY_known {p A B : Prop} [Decidable p] (h : p) (q : A) : if decide p = true then A else B := by
  rw [decide_eq_true h]; exact q
theorem fin_eq {p : Prop} [Decidable p] {Q : VK} (h : p) (q : Q (.bl true) H) : Q (.bl (decide p)) H := by rw [decide_eq_true h]; exact q
end

/-! ### lists of fractions -/
def TS (K : PySem.W.Frag) (H H' : Hp) : Prop := ∀ a xs, SqT K H a xs → SqT K H' a xs
theorem TS.refl {K : PySem.W.Frag} (H : Hp) : TS K H H := fun _ _ h => h
theorem TS.trans {K : PySem.W.Frag} {H H1 H2 : Hp} (a : TS K H H1) (b : TS K H1 H2) : TS K H H2 := fun x xs h => b x xs (a x xs h)
theorem Same.ts {K : PySem.W.Frag} {H H' : Hp} (s : Same H H') : TS K H H' := fun _ _ h => sqT_same s h
theorem ts_but {K : PySem.W.Frag} {H H' : Hp} {p : Addr} {ys : List V} (b : But p H H') (e : H p = some (.lst ys)) : TS K H H' := fun _ _ h => sqT_but b e h
theorem ts_pool {K : PySem.W.Frag} {H H' : Hp} {p : Addr} {n : Nat} (b : But p H H') (e : Pool n H p) : TS K H H' := fun _ _ h => sqT_pool b e h
theorem ts_new {K : PySem.W.Frag} {H : Hp} {p : Addr} {o : HO} (e : H p = none) : TS K H (upd H p o) := fun _ _ h => sqT_new e h
theorem ts_mut {K : PySem.W.Frag} {H : Hp} {p : Addr} {o : HO} {ys : List V} (e : H p = some (.lst ys)) : TS K H (upd H p o) := fun _ _ h => sqT_mut e h
def Frs (K : PySem.W.Frag) (H : Hp) : List V → List Rat → Prop
  | [], [] => True
  | v :: vs, x :: xs => (∃ a, v = .ref a ∧ Fr K H a x) ∧ Frs K H vs xs
  | _, _ => False
section
variable {K : PySem.W.Frag} {H H' : Hp}
theorem Frs.ts (t : TS K H H') : ∀ {vs : List V} {xs : List Rat}, Frs K H vs xs → Frs K H' vs xs
  | [], [], _ => True.intro
  | _ :: _, _ :: _, ⟨⟨a, e, h⟩, r⟩ => ⟨⟨a, e, t _ _ h⟩, Frs.ts t r⟩
  | [], _ :: _, h => h.elim
  | _ :: _, [], h => h.elim
theorem Frs.len : ∀ {vs : List V} {xs : List Rat}, Frs K H vs xs → vs.length = xs.length
  | [], [], _ => rfl
  | _ :: _, _ :: _, ⟨_, r⟩ => by rw [List.length_cons, List.length_cons, Frs.len r]
  | [], _ :: _, h => h.elim
  | _ :: _, [], h => h.elim
theorem Frs.snoc {a : Addr} {x : Rat} (h : Fr K H a x) : ∀ {vs : List V} {xs : List Rat}, Frs K H vs xs → Frs K H (vs ++ [.ref a]) (xs ++ [x])
  | [], [], _ => ⟨⟨a, rfl, h⟩, True.intro⟩
  | _ :: _, _ :: _, ⟨e, r⟩ => ⟨e, Frs.snoc h r⟩
  | [], _ :: _, h => h.elim
  | _ :: _, [], h => h.elim
theorem Frs.get : ∀ {vs : List V} {xs : List Rat} {i : Nat} {v : V}, Frs K H vs xs → vs[i]? = some v → ∃ a x, v = .ref a ∧ xs[i]? = some x ∧ Fr K H a x
  | [], [], _, _, _, h => by simp at h
  | _ :: _, x :: _, 0, v, ⟨⟨a, e, h⟩, _⟩, g => ⟨a, x, (Option.some.inj g).symm.trans e, rfl, h⟩
  | _ :: _, _ :: _, i + 1, v, ⟨_, r⟩, g => Frs.get (i := i) r g
  | [], _ :: _, _, _, h, _ => h.elim
  | _ :: _, [], _, _, h, _ => h.elim
theorem Frs.at : ∀ {vs : List V} {xs : List Rat} {i : Nat} {x : Rat}, Frs K H vs xs → xs[i]? = some x → ∃ a, vs[i]? = some (.ref a) ∧ Fr K H a x
  | [], [], _, _, _, h => by simp at h
  | v :: _, x :: _, 0, y, ⟨⟨a, e, h⟩, _⟩, g => by
    obtain rfl : x = y := Option.some.inj g
    exact ⟨a, by rw [e]; rfl, h⟩
  | _ :: _, _ :: _, i + 1, v, ⟨_, r⟩, g => Frs.at (i := i) r g
  | [], _ :: _, _, _, h, _ => h.elim
  | _ :: _, [], _, _, h, _ => h.elim
theorem k_unl {X : Cx} {pos : Pos} {es : List Expr} {k : Nat} {t : TGs} {n : Nat} (hc : X.calm = true) (h : PGs X es t)
    (hn : (assignEach es X.env).length = n := by rfl) (hst : (assignEach es X.env).findIdx? (·.1) = none := by rfl) (h : X.K = K := by rfl) : PG X (.Tuple es k pos) (gUnl K n t) := by subst h; exact pg_unl hc (by assumption) hn hst
end
theorem num_cast (x : Rat) : ((x.num : Int) : Rat) = x * ((x.den : Int) : Rat) := by
  have h := Rat.num_divInt_den x
  rw [Rat.divInt_eq_div] at h
  have h2 : ((x.den : Int) : Rat) ≠ 0 := fun z => den_ne x (by exact_mod_cast z)
  grind
theorem den_cast (x : Rat) : ((x.den : Int) : Rat) ≠ 0 := fun z => den_ne x (by exact_mod_cast z)
theorem fr_one_at {K : PySem.W.Frag} {H : Hp} {a : Addr} : Fr K (upd H a (.tup [.int 1, .int 1])) a 1 := sqT_at (xs := [.int 1, .int 1])
theorem fr_zero_at {K : PySem.W.Frag} {H : Hp} {a : Addr} : Fr K (upd H a (.tup [.int 0, .int 1])) a 0 := sqT_at (xs := [.int 0, .int 1])
theorem fr_int_at {K : PySem.W.Frag} {H : Hp} {a : Addr} {i : Int} : Fr K (upd H a (.tup [.int i, .int 1])) a ((i : Int) : Rat) := sqT_at (xs := [.int i, .int 1])
theorem fr_neg_at {K : PySem.W.Frag} {H : Hp} {a : Addr} {x : Rat} : Fr K (upd H a (.tup [.int (0 - x.num), .int (x.den : Int)])) a (-x) := by
  show SqT _ _ _ _
  rw [FV_neg]
  exact sqT_at
theorem Bd_int {n : Nat} {i : Int} (h : IB n i) : Bd (n + 1) ((i : Int) : Rat) := ⟨IB.mono h (by omega), Nat.one_lt_two_pow (by omega)⟩
theorem Bd_one : Bd 1 (1 : Rat) := ⟨by decide, by decide⟩
theorem ifY_no {p A B : Prop} [Decidable p] (h : ¬p) (q : B) : if decide p = true then A else B := by
  rw [decide_eq_false h]; exact q
theorem ifN_no {p A B : Prop} [Decidable p] (h : ¬p) (q : A) : if (!decide p) = true then A else B := by
  rw [decide_eq_false h]; exact q
theorem neg_ne {i : Int} (h : i ≠ 0) : 0 - i ≠ 0 := by omega
theorem rat_num_pos {x : Rat} : 0 < x.num ↔ 0 < x := by
  rw [Rat.lt_iff]
  show _ ↔ (0 : Int) * (x.den : Int) < x.num * ((1 : Nat) : Int)
  rw [Int.zero_mul, Int.natCast_one, Int.mul_one]
/-- the sum of the first i of some fractions -/
def sumT (xs : List Rat) : Nat → Rat
  | 0 => 0
  | i + 1 => sumT xs i + xs.getD i 0
theorem getD_of {xs : List Rat} {i : Nat} {x : Rat} (h : xs[i]? = some x) : xs.getD i 0 = x := by
  rw [List.getD_eq_getElem?_getD, h]; rfl
theorem mem_of_at {α : Type} {xs : List α} {i : Nat} {x : α} (h : xs[i]? = some x) : x ∈ xs := List.mem_of_getElem? h
local macro_rules | `(tactic| walk_at "sq") => `(tactic| first
  | assumption
  | exact fr_one_at | exact fr_zero_at | exact fr_neg_at | exact fr_int_at | exact sqT_at | exact sqL_at
  | (refine' sqT_new ?e ?h; (case e => assumption); (case h => walk_at "sq"))
  | (refine' sqT_mut ?e ?h; (case e => assumption); (case h => walk_at "sq"))
  | (refine' sqT_same ?e ?h; (case e => assumption); (case h => walk_at "sq"))
  | (refine' sqT_but ?e ?e2 ?h; (case e => assumption); (case e2 => assumption); (case h => walk_at "sq"))
  | (refine' sqL_new ?e ?h; (case e => assumption); (case h => walk_at "sq"))
  | (refine' sqL_same ?e ?h; (case e => assumption); (case h => walk_at "sq")) | fail)
local macro_rules | `(tactic| walk_at "same") => `(tactic| first
  | assumption
  | exact Same.refl _
  | (refine Same.trans ?_ (same_new (by assumption)); walk_at "same")
  | (refine Same.trans ?_ (by assumption); walk_at "same") | fail)
local macro_rules | `(tactic| walk_at "k") => `(tactic| try dsimp only [L2.cxOf, L2.Cx.nox])
local macro_rules | `(tactic| walk_at "step") => `(tactic| first
  | with_reducible refine St1.pf ?_
  | (with_reducible refine' g_var ?h ?q; (case h => with_unfolding_all rfl))
  | with_reducible refine g_ixT (by walk_at "sq") (by with_unfolding_all rfl) ?_
  | (with_reducible refine' g_mod ?h ?q; (case h => first | assumption | omega | decide))
  | with_reducible refine g_powE (cpow_ok (by decide)) (by simp only [Int.reduceToNat, Int.reducePow]; rfl) ?_
  | with_reducible refine g_isiT (by walk_at "sq") ?_
  | with_reducible refine g_lenT (by walk_at "sq") ?_
  | (with_reducible refine' g_aug ?h ?q; (case h => with_unfolding_all rfl))
  | (with_reducible refine' g_eq ?h ?q; (case h => rfl)) | (with_reducible refine' g_ne ?h ?q; (case h => rfl)))
local macro_rules | `(tactic| walk_at "go") => `(tactic| repeat (walk_at "step"))
local macro_rules | `(tactic| walk_at "bd") => `(tactic| (with_reducible refine g_mul ?c ?_; (case c => first | exact mulW 4000 4000 (Bd.num (by assumption)) (Bd.de (by assumption)) | exact mulW 4000 4000 (Bd.num (by assumption)) (Bd.num (by assumption)) | exact mulW 4000 4000 (Bd.de (by assumption)) (Bd.de (by assumption)) | exact mulW 4000 4000 (Bd.de (by assumption)) (Bd.num (by assumption)))))
local macro_rules | `(tactic| walk_at "gob") => `(tactic| repeat (first | walk_at "step" | walk_at "bd"))
local macro_rules | `(tactic| walk_at "sq") => `(tactic| first | (refine' sqT_pool ?b ?e ?h; (case b => assumption); (case e => assumption); (case h => walk_at "sq")) | fail)
local macro_rules | `(tactic| walk_at "pool") => `(tactic| first | assumption | (refine Pool.new ?h ?e; (case e => assumption); (case h => walk_at "pool")) | (refine Pool.same ?h ?e; (case e => assumption); (case h => walk_at "pool")) | fail)
local macro_rules | `(tactic| walk_at "but") => `(tactic| first | assumption | exact But.refl _ _ | (refine But.newp ?h ?e; (case e => assumption); (case h => walk_at "but")) | (refine But.trans ?h ?e; (case e => first | assumption | exact But.same (by assumption)); (case h => walk_at "but")) | fail)
local macro_rules | `(tactic| walk_at "bds") => `(tactic| first
  | assumption
  | exact Bd_zero (n := 1) (by decide) | exact Bd_one | exact Bd_int (by walk_at "ibs")
  | (refine' Bd_add ?a ?b; (case a => walk_at "bds"); (case b => walk_at "bds"))
  | (refine' Bd_sub ?a ?b; (case a => walk_at "bds"); (case b => walk_at "bds"))
  | (refine' Bd_mul ?a ?b; (case a => walk_at "bds"); (case b => walk_at "bds"))
  | (refine' Bd_div ?a ?b ?c; (case a => walk_at "bds"); (case b => walk_at "bds"); (case c => first | assumption | grind | fail))
  | fail)
local macro_rules | `(tactic| walk_at "ibs") => `(tactic| first
  | assumption
  | exact IB.num (by assumption)
  | exact IB.den (by assumption)
  | (refine' IB.mul ?a ?b; (case a => walk_at "ibs"); (case b => walk_at "ibs"))
  | (refine' IB.add ?a ?b; (case a => walk_at "ibs"); (case b => walk_at "ibs"))
  | (refine' IB.sub ?a ?b; (case a => walk_at "ibs"); (case b => walk_at "ibs"))
  | exact IB.lit
  | fail)
local macro_rules | `(tactic| walk_at "deed") => `(tactic| first
  | (with_reducible refine' g_plus ?hx ?hy ?bx ?bu ?q; (case hx => walk_at "sq"); (case hy => walk_at "sq"); (case bx => exact Bd.mono (by walk_at "bds") (by decide)); (case bu => exact Bd.mono (by walk_at "bds") (by decide)); intro p np)
  | (with_reducible refine' g_minus ?hx ?hy ?bx ?bu ?q; (case hx => walk_at "sq"); (case hy => walk_at "sq"); (case bx => exact Bd.mono (by walk_at "bds") (by decide)); (case bu => exact Bd.mono (by walk_at "bds") (by decide)); intro p np)
  | (with_reducible refine' g_times ?hx ?hy ?bx ?bu ?q; (case hx => walk_at "sq"); (case hy => walk_at "sq"); (case bx => exact Bd.mono (by walk_at "bds") (by decide)); (case bu => exact Bd.mono (by walk_at "bds") (by decide)); intro p np)
  | (with_reducible refine' g_divided ?hx ?hy ?bx ?bu ?h0 ?q; (case hx => walk_at "sq"); (case hy => walk_at "sq"); (case bx => exact Bd.mono (by walk_at "bds") (by decide)); (case bu => exact Bd.mono (by walk_at "bds") (by decide)); (case h0 => first | assumption | exact den_cast _ | grind | fail); intro p np)
  | (with_reducible refine' g_below ?hx ?hy ?bx ?bu ?q; (case hx => walk_at "sq"); (case hy => walk_at "sq"); (case bx => exact Bd.mono (by walk_at "bds") (by decide)); (case bu => exact Bd.mono (by walk_at "bds") (by decide)))
  | (with_reducible refine' g_neF ?hx ?hy ?q; (case hx => walk_at "sq"); (case hy => walk_at "sq"))
  | (with_reducible refine' g_eqF ?hx ?hy ?q; (case hx => walk_at "sq"); (case hy => walk_at "sq"))
  | (with_reducible refine' g_mul ?h ?q; (case h => exact IB.mulW (by walk_at "ibs") (by walk_at "ibs") (by decide)))
  | (with_reducible refine' g_frac ?h0 ?h ?q; (case h0 => walk_at "nz"); (case h => exact IB.mono (by walk_at "ibs") (by decide)); intro p np)
  | fail)
local macro_rules | `(tactic| walk_at "nz") => `(tactic| first | assumption | exact den_ne _ | exact num_ne (by assumption) | exact neg_ne (den_ne _) | (refine Int.mul_ne_zero ?a ?b; (case a => walk_at "nz"); (case b => walk_at "nz")) | fail)
local macro_rules | `(tactic| walk_at "rat") => `(tactic| (simp only [Rat.divInt_eq_div, Rat.intCast_add, Rat.intCast_sub, Rat.intCast_mul, Rat.intCast_zero, Rat.intCast_one, num_cast]; grind [den_cast]))
local macro_rules | `(tactic| walk_at "known") => `(tactic| first | walk_at "rat" | grind | fail)
local macro_rules | `(tactic| walk_at "god") => `(tactic| repeat (first | walk_at "step" | walk_at "deed" | (with_reducible refine And.intro two_le ?_; intro p np) | with_reducible refine ifN_known (by walk_at "known") ?_ | with_reducible refine ifY_known (by walk_at "known") ?_ | fail))
local macro_rules | `(tactic| walk_at "goe") => `(tactic| repeat (first | walk_at "step" | walk_at "deed" | (with_reducible refine And.intro two_le ?_; intro p np) | with_reducible refine ifN_known (by grind) ?_ | with_reducible refine ifY_known (by grind) ?_ | with_reducible refine ifY_no (by grind) ?_ | with_reducible refine ifN_no (by grind) ?_ | fail))
/-! ### the text -/
def topS (i : Nat) : Stmt := PySem.Challenge.pw_farcuts_k05_whole_there_and_back.main.body.getD i (.Pass ⟨0, 0, 0, 0⟩)
abbrev s_common_of : Stmt := topS 4
abbrev N_common_of : List Str := ["one", "other"]
abbrev P_common_of : List Str := ["one", "other"]
theorem sc_common_of : FnScope N_common_of P_common_of (defScope s_common_of) := ⟨rfl, rfl, rfl, by decide +kernel, rfl, by decide +kernel, by decide +kernel⟩
abbrev s_fraction : Stmt := topS 5
abbrev N_fraction : List Str := ["top", "bottom", "by"]
abbrev P_fraction : List Str := ["top", "bottom"]
theorem sc_fraction : FnScope N_fraction P_fraction (defScope s_fraction) := ⟨rfl, rfl, rfl, by decide +kernel, rfl, by decide +kernel, by decide +kernel⟩
abbrev s_plus : Stmt := topS 6
abbrev N_plus : List Str := ["q", "r"]
abbrev P_plus : List Str := ["q", "r"]
theorem sc_plus : FnScope N_plus P_plus (defScope s_plus) := ⟨rfl, rfl, rfl, by decide +kernel, rfl, by decide +kernel, by decide +kernel⟩
abbrev s_minus : Stmt := topS 7
abbrev N_minus : List Str := ["q", "r"]
abbrev P_minus : List Str := ["q", "r"]
theorem sc_minus : FnScope N_minus P_minus (defScope s_minus) := ⟨rfl, rfl, rfl, by decide +kernel, rfl, by decide +kernel, by decide +kernel⟩
abbrev s_times : Stmt := topS 8
abbrev N_times : List Str := ["q", "r"]
abbrev P_times : List Str := ["q", "r"]
theorem sc_times : FnScope N_times P_times (defScope s_times) := ⟨rfl, rfl, rfl, by decide +kernel, rfl, by decide +kernel, by decide +kernel⟩
abbrev s_divided : Stmt := topS 9
abbrev N_divided : List Str := ["q", "r"]
abbrev P_divided : List Str := ["q", "r"]
theorem sc_divided : FnScope N_divided P_divided (defScope s_divided) := ⟨rfl, rfl, rfl, by decide +kernel, rfl, by decide +kernel, by decide +kernel⟩
abbrev s_is_below : Stmt := topS 10
abbrev N_is_below : List Str := ["q", "r"]
abbrev P_is_below : List Str := ["q", "r"]
theorem sc_is_below : FnScope N_is_below P_is_below (defScope s_is_below) := ⟨rfl, rfl, rfl, by decide +kernel, rfl, by decide +kernel, by decide +kernel⟩
abbrev s_l_pool : Stmt := topS 12
abbrev N_l_pool : List Str := ["script", "k", "cell"]
abbrev P_l_pool : List Str := ["script", "k"]
theorem sc_l_pool : FnScope N_l_pool P_l_pool (defScope s_l_pool) := ⟨rfl, rfl, rfl, by decide +kernel, rfl, by decide +kernel, by decide +kernel⟩
abbrev s_l_take : Stmt := topS 13
abbrev N_l_take : List Str := ["pool", "many", "found", "step", "mark"]
abbrev P_l_take : List Str := ["pool", "many"]
theorem sc_l_take : FnScope N_l_take P_l_take (defScope s_l_take) := ⟨rfl, rfl, rfl, by decide +kernel, rfl, by decide +kernel, by decide +kernel⟩
abbrev s_l_lowest : Stmt := topS 14
abbrev N_l_lowest : List Str := ["top", "bottom", "one", "other"]
abbrev P_l_lowest : List Str := ["top", "bottom"]
theorem sc_l_lowest : FnScope N_l_lowest P_l_lowest (defScope s_l_lowest) := ⟨rfl, rfl, rfl, by decide +kernel, rfl, by decide +kernel, by decide +kernel⟩
abbrev s_l_figures : Stmt := topS 15
abbrev N_l_figures : List Str := ["pool", "found", "turn"]
abbrev P_l_figures : List Str := ["pool"]
theorem sc_l_figures : FnScope N_l_figures P_l_figures (defScope s_l_figures) := ⟨rfl, rfl, rfl, by decide +kernel, rfl, by decide +kernel, by decide +kernel⟩
abbrev s_l_q : Stmt := topS 16
abbrev N_l_q : List Str := ["pool", "sign", "kind"]
abbrev P_l_q : List Str := ["pool"]
theorem sc_l_q : FnScope N_l_q P_l_q (defScope s_l_q) := ⟨rfl, rfl, rfl, by decide +kernel, rfl, by decide +kernel, by decide +kernel⟩
abbrev s_l_sums : Stmt := topS 17
abbrev N_l_sums : List Str := ["q", "r", "s"]
abbrev P_l_sums : List Str := ["q", "r", "s"]
theorem sc_l_sums : FnScope N_l_sums P_l_sums (defScope s_l_sums) := ⟨rfl, rfl, rfl, by decide +kernel, rfl, by decide +kernel, by decide +kernel⟩
abbrev s_l_three_right : Stmt := topS 18
abbrev N_l_three_right : List Str := ["q", "r", "s", "bottom", "one", "other", "last"]
abbrev P_l_three_right : List Str := ["q", "r", "s"]
theorem sc_l_three_right : FnScope N_l_three_right P_l_three_right (defScope s_l_three_right) := ⟨rfl, rfl, rfl, by decide +kernel, rfl, by decide +kernel, by decide +kernel⟩
abbrev s_l_long_right : Stmt := topS 19
abbrev N_l_long_right : List Str := ["pool", "ones", "turn", "sums", "top", "bottom", "q"]
abbrev P_l_long_right : List Str := ["pool"]
theorem sc_l_long_right : FnScope N_l_long_right P_l_long_right (defScope s_l_long_right) := ⟨rfl, rfl, rfl, by decide +kernel, rfl, by decide +kernel, by decide +kernel⟩
abbrev s_l_told_again : Stmt := topS 20
abbrev N_l_told_again : List Str := ["q", "r", "s", "p"]
abbrev P_l_told_again : List Str := ["q", "r", "s"]
theorem sc_l_told_again : FnScope N_l_told_again P_l_told_again (defScope s_l_told_again) := ⟨rfl, rfl, rfl, by decide +kernel, rfl, by decide +kernel, by decide +kernel⟩
abbrev s_l_order : Stmt := topS 21
abbrev N_l_order : List Str := ["q", "r", "s", "less", "more"]
abbrev P_l_order : List Str := ["q", "r", "s"]
theorem sc_l_order : FnScope N_l_order P_l_order (defScope s_l_order) := ⟨rfl, rfl, rfl, by decide +kernel, rfl, by decide +kernel, by decide +kernel⟩
abbrev s_law : Stmt := topS 22
abbrev N_law : List Str := ["script", "k", "pool", "q", "r", "s", "one"]
abbrev P_law : List Str := ["script"]
theorem sc_law : FnScope N_law P_law (defScope s_law) := ⟨rfl, rfl, rfl, by decide +kernel, rfl, by decide +kernel, by decide +kernel⟩
/-- the built-in names that the text leaves as they are -/
structure Tx (K : PySem.W.Frag) (mg : Str → Option Value) : Prop where
  abs_ : mg "abs" = none
  len_ : mg "len" = none
  max_ : mg "max" = none
  min_ : mg "min" = none
  range_ : mg "range" = none
section
variable {P : Program} {w : World} {K : PySem.W.Frag} {mg : Str → Option Value} {base : Heap}
theorem ok_common_of {f : Addr} {fd : FuncData} (F : Fun K "common_of" "common_of" s_common_of f fd) (T : Tx K mg) : FnOk P w K mg base CX0 1 f fd P_common_of sp_common := by
  refine F.ok sc_common_of (fun vs H Q E h => ?_) (fun cdv A outer s H vs Q E hr h => ?_)
  · obtain ⟨a, b, rfl, _⟩ := h
    rfl
  · obtain ⟨a, b, rfl, q⟩ := h
    refine ⟨_, (pss_cons (ps_while PassesOwn.never (pt_cmpR op_ne (pv 1) pe_int (nomark _))
  (pss_one (ps_par (i := 0) (j := 1) rfl sc_common_of.nd rfl rfl (by decide) rfl rfl (pa_cons (pv 1) (pa_cons (pe_op op_modN (pv 0) (pv 1)) pa_nil)) rfl)))
  (pss_one (ps_ret (pe_callB cr_abs (by rfl) T.abs_ (by decide +kernel) (pa_cons (pv 0) pa_nil))))), ?_⟩
    walk_at "k"
    walk_at "step"
    refine while_by (fun σ H' => ∃ x y : Int, σ = [some (.int x), some (.int y)] ∧ H' = H ∧ Int.gcd x y = Int.gcd a b) (fun σ _ => match σ with | [_, some (.int y)] => y.natAbs | _ => 0)
      ⟨a, b, rfl, rfl, rfl⟩ ?_ ?_
    · rintro σ H' ⟨x, y, rfl, rfl, e⟩
      walk_at "go"
      refine ifND (fun h => ?_) (fun h => ?_)
      · walk_at "go"
        refine g_modN h ?_
        walk_at "go"
        exact ⟨⟨y, x.fmod y, rfl, rfl, (gcd_fmod x y).trans e⟩, fmod_small x y h⟩
      · walk_at "go"
        subst h
        rw [abs_gcd0, e]
        exact q
    · intro σ H Q Q' h t
      obtain ⟨v, e1, i, k, e3, q⟩ := t
      exact ⟨v, e1, i, k, e3, h _ _ q⟩
theorem ok_fraction {f : Addr} {fd : FuncData} (F : Fun K "fraction" "fraction" s_fraction f fd) (T : Tx K mg) (c_common_of : Cal P w K mg base 1 "common_of" sp_common []) : FnOk P w K mg base CX0 2 f fd P_fraction sp_fraction := by
  refine F.ok sc_fraction (fun vs H Q E h => ?_) (fun cdv A outer s H vs Q E hr h => ?_)
  · obtain ⟨a, b, rfl, _⟩ := h
    rfl
  · obtain ⟨t, b, rfl, hb, hl, q⟩ := h
    refine ⟨_, (pss_cons (ps_if (pt_cmpR op_eq (pv 1) pe_int (nomark _))
  (pss_one ps_never)
  pss_nil)
  (pss_cons (ps_set (i := 2) sc_fraction.nd rfl (Or.inl rfl) (pe_c c_common_of hr (by decide) rfl (pa_cons (pv 0) (pa_cons (pv 1) pa_nil))))
  (pss_cons (ps_if (pt_cmpR op_lt (pv 1) pe_int (nomark _))
  (pss_one (ps_set (i := 2) sc_fraction.nd rfl (Or.inl rfl) (pe_op op_sub pe_int (pv 2))))
  pss_nil)
  (pss_one (ps_ret (pe_tup (pa_cons (pe_op op_fdivV (pv 0) (pv 2)) (pa_cons (pe_op op_fdivV (pv 1) (pv 2)) pa_nil)))))))), ?_⟩
    walk_at "k"
    walk_at "go"
    refine ifD (fun h => absurd h hb) (fun _ => ?_)
    walk_at "go"
    refine ⟨t, b, rfl, ?_⟩
    walk_at "go"
    have hg := gcd_lt (t := t) hb hl
    have hp := gcd_pos' (t := t) hb
    refine ifD (fun h => ?_) (fun h => ?_)
    · walk_at "go"
      refine g_divV (divV 8500 (by omega) (by omega)) ?_
      walk_at "go"
      refine g_divV (divV 8500 (by omega) (by omega)) ?_
      walk_at "go"
      refine ⟨(by show 2 ≤ sizeLine; decide), fun p np => ?_⟩
      have := q p np
      unfold FV at this
      rw [divInt_num t b hb, divInt_den t b hb, if_pos h, if_pos h] at this
      rw [Int.zero_sub]
      exact this
    · walk_at "go"
      refine g_divV (divV 8500 (by omega) (by omega)) ?_
      walk_at "go"
      refine g_divV (divV 8500 (by omega) (by omega)) ?_
      walk_at "go"
      refine ⟨(by show 2 ≤ sizeLine; decide), fun p np => ?_⟩
      have := q p np
      unfold FV at this
      rw [divInt_num t b hb, divInt_den t b hb, if_neg h, if_neg h] at this
      exact this
theorem ok_plus {f : Addr} {fd : FuncData} (F : Fun K "plus" "plus" s_plus f fd) (T : Tx K mg) (c_fraction : Cal P w K mg base 2 "fraction" sp_fraction []) : FnOk P w K mg base CX0 3 f fd P_plus (sp2F K (fun x y => x + y) fun x y => True) := by
  refine F.ok sc_plus (fun vs H Q E h => ?_) (fun cdv A outer s H vs Q E hr h => ?_)
  · obtain ⟨a, b, x, y, rfl, _⟩ := h
    rfl
  · obtain ⟨a, b, x, y, rfl, hx, hy, bx, by', hpre, q⟩ := h
    refine ⟨_, (pss_one (ps_ret (pe_c c_fraction hr (by decide) rfl (pa_cons (pe_op op_add (pe_op op_mulW (pe_ix (k_ixT (K := K)) (pv 0) pe_int (fun _ _ => rfl)) (pe_ix (k_ixT (K := K)) (pv 1) pe_int (fun _ _ => rfl))) (pe_op op_mulW (pe_ix (k_ixT (K := K)) (pv 1) pe_int (fun _ _ => rfl)) (pe_ix (k_ixT (K := K)) (pv 0) pe_int (fun _ _ => rfl)))) (pa_cons (pe_op op_mulW (pe_ix (k_ixT (K := K)) (pv 0) pe_int (fun _ _ => rfl)) (pe_ix (k_ixT (K := K)) (pv 1) pe_int (fun _ _ => rfl))) pa_nil))))), ?_⟩
    walk_at "k"
    have dx := den_pos' x
    have dy := den_pos' y
    walk_at "gob"
    refine ⟨_, _, rfl, ?_, ?_, fun p np => ?_⟩
    · exact Int.ne_of_gt (Int.mul_pos dx dy)
    · exact Nat.lt_trans (natAbs_mul_lt bx.2 by'.2) (Nat.pow_lt_pow_right (by decide) (by decide))
    · have := q p np
      dsimp only at this
      rw [← plus_eq] at this
      exact this
theorem ok_minus {f : Addr} {fd : FuncData} (F : Fun K "minus" "minus" s_minus f fd) (T : Tx K mg) (c_fraction : Cal P w K mg base 2 "fraction" sp_fraction []) : FnOk P w K mg base CX0 3 f fd P_minus (sp2F K (fun x y => x - y) fun x y => True) := by
  refine F.ok sc_minus (fun vs H Q E h => ?_) (fun cdv A outer s H vs Q E hr h => ?_)
  · obtain ⟨a, b, x, y, rfl, _⟩ := h
    rfl
  · obtain ⟨a, b, x, y, rfl, hx, hy, bx, by', hpre, q⟩ := h
    refine ⟨_, (pss_one (ps_ret (pe_c c_fraction hr (by decide) rfl (pa_cons (pe_op op_sub (pe_op op_mulW (pe_ix (k_ixT (K := K)) (pv 0) pe_int (fun _ _ => rfl)) (pe_ix (k_ixT (K := K)) (pv 1) pe_int (fun _ _ => rfl))) (pe_op op_mulW (pe_ix (k_ixT (K := K)) (pv 1) pe_int (fun _ _ => rfl)) (pe_ix (k_ixT (K := K)) (pv 0) pe_int (fun _ _ => rfl)))) (pa_cons (pe_op op_mulW (pe_ix (k_ixT (K := K)) (pv 0) pe_int (fun _ _ => rfl)) (pe_ix (k_ixT (K := K)) (pv 1) pe_int (fun _ _ => rfl))) pa_nil))))), ?_⟩
    walk_at "k"
    have dx := den_pos' x
    have dy := den_pos' y
    walk_at "gob"
    refine ⟨_, _, rfl, ?_, ?_, fun p np => ?_⟩
    · exact Int.ne_of_gt (Int.mul_pos dx dy)
    · exact Nat.lt_trans (natAbs_mul_lt bx.2 by'.2) (Nat.pow_lt_pow_right (by decide) (by decide))
    · have := q p np
      dsimp only at this
      rw [← minus_eq] at this
      exact this
theorem ok_times {f : Addr} {fd : FuncData} (F : Fun K "times" "times" s_times f fd) (T : Tx K mg) (c_fraction : Cal P w K mg base 2 "fraction" sp_fraction []) : FnOk P w K mg base CX0 3 f fd P_times (sp2F K (fun x y => x * y) fun x y => True) := by
  refine F.ok sc_times (fun vs H Q E h => ?_) (fun cdv A outer s H vs Q E hr h => ?_)
  · obtain ⟨a, b, x, y, rfl, _⟩ := h
    rfl
  · obtain ⟨a, b, x, y, rfl, hx, hy, bx, by', hpre, q⟩ := h
    refine ⟨_, (pss_one (ps_ret (pe_c c_fraction hr (by decide) rfl (pa_cons (pe_op op_mulW (pe_ix (k_ixT (K := K)) (pv 0) pe_int (fun _ _ => rfl)) (pe_ix (k_ixT (K := K)) (pv 1) pe_int (fun _ _ => rfl))) (pa_cons (pe_op op_mulW (pe_ix (k_ixT (K := K)) (pv 0) pe_int (fun _ _ => rfl)) (pe_ix (k_ixT (K := K)) (pv 1) pe_int (fun _ _ => rfl))) pa_nil))))), ?_⟩
    walk_at "k"
    have dx := den_pos' x
    have dy := den_pos' y
    walk_at "gob"
    refine ⟨_, _, rfl, ?_, ?_, fun p np => ?_⟩
    · exact Int.ne_of_gt (Int.mul_pos dx dy)
    · exact Nat.lt_trans (natAbs_mul_lt bx.2 by'.2) (Nat.pow_lt_pow_right (by decide) (by decide))
    · have := q p np
      dsimp only at this
      rw [← times_eq] at this
      exact this
theorem ok_divided {f : Addr} {fd : FuncData} (F : Fun K "divided" "divided" s_divided f fd) (T : Tx K mg) (c_fraction : Cal P w K mg base 2 "fraction" sp_fraction []) : FnOk P w K mg base CX0 3 f fd P_divided (sp2F K (fun x y => x / y) fun x y => y ≠ 0) := by
  refine F.ok sc_divided (fun vs H Q E h => ?_) (fun cdv A outer s H vs Q E hr h => ?_)
  · obtain ⟨a, b, x, y, rfl, _⟩ := h
    rfl
  · obtain ⟨a, b, x, y, rfl, hx, hy, bx, by', hpre, q⟩ := h
    refine ⟨_, (pss_one (ps_ret (pe_c c_fraction hr (by decide) rfl (pa_cons (pe_op op_mulW (pe_ix (k_ixT (K := K)) (pv 0) pe_int (fun _ _ => rfl)) (pe_ix (k_ixT (K := K)) (pv 1) pe_int (fun _ _ => rfl))) (pa_cons (pe_op op_mulW (pe_ix (k_ixT (K := K)) (pv 0) pe_int (fun _ _ => rfl)) (pe_ix (k_ixT (K := K)) (pv 1) pe_int (fun _ _ => rfl))) pa_nil))))), ?_⟩
    walk_at "k"
    have dx := den_pos' x
    have dy := den_pos' y
    walk_at "gob"
    refine ⟨_, _, rfl, ?_, ?_, fun p np => ?_⟩
    · exact Int.mul_ne_zero (by omega) (fun z => hpre (Rat.num_eq_zero.mp z))
    · exact Nat.lt_trans (natAbs_mul_lt bx.2 by'.1) (Nat.pow_lt_pow_right (by decide) (by decide))
    · have := q p np
      dsimp only at this
      rw [← divided_eq] at this
      exact this
theorem ok_is_below {f : Addr} {fd : FuncData} (F : Fun K "is_below" "is_below" s_is_below f fd) (T : Tx K mg) : FnOk P w K mg base CX0 1 f fd P_is_below (sp_below K) := by
  refine F.ok sc_is_below (fun vs H Q E h => ?_) (fun cdv A outer s H vs Q E hr h => ?_)
  · obtain ⟨a, b, x, y, rfl, _⟩ := h
    rfl
  · obtain ⟨a, b, x, y, rfl, hx, hy, bx, by', q⟩ := h
    refine ⟨_, (pss_one (ps_ret (pe_cmpR op_lt (pe_op op_mulW (pe_ix (k_ixT (K := K)) (pv 0) pe_int (fun _ _ => rfl)) (pe_ix (k_ixT (K := K)) (pv 1) pe_int (fun _ _ => rfl))) (pe_op op_mulW (pe_ix (k_ixT (K := K)) (pv 1) pe_int (fun _ _ => rfl)) (pe_ix (k_ixT (K := K)) (pv 0) pe_int (fun _ _ => rfl))) (nomark _)))), ?_⟩
    walk_at "k"
    walk_at "go"
    refine g_mul (mulW 4000 4000 bx.1 by'.2) ?_
    walk_at "go"
    refine g_mul (mulW 4000 4000 by'.1 bx.2) ?_
    walk_at "go"
    rw [lt_eq]
    exact q
end
section
variable {P : Program} {w : World} {K : PySem.W.Frag} {mg : Str → Option Value} {base : Heap}
theorem ok_l_pool {f : Addr} {fd : FuncData} (F : Fun K "_law_pool" "_law_pool" s_l_pool f fd) (T : Tx K mg) : FnOk P w K mg base CX0 1 f fd P_l_pool (sp_pool K) := by
  refine F.ok sc_l_pool (fun vs H Q E h => ?_) (fun cdv A outer s H vs Q E hr h => ?_)
  · obtain ⟨a, b, x, rfl, _⟩ := h
    rfl
  · obtain ⟨a, ns, k, rfl, hS, h0, h1, q⟩ := h
    refine ⟨_, (pss_cons (ps_set (i := 2) sc_l_pool.nd rfl (Or.inl rfl) pe_int)
  (C8.pss_cut (ps_if (pt_cmpR op_lt (pv 1) (pe_callB (k_len (K := K)) (by rfl) T.len_ (by decide +kernel) (pa_cons (pv 0) pa_nil)) (nomark _))
  (pss_one (ps_set (i := 2) sc_l_pool.nd rfl (Or.inl rfl) (pe_ix (k_ixL (K := K)) (pv 0) (pv 1) (fun _ _ => rfl))))
  pss_nil)
  (pss_cons (ps_if (pt_cmpR op_ge (pv 2) (pe_op op_pow pe_int pe_int) (nomark _))
  (pss_one (ps_ret (pe_lst (pa_cons (pe_op op_sub (pv 2) (pe_op op_pow pe_int pe_int)) (pa_cons pe_int (pa_cons pe_int pa_nil))))))
  pss_nil)
  (pss_one (ps_ret (pe_lst (pa_cons (pv 2) (pa_cons pe_int (pa_cons (pe_op op_mulW pe_int (pv 1)) pa_nil))))))))), ?_⟩
    walk_at "k"
    walk_at "go"
    refine g_cut (fun σ H' => H' = H ∧ ∃ cell : Int, σ = [some (V.ref a), some (V.int k), some (V.int cell)]) ?_ ?_
    all_goals walk_at "go"
    refine g_lenL hS ?_
    walk_at "go"
    rw [List.length_map]
    refine ifD (fun h => ?_) (fun h => ?_)
    · walk_at "go"
      obtain ⟨z, hz⟩ := atI_int (ns := ns) h0 h
      refine g_ixL hS hz ?_
      walk_at "go"
      exact ⟨rfl, _, rfl⟩
    · walk_at "go"
      exact ⟨rfl, _, rfl⟩
    · rintro σ H' ⟨rfl, cell, rfl⟩
      walk_at "go"
      refine ifD (fun h => ?_) (fun h => ?_)
      · walk_at "go"
        refine ⟨(by show 3 ≤ sizeLine; decide), fun p np => q p _ np (same_new np) ⟨_, _, _, upd_same, by decide, by decide⟩⟩
      · walk_at "go"
        refine g_mul (mulW 64 64 (by decide) (by omega)) ?_
        walk_at "go"
        refine ⟨(by show 3 ≤ sizeLine; decide), fun p np => q p _ np (same_new np) ⟨_, _, _, upd_same, by omega, by omega⟩⟩
theorem ok_l_take {f : Addr} {fd : FuncData} (F : Fun K "_law_take" "_law_take" s_l_take f fd) (T : Tx K mg) : FnOk P w K mg base CX0 1 f fd P_l_take (sp_take K) := by
  refine F.ok sc_l_take (fun vs H Q E h => ?_) (fun cdv A outer s H vs Q E hr h => ?_)
  · obtain ⟨a, b, x, rfl, _⟩ := h
    rfl
  · obtain ⟨p, n, m, rfl, ⟨a, b, c, e, h0, h1⟩, hn, hm, hl, q⟩ := h
    refine ⟨_, (pss_cons (ps_if (pt_cmpR op_eq (pe_ix (k_ixL (K := K)) (pv 0) pe_int (fun _ _ => rfl)) pe_int (nomark _))
  (pss_cons (ps_set (i := 2) sc_l_take.nd rfl (Or.inl rfl) (pe_op op_mod (pe_ix (k_ixL (K := K)) (pv 0) pe_int (fun _ _ => rfl)) (pv 1)))
  (pss_cons (ps_asg (pe_op op_fdivW (pe_ix (k_ixL (K := K)) (pv 0) pe_int (fun _ _ => rfl)) (pv 1)) (pg_sub (pv 0) pe_int set_list))
  (pss_one (ps_ret (pv 2)))))
  pss_nil)
  (pss_cons (ps_asg (pe_op op_add (pe_ix (k_ixL (K := K)) (pv 0) pe_int (fun _ _ => rfl)) pe_int) (pg_sub (pv 0) pe_int set_list))
  (pss_cons (ps_set (i := 3) sc_l_take.nd rfl (Or.inl rfl) (pe_ix (k_ixL (K := K)) (pv 0) pe_int (fun _ _ => rfl)))
  (pss_cons (ps_set (i := 4) sc_l_take.nd rfl (Or.inl rfl) (pe_op op_mulW (pe_op op_add (pe_op op_mod (pe_ix (k_ixL (K := K)) (pv 0) pe_int (fun _ _ => rfl)) pe_int) pe_int) (pe_op op_add (pe_op op_mulW pe_int (pv 3)) pe_int)))
  (pss_cons (ps_set (i := 4) sc_l_take.nd rfl (Or.inl rfl) (pe_op op_add (pv 4) (pe_op op_mulW (pe_op op_mulW pe_int (pv 3)) (pv 3))))
  (pss_cons (ps_set (i := 4) sc_l_take.nd rfl (Or.inl rfl) (pe_op op_mod (pe_op op_mulW (pv 4) (pv 4)) pe_int))
  (pss_one (ps_ret (pe_op op_mod (pe_op op_fdivW (pe_op op_mod (pe_op op_mulW (pv 4) (pe_op op_add (pv 4) pe_int)) pe_int) pe_int) (pv 1)))))))))), ?_⟩
    walk_at "k"
    have S := SqL.of (K := K) e
    walk_at "go"
    refine g_ixL S rfl ?_
    walk_at "go"
    refine ifD (fun h => ?_) (fun h => ?_)
    · walk_at "go"
      refine g_ixL S rfl ?_
      walk_at "go"
      refine g_ixL S rfl ?_
      walk_at "go"
      refine g_div (wide_div hm hl (by decide) (by decide)) ?_
      walk_at "go"
      refine g_setL e rfl ?_
      walk_at "go"
      exact q _ _ (Int.emod_nonneg _ (by omega)) (Int.emod_lt_of_pos _ hm) But.mut ⟨_, _, _, upd_same, h0, by omega⟩
    · walk_at "go"
      refine g_ixL S rfl ?_
      walk_at "go"
      refine g_setL e rfl ?_
      walk_at "go"
      refine g_ixL (SqL.of upd_same) rfl ?_
      walk_at "go"
      refine g_ixL (SqL.of upd_same) rfl ?_
      walk_at "go"
      refine g_mul (mulW 70 70 (by decide) (by omega)) ?_
      walk_at "go"
      have a0 := Int.emod_nonneg a (b := 9999999641) (by decide)
      have a1 := Int.emod_lt_of_pos a (b := 9999999641) (by decide)
      refine g_mul (mulW 70 70 (by omega) (by omega)) ?_
      walk_at "go"
      refine g_mul (mulW 70 70 (by decide) (by omega)) ?_
      walk_at "go"
      refine g_mul (mulW 140 70 (by omega) (by omega)) ?_
      walk_at "go"
      have b1 : ((a % 9999999641 + 953) * (17 * (c + 1) + 43)).natAbs < 2 ^ 140 := natAbs_mul_lt (n := 70) (m := 70) (by omega) (by omega)
      have b2 : (3413 * (c + 1) * (c + 1)).natAbs < 2 ^ 150 := natAbs_mul_lt (n := 80) (m := 70) (by omega) (by omega)
      refine g_mul (mulW 160 160 (by omega) (by omega)) ?_
      walk_at "go"
      have m0 : ∀ z : Int, (z % 99999999683).natAbs < 2 ^ 40 := fun z => by
        have := Int.emod_nonneg z (b := 99999999683) (by decide)
        have := Int.emod_lt_of_pos z (b := 99999999683) (by decide)
        omega
      refine g_mul (mulW 40 41 (m0 _) (by have := m0 (((a % 9999999641 + 953) * (17 * (c + 1) + 43) + 3413 * (c + 1) * (c + 1)) * ((a % 9999999641 + 953) * (17 * (c + 1) + 43) + 3413 * (c + 1) * (c + 1))); omega)) ?_
      walk_at "go"
      refine g_div (wide_div (b := 40) (j := 73) (by decide) (by decide) (by decide) (by decide)) ?_
      walk_at "go"
      exact q _ _ (Int.emod_nonneg _ (by omega)) (Int.emod_lt_of_pos _ hm) But.mut ⟨_, _, _, upd_same, by omega, by omega⟩
end
section
variable {P : Program} {w : World} {K : PySem.W.Frag} {mg : Str → Option Value} {base : Heap}
theorem ok_l_lowest {f : Addr} {fd : FuncData} (F : Fun K "_law_lowest" "_law_lowest" s_l_lowest f fd) (T : Tx K mg) : FnOk P w K mg base CX0 1 f fd P_l_lowest sp_fraction := by
  refine F.ok sc_l_lowest (fun vs H Q E h => ?_) (fun cdv A outer s H vs Q E hr h => ?_)
  · obtain ⟨a, b, rfl, _⟩ := h
    rfl
  · obtain ⟨t, b, rfl, hb, hl, q⟩ := h
    refine ⟨_, (pss_cons (ps_set (i := 2) sc_l_lowest.nd rfl (Or.inl rfl) (pe_callB cr_abs (by rfl) T.abs_ (by decide +kernel) (pa_cons (pv 0) pa_nil)))
  (pss_cons (ps_set (i := 3) sc_l_lowest.nd rfl (Or.inl rfl) (pe_callB cr_abs (by rfl) T.abs_ (by decide +kernel) (pa_cons (pv 1) pa_nil)))
  (pss_cons (ps_while PassesOwn.never (pt_cmpR op_ne (pv 3) pe_int (nomark _))
  (pss_one (ps_par (i := 2) (j := 3) rfl sc_l_lowest.nd rfl rfl (by decide) rfl rfl (pa_cons (pv 3) (pa_cons (pe_op op_modN (pv 2) (pv 3)) pa_nil)) rfl)))
  (pss_cons (ps_if (pt_cmpR op_lt (pv 1) pe_int (nomark _))
  (pss_one (ps_set (i := 2) sc_l_lowest.nd rfl (Or.inl rfl) (pe_op op_sub pe_int (pv 2))))
  pss_nil)
  (pss_one (ps_ret (pe_tup (pa_cons (pe_op op_fdivV (pv 0) (pv 2)) (pa_cons (pe_op op_fdivV (pv 1) (pv 2)) pa_nil))))))))), ?_⟩
    walk_at "k"
    walk_at "go"
    have hg := gcd_lt (t := t) hb hl
    have hp := gcd_pos' (t := t) hb
    refine while_by (fun σ H' => ∃ x y : Int, σ = [some (.int t), some (.int b), some (.int x), some (.int y)] ∧ H' = H ∧ Int.gcd x y = Int.gcd t b ∧ 0 ≤ x ∧ 0 ≤ y) (fun σ _ => match σ with | [_, _, _, some (.int y)] => y.natAbs | _ => 0)
      ⟨_, _, rfl, rfl, gcd_abs t b, by split <;> omega, by split <;> omega⟩ ?_ ?_
    · rintro σ H' ⟨x, y, rfl, rfl, e, x0, y0⟩
      walk_at "go"
      refine ifND (fun h => ?_) (fun h => ?_)
      · walk_at "go"
        refine g_modN h ?_
        walk_at "go"
        exact ⟨⟨y, x.fmod y, rfl, rfl, (gcd_fmod x y).trans e, y0, Int.fmod_nonneg x0 y0⟩, fmod_small x y h⟩
      · subst h
        have e0 : x = (Int.gcd t b : Int) := by rw [← e, Int.gcd_zero_right]; omega
        subst e0
        walk_at "go"
        refine ifD (fun h => ?_) (fun h => ?_)
        · walk_at "go"
          refine g_divV (divV 8500 (by omega) (by omega)) ?_
          walk_at "go"
          refine g_divV (divV 8500 (by omega) (by omega)) ?_
          walk_at "go"
          refine ⟨two_le, fun p np => ?_⟩
          have := q p np
          unfold FV at this
          rw [divInt_num t b hb, divInt_den t b hb, if_pos h, if_pos h] at this
          rw [Int.zero_sub]
          exact this
        · walk_at "go"
          refine g_divV (divV 8500 (by omega) (by omega)) ?_
          walk_at "go"
          refine g_divV (divV 8500 (by omega) (by omega)) ?_
          walk_at "go"
          refine ⟨two_le, fun p np => ?_⟩
          have := q p np
          unfold FV at this
          rw [divInt_num t b hb, divInt_den t b hb, if_neg h, if_neg h] at this
          exact this
    · intro σ H Q Q' h t
      obtain ⟨v, e1, i, k, e3, q⟩ := t
      exact ⟨v, e1, i, k, e3, h _ _ q⟩
theorem ok_l_figures {f : Addr} {fd : FuncData} (F : Fun K "_law_figures" "_law_figures" s_l_figures f fd) (T : Tx K mg) (c_l_take : Cal P w K mg base 1 "_law_take" (sp_take K) []) : FnOk P w K mg base CX0 2 f fd P_l_figures (sp_figures K) := by
  refine F.ok sc_l_figures (fun vs H Q E h => ?_) (fun cdv A outer s H vs Q E hr h => ?_)
  · obtain ⟨a, b, rfl, _⟩ := h
    rfl
  · obtain ⟨p, n, rfl, hp, hn, q⟩ := h
    refine ⟨_, (pss_cons (ps_set (i := 1) sc_l_figures.nd rfl (Or.inl rfl) pe_int)
  (pss_cons (ps_for PassesOwn.never rfl (pi_range1 (by rfl) T.range_ (pa_cons (pe_ix (k_ixL (K := K)) (pe_lst (pa_cons pe_int (pa_cons pe_int (pa_cons pe_int (pa_cons pe_int pa_nil))))) (pe_c c_l_take hr (by decide) rfl (pa_cons (pv 0) (pa_cons pe_int pa_nil))) (fun _ _ => rfl)) pa_nil)) (pg_name (i := 2) sc_l_figures.nd rfl (Or.inl rfl))
  (pss_one (ps_set (i := 1) sc_l_figures.nd rfl (Or.inl rfl) (pe_op op_add (pe_op op_mulW (pv 1) (pe_op op_pow pe_int pe_int)) (pe_c c_l_take hr (by decide) rfl (pa_cons (pv 0) (pa_cons (pe_op op_pow pe_int pe_int) pa_nil)))))))
  (pss_one (ps_ret (pe_op op_mod (pv 1) (pe_op op_pow pe_int pe_int)))))), ?_⟩
    walk_at "k"
    walk_at "go"
    refine ⟨by show 4 ≤ sizeLine; decide, fun l nl => ?_⟩
    walk_at "go"
    refine ⟨p, n, 4, rfl, hp.new nl, by omega, by decide, by decide, fun r H1 h0 h1 bt hp1 => ?_⟩
    have nlp : l ≠ p := fun e => by
      obtain ⟨xs, e2⟩ := hp.some
      rw [← e, nl] at e2; cases e2
    have hl : H1 l = some (.lst ([1, 2, 3, 5].map V.int)) := bt _ _ nlp upd_same
    obtain ⟨z, hz, hz1, hz2⟩ := atI_of (ns := [1, 2, 3, 5]) (fun z => 1 ≤ z ∧ z ≤ 5) h0 (by show r < 4; omega) (by decide)
    refine g_ixL (SqL.of hl) hz ?_
    walk_at "go"
    refine g_rng1 (by omega) ?_
    have bt0 : But p H H1 := (But.new nl).trans bt
    refine loop_range (fun i σ H' => ∃ (z : Int) (y : Option V), σ = [some (.ref p), some (.int z), y] ∧ 0 ≤ z ∧ z.natAbs < 2 ^ (31 * i) ∧ But p H H' ∧ Pool (n + 1 + i) H' p) ⟨0, none, rfl, by decide, by decide, bt0, hp1⟩ ?_ ?_
    · rintro i σ H2 hi ⟨z2, y, rfl, hz0, hzl, bt2, hp2⟩
      walk_at "go"
      refine g_mul (mulW (31 * i + 1) 40 (Nat.lt_of_lt_of_le hzl (Nat.pow_le_pow_right (by decide) (by omega))) (by decide) (by omega) (by decide) (by omega)) ?_
      walk_at "go"
      refine ⟨p, n + 1 + i, _, rfl, hp2, by omega, by decide, by decide, fun r2 H3 h02 h12 bt3 hp3 => ?_⟩
      walk_at "go"
      refine ⟨z2 * 1000000000 + r2, _, rfl, by omega, ?_, bt2.trans bt3, hp3.mono (by omega)⟩
      rw [Nat.mul_add, Nat.mul_one, Nat.pow_add]
      generalize 2 ^ (31 * i) = X at hzl
      omega
    · rintro σ H2 ⟨z2, y, rfl, hz0, hzl, bt2, hp2⟩
      walk_at "go"
      exact q _ _ (Int.emod_nonneg _ (by decide)) (Int.emod_lt_of_pos _ (by decide)) bt2 (hp2.mono (by omega))
theorem ok_l_q {f : Addr} {fd : FuncData} (F : Fun K "_law_q" "_law_q" s_l_q f fd) (T : Tx K mg) (c_l_take : Cal P w K mg base 1 "_law_take" (sp_take K) []) (c_l_lowest : Cal P w K mg base 1 "_law_lowest" sp_fraction []) (c_l_figures : Cal P w K mg base 2 "_law_figures" (sp_figures K) []) :
    FnOk P w K mg base CX0 3 f fd P_l_q (sp_q K) := by
  refine F.ok sc_l_q (fun vs H Q E h => ?_) (fun cdv A outer s H vs Q E hr h => ?_)
  · obtain ⟨a, b, rfl, _⟩ := h
    rfl
  · obtain ⟨p, n, rfl, hp, hn, q⟩ := h
    refine ⟨_, (pss_cons (ps_set (i := 1) sc_l_q.nd rfl (Or.inl rfl) (pe_op op_sub pe_int (pe_op op_mulW pe_int (pe_c c_l_take hr (by decide) rfl (pa_cons (pv 0) (pa_cons pe_int pa_nil))))))
  (pss_cons (ps_set (i := 2) sc_l_q.nd rfl (Or.inl rfl) (pe_c c_l_take hr (by decide) rfl (pa_cons (pv 0) (pa_cons pe_int pa_nil))))
  (pss_cons (ps_if (pt_cmpR op_eq (pv 2) pe_int (nomark _))
  (pss_one (ps_ret (pe_tup (pa_cons pe_int (pa_cons pe_int pa_nil)))))
  pss_nil)
  (pss_cons (ps_if (pt_cmpR op_lt (pv 2) pe_int (nomark _))
  (pss_one (ps_ret (pe_c c_l_lowest hr (by decide) rfl (pa_cons (pe_op op_mulW (pv 1) (pe_c c_l_take hr (by decide) rfl (pa_cons (pv 0) (pa_cons pe_int pa_nil)))) (pa_cons (pe_ix (k_ixL (K := K)) (pe_lst (pa_cons pe_int (pa_cons pe_int (pa_cons pe_int (pa_cons pe_int (pa_cons pe_int pa_nil)))))) (pe_c c_l_take hr (by decide) rfl (pa_cons (pv 0) (pa_cons pe_int pa_nil))) (fun _ _ => rfl)) pa_nil)))))
  pss_nil)
  (pss_one (ps_ret (pe_c c_l_lowest hr (by decide) rfl (pa_cons (pe_op op_mulW (pv 1) (pe_c c_l_figures hr (by decide) rfl (pa_cons (pv 0) pa_nil))) (pa_cons (pe_ix (k_ixL (K := K)) (pe_lst (pa_cons pe_int (pa_cons (pe_op op_add pe_int (pe_op op_mod (pe_c c_l_figures hr (by decide) rfl (pa_cons (pv 0) pa_nil)) (pe_op op_sub (pe_op op_pow pe_int pe_int) pe_int))) pa_nil))) (pe_op op_sub (pv 2) pe_int) (fun _ _ => rfl)) pa_nil))))))))), ?_⟩
    walk_at "k"
    walk_at "go"
    refine ⟨p, n, 2, rfl, hp, by omega, by decide, by decide, fun r1 H1 h0 h1 bt1 hp1 => ?_⟩
    walk_at "go"
    refine g_mul (mulW 64 64 (by decide) (by omega)) ?_
    walk_at "go"
    refine ⟨p, n + 1, 6, rfl, hp1, by omega, by decide, by decide, fun r2 H2 h02 h12 bt2 hp2 => ?_⟩
    walk_at "go"
    refine ifD (fun h => ?_) (fun h => ?_)
    · walk_at "go"
      refine ⟨two_le, fun a na => ?_⟩
      have ne := pool_ne hp2 na
      exact q a 0 _ (free_but (bt1.trans bt2) ne na) (Bd_zero (by decide)) ((bt1.trans bt2).newp na) ((hp2.new na).mono (by omega)) sqT_at
    · walk_at "go"
      refine ifD (fun h' => ?_) (fun h' => ?_)
      · walk_at "go"
        refine ⟨p, n + 2, 13, rfl, hp2, by omega, by decide, by decide, fun r3 H3 h03 h13 bt3 hp3 => ?_⟩
        refine g_mul (mulW 64 64 (by omega) (by omega)) ?_
        walk_at "go"
        refine ⟨by show 5 ≤ sizeLine; decide, fun l nl => ?_⟩
        walk_at "go"
        refine ⟨p, n + 3, 5, rfl, hp3.new nl, by omega, by decide, by decide, fun r4 H4 h04 h14 bt4 hp4 => ?_⟩
        have hl : H4 l = some (.lst ([1, 1, 2, 3, 6].map V.int)) := bt4 _ _ (pool_ne hp3 nl) upd_same
        obtain ⟨z, hz, hz1, hz2⟩ := atI_of (ns := [1, 1, 2, 3, 6]) (fun z => 1 ≤ z ∧ z ≤ 6) h04 (by show r4 < 5; omega) (by decide)
        refine g_ixL (SqL.of hl) hz ?_
        walk_at "go"
        refine ⟨_, z, rfl, by omega, Nat.lt_of_lt_of_le (show z.natAbs < 2 ^ 3 by omega) (Nat.pow_le_pow_right (by decide) (by decide)), fun a na => ?_⟩
        have btA := ((bt1.trans bt2).trans bt3).trans ((But.new nl).trans bt4)
        have b1 : ((1 - 2 * r1) * r3).natAbs < 2 ^ (67 + 67) := natAbs_mul_lt (by omega) (by omega)
        exact q a _ _ (free_but btA (pool_ne hp4 na) na) (Bd_divInt (by omega) b1 (by omega)) (btA.newp na) ((hp4.new na).mono (by omega)) sqT_at
      · walk_at "go"
        refine ⟨p, n + 2, rfl, hp2, by omega, fun r3 H3 h03 h13 bt3 hp3 => ?_⟩
        refine g_mul (mulW 64 134 (by omega) (by omega)) ?_
        walk_at "go"
        refine ⟨p, n + 12, rfl, hp3, by omega, fun r4 H4 h04 h14 bt4 hp4 => ?_⟩
        walk_at "go"
        refine ⟨two_le, fun l nl => ?_⟩
        walk_at "go"
        have e1 := Int.emod_nonneg r4 (b := 10 ^ 40 - 1) (by decide)
        have e2 := Int.emod_lt_of_pos r4 (b := 10 ^ 40 - 1) (by decide)
        obtain ⟨z, hz, hz1, hz2⟩ := atI_of (ns := [1, 1 + r4 % (10 ^ 40 - 1)]) (fun z => 1 ≤ z ∧ z ≤ 10 ^ 40) (k := r2 - 4) (by omega) (by show r2 - 4 < 2; omega) (by
          intro z hz
          simp only [List.mem_cons, List.not_mem_nil, or_false] at hz
          rcases hz with rfl | rfl <;> omega)
        refine g_ixL (SqL.of upd_same) hz ?_
        walk_at "go"
        refine ⟨_, z, rfl, by omega, Nat.lt_of_lt_of_le (show z.natAbs < 2 ^ 133 by omega) (Nat.pow_le_pow_right (by decide) (by decide)), fun a na => ?_⟩
        have btA := (((bt1.trans bt2).trans bt3).trans bt4)
        have b1 : ((1 - 2 * r1) * r3).natAbs < 2 ^ 134 := by
          have : r1 = 0 ∨ r1 = 1 := by omega
          rcases this with rfl | rfl <;> omega
        exact q a _ _ (free_but (btA.newp nl) (pool_ne (hp4.new nl) na) na) (Bd_divInt (by omega) b1 (by omega)) ((btA.newp nl).newp na) (((hp4.new nl).new na).mono (by omega)) sqT_at
end
section
variable {P : Program} {w : World} {K : PySem.W.Frag} {mg : Str → Option Value} {base : Heap}
/-- three fractions at hand: it is true -/
def sp_t3 (K : PySem.W.Frag) : Sp := fun vs H Q _ => ∃ (a b c : Addr) (x y z : Rat), vs = [.ref a, .ref b, .ref c] ∧ Fr K H a x ∧ Fr K H b y ∧ Fr K H c z ∧ Bd 134 x ∧ Bd 134 y ∧ Bd 134 z ∧ ∀ H', Same H H' → Q (.bl true) H'
abbrev c4 (P : Program) (w : World) (K : PySem.W.Frag) (mg : Str → Option Value) (base : Heap) (x : Str) (f : Rat → Rat → Rat) : Prop := Cal P w K mg base 3 x (sp2F K f fun _ _ => True) []
theorem ok_l_sums {f : Addr} {fd : FuncData} (F : Fun K "_law_sums" "_law_sums" s_l_sums f fd) (T : Tx K mg) (c_plus : Cal P w K mg base 3 "plus" (sp2F K (fun x y => x + y) fun _ _ => True) []) (c_minus : Cal P w K mg base 3 "minus" (sp2F K (fun x y => x - y) fun _ _ => True) []) (c_times : Cal P w K mg base 3 "times" (sp2F K (fun x y => x * y) fun _ _ => True) [])
    (c_divided : Cal P w K mg base 3 "divided" (sp2F K (fun x y => x / y) fun _ y => y ≠ 0) []) : FnOk P w K mg base CX0 4 f fd P_l_sums (sp_t3 K) := by
  refine F.ok sc_l_sums (fun vs H Q E h => ?_) (fun cdv A outer s H vs Q E hr h => ?_)
  · obtain ⟨a, b, c, x, y, z, rfl, _⟩ := h
    rfl
  · obtain ⟨a, b, c, x, y, z, rfl, hx, hy, hz, bx, bu, bz, q⟩ := h
    refine ⟨_, (pss_cons (ps_if (PW.pt (pw_or (pt_cmpR (k_neD (K := K) hr.units) (pe_c c_minus hr (by decide) rfl (pa_cons (pe_c c_plus hr (by decide) rfl (pa_cons (pv 0) (pa_cons (pv 1) pa_nil))) (pa_cons (pv 1) pa_nil))) (pv 0) (nomark _)) (pw_or (pt_cmpR (k_neD (K := K) hr.units) (pe_c c_plus hr (by decide) rfl (pa_cons (pe_c c_minus hr (by decide) rfl (pa_cons (pv 0) (pa_cons (pv 1) pa_nil))) (pa_cons (pv 1) pa_nil))) (pv 0) (nomark _)) (pw_or1 (pt_cmpR (k_neD (K := K) hr.units) (pe_c c_plus hr (by decide) rfl (pa_cons (pv 0) (pa_cons (pv 1) pa_nil))) (pe_c c_plus hr (by decide) rfl (pa_cons (pv 1) (pa_cons (pv 0) pa_nil))) (nomark _))))))
  (pss_one (ps_ret pe_bl))
  pss_nil)
  (pss_cons (ps_if (pt_cmpR (k_neD (K := K) hr.units) (pe_c c_plus hr (by decide) rfl (pa_cons (pe_c c_plus hr (by decide) rfl (pa_cons (pv 0) (pa_cons (pv 1) pa_nil))) (pa_cons (pv 2) pa_nil))) (pe_c c_plus hr (by decide) rfl (pa_cons (pv 0) (pa_cons (pe_c c_plus hr (by decide) rfl (pa_cons (pv 1) (pa_cons (pv 2) pa_nil))) pa_nil))) (nomark _))
  (pss_one (ps_ret pe_bl))
  pss_nil)
  (pss_cons (ps_if (PW.pt (pw_or (pt_cmpR (k_neD (K := K) hr.units) (pe_c c_times hr (by decide) rfl (pa_cons (pe_c c_times hr (by decide) rfl (pa_cons (pv 0) (pa_cons (pv 1) pa_nil))) (pa_cons (pv 2) pa_nil))) (pe_c c_times hr (by decide) rfl (pa_cons (pv 0) (pa_cons (pe_c c_times hr (by decide) rfl (pa_cons (pv 1) (pa_cons (pv 2) pa_nil))) pa_nil))) (nomark _)) (pw_or1 (pt_cmpR (k_neD (K := K) hr.units) (pe_c c_times hr (by decide) rfl (pa_cons (pv 0) (pa_cons (pv 1) pa_nil))) (pe_c c_times hr (by decide) rfl (pa_cons (pv 1) (pa_cons (pv 0) pa_nil))) (nomark _)))))
  (pss_one (ps_ret pe_bl))
  pss_nil)
  (pss_cons (ps_if (pt_cmpR (k_neD (K := K) hr.units) (pe_c c_times hr (by decide) rfl (pa_cons (pv 0) (pa_cons (pe_c c_plus hr (by decide) rfl (pa_cons (pv 1) (pa_cons (pv 2) pa_nil))) pa_nil))) (pe_c c_plus hr (by decide) rfl (pa_cons (pe_c c_times hr (by decide) rfl (pa_cons (pv 0) (pa_cons (pv 1) pa_nil))) (pa_cons (pe_c c_times hr (by decide) rfl (pa_cons (pv 0) (pa_cons (pv 2) pa_nil))) pa_nil))) (nomark _))
  (pss_one (ps_ret pe_bl))
  pss_nil)
  (pss_cons (ps_if (pt_cmpR op_eq (pe_ix (k_ixT (K := K)) (pv 1) pe_int (fun _ _ => rfl)) pe_int (nomark _))
  (pss_one (ps_ret pe_bl))
  pss_nil)
  (pss_one (ps_ret (pe_and (pe_cmpR (k_eqD (K := K) hr.units) (pe_c c_divided hr (by decide) rfl (pa_cons (pe_c c_times hr (by decide) rfl (pa_cons (pv 0) (pa_cons (pv 1) pa_nil))) (pa_cons (pv 1) pa_nil))) (pv 0) (nomark _)) (pe_one (pe_cmpR (k_eqD (K := K) hr.units) (pe_c c_times hr (by decide) rfl (pa_cons (pe_c c_divided hr (by decide) rfl (pa_cons (pv 0) (pa_cons (pv 1) pa_nil))) (pa_cons (pv 1) pa_nil))) (pv 0) (nomark _))))))))))), ?_⟩
    walk_at "god"
    refine ifD (fun h => ?_) (fun h => ?_)
    · walk_at "god"
      exact q _ (by walk_at "same")
    · have h0 : y ≠ 0 := fun z => h (by rw [z]; rfl)
      walk_at "god"
      refine fin_eq (by grind) (q _ (by walk_at "same"))
theorem ok_l_three_right {f : Addr} {fd : FuncData} (F : Fun K "_law_three_right" "_law_three_right" s_l_three_right f fd) (T : Tx K mg) (c_plus : Cal P w K mg base 3 "plus" (sp2F K (fun x y => x + y) fun _ _ => True) []) (c_minus : Cal P w K mg base 3 "minus" (sp2F K (fun x y => x - y) fun _ _ => True) []) (c_times : Cal P w K mg base 3 "times" (sp2F K (fun x y => x * y) fun _ _ => True) [])
    (c_divided : Cal P w K mg base 3 "divided" (sp2F K (fun x y => x / y) fun _ y => y ≠ 0) []) (c_l_lowest : Cal P w K mg base 1 "_law_lowest" sp_fraction []) : FnOk P w K mg base CX0 4 f fd P_l_three_right (sp_t3 K) := by
  refine F.ok sc_l_three_right (fun vs H Q E h => ?_) (fun cdv A outer s H vs Q E hr h => ?_)
  · obtain ⟨a, b, c, x, y, z, rfl, _⟩ := h
    rfl
  · obtain ⟨a, b, c, x, y, z, rfl, hx, hy, hz, bx, bu, bz, q⟩ := h
    refine ⟨_, (pss_cons (ps_set (i := 3) sc_l_three_right.nd rfl (Or.inl rfl) (pe_op op_mulW (pe_op op_mulW (pe_ix (k_ixT (K := K)) (pv 0) pe_int (fun _ _ => rfl)) (pe_ix (k_ixT (K := K)) (pv 1) pe_int (fun _ _ => rfl))) (pe_ix (k_ixT (K := K)) (pv 2) pe_int (fun _ _ => rfl))))
  (pss_cons (ps_set (i := 4) sc_l_three_right.nd rfl (Or.inl rfl) (pe_op op_mulW (pe_op op_mulW (pe_ix (k_ixT (K := K)) (pv 0) pe_int (fun _ _ => rfl)) (pe_ix (k_ixT (K := K)) (pv 1) pe_int (fun _ _ => rfl))) (pe_ix (k_ixT (K := K)) (pv 2) pe_int (fun _ _ => rfl))))
  (pss_cons (ps_set (i := 5) sc_l_three_right.nd rfl (Or.inl rfl) (pe_op op_mulW (pe_op op_mulW (pe_ix (k_ixT (K := K)) (pv 1) pe_int (fun _ _ => rfl)) (pe_ix (k_ixT (K := K)) (pv 0) pe_int (fun _ _ => rfl))) (pe_ix (k_ixT (K := K)) (pv 2) pe_int (fun _ _ => rfl))))
  (pss_cons (ps_set (i := 6) sc_l_three_right.nd rfl (Or.inl rfl) (pe_op op_mulW (pe_op op_mulW (pe_ix (k_ixT (K := K)) (pv 2) pe_int (fun _ _ => rfl)) (pe_ix (k_ixT (K := K)) (pv 0) pe_int (fun _ _ => rfl))) (pe_ix (k_ixT (K := K)) (pv 1) pe_int (fun _ _ => rfl))))
  (pss_cons (ps_if (pt_cmpR (k_neD (K := K) hr.units) (pe_c c_plus hr (by decide) rfl (pa_cons (pe_c c_plus hr (by decide) rfl (pa_cons (pv 0) (pa_cons (pv 1) pa_nil))) (pa_cons (pv 2) pa_nil))) (pe_c c_l_lowest hr (by decide) rfl (pa_cons (pe_op op_add (pe_op op_add (pv 4) (pv 5)) (pv 6)) (pa_cons (pv 3) pa_nil))) (nomark _))
  (pss_one (ps_ret pe_bl))
  pss_nil)
  (pss_cons (ps_if (pt_cmpR (k_neD (K := K) hr.units) (pe_c c_minus hr (by decide) rfl (pa_cons (pe_c c_minus hr (by decide) rfl (pa_cons (pv 0) (pa_cons (pv 1) pa_nil))) (pa_cons (pv 2) pa_nil))) (pe_c c_l_lowest hr (by decide) rfl (pa_cons (pe_op op_sub (pe_op op_sub (pv 4) (pv 5)) (pv 6)) (pa_cons (pv 3) pa_nil))) (nomark _))
  (pss_one (ps_ret pe_bl))
  pss_nil)
  (pss_cons (ps_if (pt_cmpR (k_neD (K := K) hr.units) (pe_c c_minus hr (by decide) rfl (pa_cons (pv 0) (pa_cons (pe_c c_minus hr (by decide) rfl (pa_cons (pv 1) (pa_cons (pv 2) pa_nil))) pa_nil))) (pe_c c_l_lowest hr (by decide) rfl (pa_cons (pe_op op_add (pe_op op_sub (pv 4) (pv 5)) (pv 6)) (pa_cons (pv 3) pa_nil))) (nomark _))
  (pss_one (ps_ret pe_bl))
  pss_nil)
  (pss_cons (ps_if (pt_cmpR (k_neD (K := K) hr.units) (pe_c c_times hr (by decide) rfl (pa_cons (pe_c c_times hr (by decide) rfl (pa_cons (pv 0) (pa_cons (pv 1) pa_nil))) (pa_cons (pv 2) pa_nil))) (pe_c c_l_lowest hr (by decide) rfl (pa_cons (pe_op op_mulW (pe_op op_mulW (pe_ix (k_ixT (K := K)) (pv 0) pe_int (fun _ _ => rfl)) (pe_ix (k_ixT (K := K)) (pv 1) pe_int (fun _ _ => rfl))) (pe_ix (k_ixT (K := K)) (pv 2) pe_int (fun _ _ => rfl))) (pa_cons (pv 3) pa_nil))) (nomark _))
  (pss_one (ps_ret pe_bl))
  pss_nil)
  (pss_cons (ps_if (PW.pt (pw_or (pt_cmpR op_eq (pe_ix (k_ixT (K := K)) (pv 1) pe_int (fun _ _ => rfl)) pe_int (nomark _)) (pw_or1 (pt_cmpR op_eq (pe_ix (k_ixT (K := K)) (pv 2) pe_int (fun _ _ => rfl)) pe_int (nomark _)))))
  (pss_one (ps_ret pe_bl))
  pss_nil)
  (pss_cons (ps_if (pt_cmpR (k_neD (K := K) hr.units) (pe_c c_divided hr (by decide) rfl (pa_cons (pv 0) (pa_cons (pe_c c_divided hr (by decide) rfl (pa_cons (pv 1) (pa_cons (pv 2) pa_nil))) pa_nil))) (pe_c c_l_lowest hr (by decide) rfl (pa_cons (pe_op op_mulW (pe_op op_mulW (pe_ix (k_ixT (K := K)) (pv 0) pe_int (fun _ _ => rfl)) (pe_ix (k_ixT (K := K)) (pv 1) pe_int (fun _ _ => rfl))) (pe_ix (k_ixT (K := K)) (pv 2) pe_int (fun _ _ => rfl))) (pa_cons (pe_op op_mulW (pe_op op_mulW (pe_ix (k_ixT (K := K)) (pv 0) pe_int (fun _ _ => rfl)) (pe_ix (k_ixT (K := K)) (pv 1) pe_int (fun _ _ => rfl))) (pe_ix (k_ixT (K := K)) (pv 2) pe_int (fun _ _ => rfl))) pa_nil))) (nomark _))
  (pss_one (ps_ret pe_bl))
  pss_nil)
  (pss_one (ps_ret (pe_cmpR (k_eqD (K := K) hr.units) (pe_c c_divided hr (by decide) rfl (pa_cons (pe_c c_divided hr (by decide) rfl (pa_cons (pv 0) (pa_cons (pv 1) pa_nil))) (pa_cons (pv 2) pa_nil))) (pe_c c_l_lowest hr (by decide) rfl (pa_cons (pe_op op_mulW (pe_op op_mulW (pe_ix (k_ixT (K := K)) (pv 0) pe_int (fun _ _ => rfl)) (pe_ix (k_ixT (K := K)) (pv 1) pe_int (fun _ _ => rfl))) (pe_ix (k_ixT (K := K)) (pv 2) pe_int (fun _ _ => rfl))) (pa_cons (pe_op op_mulW (pe_op op_mulW (pe_ix (k_ixT (K := K)) (pv 0) pe_int (fun _ _ => rfl)) (pe_ix (k_ixT (K := K)) (pv 1) pe_int (fun _ _ => rfl))) (pe_ix (k_ixT (K := K)) (pv 2) pe_int (fun _ _ => rfl))) pa_nil))) (nomark _)))))))))))))), ?_⟩
    walk_at "god"
    refine ifD (fun h => ?_) (fun h => ?_)
    · walk_at "god"
      exact q _ (by walk_at "same")
    walk_at "god"
    refine ifD (fun h' => ?_) (fun h' => ?_)
    · walk_at "god"
      exact q _ (by walk_at "same")
    have h0 : y ≠ 0 := fun z => h (by rw [z]; rfl)
    have h1 : z ≠ 0 := fun z => h' (by rw [z]; rfl)
    walk_at "god"
    refine fin_eq (by walk_at "known") (q _ (by walk_at "same"))
theorem ok_l_told_again {f : Addr} {fd : FuncData} (F : Fun K "_law_told_again" "_law_told_again" s_l_told_again f fd) (T : Tx K mg) (c_fraction : Cal P w K mg base 2 "fraction" sp_fraction []) (c_plus : Cal P w K mg base 3 "plus" (sp2F K (fun x y => x + y) fun _ _ => True) []) (c_minus : Cal P w K mg base 3 "minus" (sp2F K (fun x y => x - y) fun _ _ => True) []) (c_times : Cal P w K mg base 3 "times" (sp2F K (fun x y => x * y) fun _ _ => True) [])
    (c_divided : Cal P w K mg base 3 "divided" (sp2F K (fun x y => x / y) fun _ y => y ≠ 0) []) : FnOk P w K mg base CX0 4 f fd P_l_told_again (sp_t3 K) := by
  refine F.ok sc_l_told_again (fun vs H Q E h => ?_) (fun cdv A outer s H vs Q E hr h => ?_)
  · obtain ⟨a, b, c, x, y, z, rfl, _⟩ := h
    rfl
  · obtain ⟨a, b, c, x, y, z, rfl, hx, hy, hz, bx, bu, bz, q⟩ := h
    refine ⟨_, (pss_cons (ps_set (i := 3) sc_l_told_again.nd rfl (Or.inl rfl) (pe_c c_plus hr (by decide) rfl (pa_cons (pv 0) (pa_cons (pv 1) pa_nil))))
  (pss_cons (ps_if (PW.pt (pw_or (pt_cmpR (k_neD (K := K) hr.units) (pe_c c_minus hr (by decide) rfl (pa_cons (pv 2) (pa_cons (pv 3) pa_nil))) (pe_c c_minus hr (by decide) rfl (pa_cons (pe_c c_minus hr (by decide) rfl (pa_cons (pv 2) (pa_cons (pv 0) pa_nil))) (pa_cons (pv 1) pa_nil))) (nomark _)) (pw_or1 (pt_cmpR (k_neD (K := K) hr.units) (pe_c c_fraction hr (by decide) rfl (pa_cons (pe_ix (k_ixT (K := K)) (pv 3) pe_int (fun _ _ => rfl)) (pa_cons (pe_ix (k_ixT (K := K)) (pv 3) pe_int (fun _ _ => rfl)) pa_nil))) (pv 3) (nomark _)))))
  (pss_one (ps_ret pe_bl))
  pss_nil)
  (pss_cons (ps_if (pt_cmpR (k_neD (K := K) hr.units) (pe_c c_times hr (by decide) rfl (pa_cons (pv 3) (pa_cons (pe_c c_minus hr (by decide) rfl (pa_cons (pv 0) (pa_cons (pv 1) pa_nil))) pa_nil))) (pe_c c_minus hr (by decide) rfl (pa_cons (pe_c c_times hr (by decide) rfl (pa_cons (pv 0) (pa_cons (pv 0) pa_nil))) (pa_cons (pe_c c_times hr (by decide) rfl (pa_cons (pv 1) (pa_cons (pv 1) pa_nil))) pa_nil))) (nomark _))
  (pss_one (ps_ret pe_bl))
  pss_nil)
  (C8.pss_cut (ps_if (PW.pt (pw_and (pt_cmpR op_ne (pe_ix (k_ixT (K := K)) (pv 3) pe_int (fun _ _ => rfl)) pe_int (nomark _)) (pw_and1 (PW.pt (pw_or (pt_cmpR (k_neD (K := K) hr.units) (pe_c c_fraction hr (by decide) rfl (pa_cons (pe_ix (k_ixT (K := K)) (pv 3) pe_int (fun _ _ => rfl)) (pa_cons (pe_ix (k_ixT (K := K)) (pv 3) pe_int (fun _ _ => rfl)) pa_nil))) (pe_tup (pa_cons pe_int (pa_cons pe_int pa_nil))) (nomark _)) (pw_or1 (pt_cmpR (k_neD (K := K) hr.units) (pe_c c_divided hr (by decide) rfl (pa_cons (pv 3) (pa_cons (pv 3) pa_nil))) (pe_tup (pa_cons pe_int (pa_cons pe_int pa_nil))) (nomark _))))))))
  (pss_one (ps_ret pe_bl))
  pss_nil)
  (pss_cons (ps_if (PW.pt (pw_or (pt_cmpR op_eq (pe_ix (k_ixT (K := K)) (pv 0) pe_int (fun _ _ => rfl)) pe_int (nomark _)) (pw_or1 (pt_cmpR op_eq (pe_ix (k_ixT (K := K)) (pv 1) pe_int (fun _ _ => rfl)) pe_int (nomark _)))))
  (pss_one (ps_ret pe_bl))
  pss_nil)
  (pss_one (ps_ret (pe_cmpR (k_eqD (K := K) hr.units) (pe_c c_divided hr (by decide) rfl (pa_cons (pv 2) (pa_cons (pe_c c_times hr (by decide) rfl (pa_cons (pv 0) (pa_cons (pv 1) pa_nil))) pa_nil))) (pe_c c_divided hr (by decide) rfl (pa_cons (pe_c c_divided hr (by decide) rfl (pa_cons (pv 2) (pa_cons (pv 0) pa_nil))) (pa_cons (pv 1) pa_nil))) (nomark _))))))))), ?_⟩
    have bxy := Bd_add bx bu
    walk_at "god"
    refine g_cut (fun σ H' => Same H H' ∧ ∃ v, σ = [some (.ref a), some (.ref b), some (.ref c), v]) ?_ ?_
    · walk_at "god"
      refine ifND (fun h => ?_) (fun h => ?_)
      · have h0 : x + y ≠ 0 := fun z => h (by rw [z]; rfl)
        walk_at "god"
        exact ⟨by walk_at "same", _, rfl⟩
      · walk_at "god"
        exact ⟨by walk_at "same", _, rfl⟩
    · rintro σ H1 ⟨s1, v, rfl⟩
      walk_at "god"
      refine ifD (fun h => ?_) (fun h => ?_)
      · walk_at "god"
        exact q _ (by walk_at "same")
      walk_at "god"
      refine ifD (fun h' => ?_) (fun h' => ?_)
      · walk_at "god"
        exact q _ (by walk_at "same")
      have h0 : x ≠ 0 := fun z => h (by rw [z]; rfl)
      have h1 : y ≠ 0 := fun z => h' (by rw [z]; rfl)
      have h2 : x * y ≠ 0 := by grind
      walk_at "god"
      refine fin_eq (by walk_at "known") (q _ (by walk_at "same"))
theorem ok_l_order {f : Addr} {fd : FuncData} (F : Fun K "_law_order" "_law_order" s_l_order f fd) (T : Tx K mg) (c_plus : Cal P w K mg base 3 "plus" (sp2F K (fun x y => x + y) fun _ _ => True) []) (c_minus : Cal P w K mg base 3 "minus" (sp2F K (fun x y => x - y) fun _ _ => True) []) (c_times : Cal P w K mg base 3 "times" (sp2F K (fun x y => x * y) fun _ _ => True) [])
    (c_is_below : Cal P w K mg base 1 "is_below" (sp_below K) []) : FnOk P w K mg base CX0 4 f fd P_l_order (sp_t3 K) := by
  refine F.ok sc_l_order (fun vs H Q E h => ?_) (fun cdv A outer s H vs Q E hr h => ?_)
  · obtain ⟨a, b, c, x, y, z, rfl, _⟩ := h
    rfl
  · obtain ⟨a, b, c, x, y, z, rfl, hx, hy, hz, bx, bu, bz, q⟩ := h
    refine ⟨_, (pss_cons (ps_set (i := 3) sc_l_order.nd rfl (Or.inl rfl) (pe_c c_is_below hr (by decide) rfl (pa_cons (pv 0) (pa_cons (pv 1) pa_nil))))
  (pss_cons (ps_set (i := 4) sc_l_order.nd rfl (Or.inl rfl) (pe_c c_is_below hr (by decide) rfl (pa_cons (pv 1) (pa_cons (pv 0) pa_nil))))
  (pss_cons (ps_if (PW.pt (pw_or (PW.pt (pw_and (pt_val (pv 3)) (pw_and1 (pt_val (pv 4))))) (pw_or1 (pt_cmpR op_ne (pe_cmpR (k_neD (K := K) hr.units) (pv 0) (pv 1) (nomark _)) (pe_or (pv 3) (pe_one (pv 4))) (nomark _)))))
  (pss_one (ps_ret pe_bl))
  pss_nil)
  (pss_cons (ps_if (PW.pt (pw_or (pt_cmpR op_ne (pe_c c_is_below hr (by decide) rfl (pa_cons (pe_c c_plus hr (by decide) rfl (pa_cons (pv 0) (pa_cons (pv 2) pa_nil))) (pa_cons (pe_c c_plus hr (by decide) rfl (pa_cons (pv 1) (pa_cons (pv 2) pa_nil))) pa_nil))) (pv 3) (nomark _)) (pw_or1 (pt_cmpR op_ne (pe_c c_is_below hr (by decide) rfl (pa_cons (pe_c c_minus hr (by decide) rfl (pa_cons (pv 0) (pa_cons (pv 1) pa_nil))) (pa_cons (pe_tup (pa_cons pe_int (pa_cons pe_int pa_nil))) pa_nil))) (pv 3) (nomark _)))))
  (pss_one (ps_ret pe_bl))
  pss_nil)
  (pss_cons (ps_if (pt_cmpR op_gt (pe_ix (k_ixT (K := K)) (pv 2) pe_int (fun _ _ => rfl)) pe_int (nomark _))
  (pss_one (ps_ret (pe_cmpR op_eq (pe_c c_is_below hr (by decide) rfl (pa_cons (pe_c c_times hr (by decide) rfl (pa_cons (pv 0) (pa_cons (pv 2) pa_nil))) (pa_cons (pe_c c_times hr (by decide) rfl (pa_cons (pv 1) (pa_cons (pv 2) pa_nil))) pa_nil))) (pv 3) (nomark _))))
  pss_nil)
  (pss_one (ps_ret (pe_or (pe_cmpR op_eq (pe_ix (k_ixT (K := K)) (pv 2) pe_int (fun _ _ => rfl)) pe_int (nomark _)) (pe_one (pe_cmpR op_eq (pe_c c_is_below hr (by decide) rfl (pa_cons (pe_c c_times hr (by decide) rfl (pa_cons (pv 0) (pa_cons (pv 2) pa_nil))) (pa_cons (pe_c c_times hr (by decide) rfl (pa_cons (pv 1) (pa_cons (pv 2) pa_nil))) pa_nil))) (pv 4) (nomark _))))))))))), ?_⟩
    have e1 : decide (x + z < y + z) = decide (x < y) := by rw [decide_eq_decide]; grind
    have e2 : decide (x - y < 0) = decide (x < y) := by rw [decide_eq_decide]; grind
    have e3 : 0 < z.num → decide (x * z < y * z) = decide (x < y) := fun h => by
      have h0 : 0 < z := rat_num_pos.mp h
      rw [decide_eq_decide]; exact Rat.mul_lt_mul_right h0
    have e4 : ¬ 0 < z.num → z.num ≠ 0 → decide (x * z < y * z) = decide (y < x) := fun h h' => by
      have h0 : z < 0 := by
        have h1 : z ≠ 0 := fun e => h' (by rw [e]; rfl)
        have h2 : ¬ 0 < z := fun e => h (rat_num_pos.mpr e)
        grind
      have h1 : 0 < -z := by grind
      rw [decide_eq_decide]
      have := Rat.mul_lt_mul_right (a := y) (b := x) h1
      constructor
      · intro e; apply this.mp; grind
      · intro e; have := this.mpr e; grind
    walk_at "god"
    rcases (show x < y ∨ x = y ∨ y < x by grind) with h | h | h
    all_goals
      walk_at "goe"
      refine ifD (fun h => ?_) (fun h => ?_)
      · walk_at "goe"
        refine fin_eq (e3 h) (q _ (by walk_at "same"))
      · walk_at "goe"
        refine ifD (fun h' => ?_) (fun h' => ?_)
        · exact q _ (by walk_at "same")
        · walk_at "goe"
          refine fin_eq (e4 h h') (q _ (by walk_at "same"))
def sp_long (K : PySem.W.Frag) : Sp := fun vs H Q _ => ∃ (p : Addr) (n : Nat), vs = [.ref p] ∧ Pool n H p ∧ n ≤ 2 ^ 50 ∧ ∀ H', Q (.bl true) H'
theorem ok_l_long_right {f : Addr} {fd : FuncData} (F : Fun K "_law_long_right" "_law_long_right" s_l_long_right f fd) (T : Tx K mg) (c_plus : Cal P w K mg base 3 "plus" (sp2F K (fun x y => x + y) fun _ _ => True) []) (c_minus : Cal P w K mg base 3 "minus" (sp2F K (fun x y => x - y) fun _ _ => True) [])
    (c_l_lowest : Cal P w K mg base 1 "_law_lowest" sp_fraction []) (c_l_q : Cal P w K mg base 3 "_law_q" (sp_q K) []) : FnOk P w K mg base CX0 4 f fd P_l_long_right (sp_long K) := by
  refine F.ok sc_l_long_right (fun vs H Q E h => ?_) (fun cdv A outer s H vs Q E hr h => ?_)
  · obtain ⟨a, n, rfl, _⟩ := h
    rfl
  · obtain ⟨p, n, rfl, hp, hn, q⟩ := h
    refine ⟨_, (pss_cons (ps_setLc (i := 1) (own := [("turn", 2)]) (g := gName 2) (tt := tYes) rfl sc_l_long_right.nd rfl rfl (sw_true rfl rfl rfl (by decide +kernel)) (pi_range1 (by rfl) T.range_ (pa_cons pe_int pa_nil)) (blkOk_by (own := [("turn", 2)]) (N := N_l_long_right) (sc := defScope s_l_long_right) (by decide +kernel)) (fun _ _ _ _ _ => (pg_name (i := 2) sc_l_long_right.nd rfl (Or.inl rfl))) (fun _ _ _ _ _ => pts_nil) (fun _ _ _ _ _ => (pe_c c_l_q hr (by decide) rfl (pa_cons (pv 0) pa_nil))))
  (pss_cons (ps_set (i := 3) sc_l_long_right.nd rfl (Or.inl rfl) (pe_tup (pa_cons pe_int (pa_cons pe_int pa_nil))))
  (pss_cons (ps_set (i := 4) sc_l_long_right.nd rfl (Or.inl rfl) pe_int)
  (pss_cons (ps_set (i := 5) sc_l_long_right.nd rfl (Or.inl rfl) pe_int)
  (pss_cons (ps_for PassesOwn.never rfl (k_piL (K := K) (pv 1)) (pg_name (i := 6) sc_l_long_right.nd rfl (Or.inl rfl))
  (pss_cons (ps_set (i := 3) sc_l_long_right.nd rfl (Or.inl rfl) (pe_c c_plus hr (by decide) rfl (pa_cons (pv 3) (pa_cons (pv 6) pa_nil))))
  (pss_cons (ps_set (i := 4) sc_l_long_right.nd rfl (Or.inl rfl) (pe_op op_add (pe_op op_mulW (pv 4) (pe_ix (k_ixT (K := K)) (pv 6) pe_int (fun _ _ => rfl))) (pe_op op_mulW (pe_ix (k_ixT (K := K)) (pv 6) pe_int (fun _ _ => rfl)) (pv 5))))
  (pss_cons (ps_set (i := 5) sc_l_long_right.nd rfl (Or.inl rfl) (pe_op op_mulW (pv 5) (pe_ix (k_ixT (K := K)) (pv 6) pe_int (fun _ _ => rfl))))
  (pss_one (ps_if (pt_cmpR (k_neD (K := K) hr.units) (pv 3) (pe_c c_l_lowest hr (by decide) rfl (pa_cons (pv 4) (pa_cons (pv 5) pa_nil))) (nomark _))
  (pss_one (ps_ret pe_bl))
  pss_nil))))))
  (pss_cons (ps_for PassesOwn.never rfl (k_piL (K := K) (pv 1)) (pg_name (i := 6) sc_l_long_right.nd rfl (Or.inl rfl))
  (pss_one (ps_set (i := 3) sc_l_long_right.nd rfl (Or.inl rfl) (pe_c c_minus hr (by decide) rfl (pa_cons (pv 3) (pa_cons (pv 6) pa_nil))))))
  (pss_one (ps_ret (pe_cmpR (k_eqD (K := K) hr.units) (pv 3) (pe_tup (pa_cons pe_int (pa_cons pe_int pa_nil))) (nomark _)))))))))), ?_⟩
    walk_at "go"
    refine g_rng1 (by decide) ?_
    intro L nL
    have neL := pool_ne hp nL
    refine lcl_range (fun i H' => ∃ vs xs, H' L = some (.lst vs) ∧ Frs K H' vs xs ∧ (∀ x ∈ xs, Bd 134 x) ∧ xs.length = i ∧ Pool (n + 40 * i) H' p) ⟨[], [], upd_same, True.intro, (fun _ h => by cases h), rfl, hp.new nL⟩ ?_ ?_
    · rintro i H' hi ⟨vs, xs, eL, fr, bd, ln, hp'⟩
      walk_at "go"
      refine ⟨rfl, ?_⟩
      walk_at "go"
      refine ⟨p, _, rfl, hp', by omega, fun a x H2 na bx bt hp2 hx => ?_⟩
      refine ⟨vs, bt _ _ neL eL, sz_lt (by rw [fr.len]; omega), vs ++ [.ref a], xs ++ [x], upd_same, ?_, ?_, by simp [ln], ?_⟩
      · exact Frs.ts (ts_mut (bt _ _ neL eL)) (Frs.snoc hx (Frs.ts (ts_pool bt hp') fr))
      · intro z hz
        rcases List.mem_append.mp hz with h | h
        · exact bd z h
        · rw [List.mem_singleton.mp h]; exact bx
      · obtain ⟨a1, b1, c1, e1, r1, r2⟩ := hp2
        exact ⟨a1, b1, c1, by rw [upd_ne neL.symm]; exact e1, r1, by omega⟩
    · rintro H' ⟨vs, xs, eL, fr, bd, ln, hp'⟩
      walk_at "go"
      refine ⟨two_le, fun z nz => ?_⟩
      walk_at "go"
      have ln : xs.length = 12 := ln
      have lv : vs.length = 12 := by rw [fr.len, ln]
      have eL' : (upd H' z (.tup [.int 0, .int 1])) L = some (.lst vs) := same_new nz _ _ eL
      have fr' : Frs K (upd H' z (.tup [.int 0, .int 1])) vs xs := Frs.ts (ts_new nz) fr
      have hz : Fr K (upd H' z (.tup [.int 0, .int 1])) z 0 := fr_zero_at
      generalize (upd H' z (.tup [.int 0, .int 1])) = H1 at eL' fr' hz
      walk_at "go"
      refine g_ilR (SqL.of eL') ?_
      refine loop_list (K := K) (a := L) (xs := vs) (fun i σ H2 => ∃ sa t b y, σ = [some (.ref p), some (.ref L), none, some (.ref sa), some (.int t), some (.int b), y] ∧ Same H1 H2 ∧ Fr K H2 sa (sumT xs i) ∧ Bd (135 * i + 1) (sumT xs i) ∧ b ≠ 0 ∧ sumT xs i = Rat.divInt t b ∧ IB (136 * i + 2) t ∧ IB (136 * i + 2) b)
        ⟨z, 0, 1, none, rfl, Same.refl _, hz, Bd_zero (by decide), by decide, (show (0 : Rat) = Rat.divInt 0 1 by decide +kernel), (show (0 : Int).natAbs < 2 ^ 2 by decide), (show (1 : Int).natAbs < 2 ^ 2 by decide)⟩ (fun i σ H2 _ ⟨sa, t, b, y, _, s2, _⟩ => SqL.of (s2 _ _ eL')) ?_ ?_
      · rintro i v σ H2 hv ⟨sa, t, b, y, rfl, s2, hS, bS, hb, eS, it, ib⟩
        obtain ⟨a, x, rfl, hx, fx0⟩ := fr'.get hv
        have fx := sqT_same s2 fx0
        have bx := bd x (mem_of_at hx)
        have hi : i < 12 := by rw [← ln]; exact (List.getElem?_eq_some_iff.mp hx).1
        have e1 : sumT xs (i + 1) = sumT xs i + x := by show _ + _ = _; rw [getD_of hx]
        have b1 : Bd (135 * (i + 1) + 1) (sumT xs (i + 1)) := by rw [e1]; exact (Bd_add bS bx).mono (by omega)
        walk_at "go"
        refine g_plus hS fx (bS.mono (by omega)) (bx.mono (by decide)) (fun c nc => ?_)
        rw [← e1]
        have fc : Fr K (upd H2 c (.tup (FV (sumT xs (i + 1))))) c (sumT xs (i + 1)) := sqT_at
        walk_at "go"
        refine g_mul (IB.mulW it (IB.den bx) (by omega)) ?_
        walk_at "go"
        refine g_mul (IB.mulW (IB.num bx) ib (by omega)) ?_
        walk_at "go"
        refine g_mul (IB.mulW ib (IB.den bx) (by omega)) ?_
        walk_at "go"
        have nb : b * (x.den : Int) ≠ 0 := Int.mul_ne_zero hb (den_ne x)
        have ibb : IB (136 * (i + 1) + 2) (b * (x.den : Int)) := (ib.mul (IB.den bx)).mono (by omega)
        refine g_frac nb (ibb.mono (by omega)) (fun d nd => ?_)
        refine g_neF (sqT_new nd fc) sqT_at ?_
        walk_at "go"
        have eq : sumT xs (i + 1) = Rat.divInt (t * (x.den : Int) + x.num * b) (b * (x.den : Int)) := by
          rw [e1, eS]
          have hb' : ((b : Int) : Rat) ≠ 0 := fun z => hb (by exact_mod_cast z)
          simp only [Rat.divInt_eq_div, Rat.intCast_add, Rat.intCast_mul, num_cast]
          have := den_cast x
          grind
        refine ifN_known eq ?_
        walk_at "go"
        exact ⟨c, _, _, _, rfl, by walk_at "same", sqT_new nd fc, b1, nb, eq, ((it.mul (IB.den bx)).add ((IB.num bx).mul ib)).mono (by omega), ibb⟩
      · rintro σ H2 ⟨sa, t, b, y, rfl, s2, hS, bS, hb, eS, it, ib⟩
        walk_at "go"
        refine g_ilR (SqL.of (s2 _ _ eL')) ?_
        rw [lv] at bS eS hS
        refine loop_list (K := K) (a := L) (xs := vs) (fun i σ H3 => ∃ sa y, σ = [some (.ref p), some (.ref L), none, some (.ref sa), some (.int t), some (.int b), y] ∧ Same H1 H3 ∧ Fr K H3 sa (sumT xs 12 - sumT xs i) ∧ Bd (135 * (i + 12) + 1) (sumT xs 12 - sumT xs i))
          ⟨sa, y, rfl, s2, by show Fr K H2 sa (sumT xs 12 - 0); rw [show sumT xs 12 - 0 = sumT xs 12 by grind]; exact hS, by show Bd _ (sumT xs 12 - 0); rw [show sumT xs 12 - 0 = sumT xs 12 by grind]; exact bS⟩ (fun i σ H3 _ ⟨sa, y, _, s3, _⟩ => SqL.of (s3 _ _ eL')) ?_ ?_
        · rintro i v σ H3 hv ⟨sa, y, rfl, s3, hS, bS⟩
          obtain ⟨a, x, rfl, hx, fx0⟩ := fr'.get hv
          have fx := sqT_same s3 fx0
          have bx := bd x (mem_of_at hx)
          have hi : i < 12 := by rw [← ln]; exact (List.getElem?_eq_some_iff.mp hx).1
          have e1 : sumT xs 12 - sumT xs (i + 1) = sumT xs 12 - sumT xs i - x := by show _ - (_ + _) = _; rw [getD_of hx]; grind
          walk_at "go"
          refine g_minus hS fx (bS.mono (by omega)) (bx.mono (by decide)) (fun c nc => ?_)
          have b1 : Bd (135 * (i + 1 + 12) + 1) (sumT xs 12 - sumT xs i - x) := (Bd_sub bS bx).mono (by omega)
          rw [← e1] at b1 ⊢
          walk_at "go"
          exact ⟨c, _, rfl, by walk_at "same", sqT_at, b1⟩
        · rintro σ H3 ⟨sa, y, rfl, s3, hS, bS⟩
          rw [lv, show sumT xs 12 - sumT xs 12 = 0 by grind] at hS
          walk_at "go"
          refine ⟨two_le, fun z nz => ?_⟩
          refine g_eqF (sqT_new nz hS) fr_zero_at ?_
          exact q _
def sp_law (K : PySem.W.Frag) : Sp := fun vs H Q _ => ∃ (a : Addr) (ns : List Int), vs = [.ref a] ∧ SqL K H a (ns.map V.int) ∧ ns.length ≤ 63 ∧ ∀ H', Q (.bl true) H'
theorem ok_law {f : Addr} {fd : FuncData} (F : Fun K "law" "law" s_law f fd) (T : Tx K mg) (c_fraction : Cal P w K mg base 2 "fraction" sp_fraction []) (c_divided : Cal P w K mg base 3 "divided" (sp2F K (fun x y => x / y) fun _ y => y ≠ 0) []) (c_l_pool : Cal P w K mg base 1 "_law_pool" (sp_pool K) []) (c_l_q : Cal P w K mg base 3 "_law_q" (sp_q K) [])
    (c_l_sums : Cal P w K mg base 4 "_law_sums" (sp_t3 K) []) (c_l_three_right : Cal P w K mg base 4 "_law_three_right" (sp_t3 K) []) (c_l_long_right : Cal P w K mg base 4 "_law_long_right" (sp_long K) []) (c_l_told_again : Cal P w K mg base 4 "_law_told_again" (sp_t3 K) []) (c_l_order : Cal P w K mg base 4 "_law_order" (sp_t3 K) []) :
    FnOk P w K mg base CX0 5 f fd P_law (sp_law K) := by
  refine F.ok sc_law (fun vs H Q E h => ?_) (fun cdv A outer s H vs Q E hr h => ?_)
  · obtain ⟨a, ns, rfl, _⟩ := h
    rfl
  · obtain ⟨a, ns, rfl, hS, hn, q⟩ := h
    refine ⟨_, (pss_cons (ps_for PassesOwn.never rfl (pi_range1 (by rfl) T.range_ (pa_cons (pe_callB (cr_max2 rfl) (by rfl) T.max_ (by decide +kernel) (pa_cons pe_int (pa_cons (pe_callB (cr_min2 rfl) (by rfl) T.min_ (by decide +kernel) (pa_cons pe_int (pa_cons (pe_callB (k_len (K := K)) (by rfl) T.len_ (by decide +kernel) (pa_cons (pv 0) pa_nil)) pa_nil))) pa_nil))) pa_nil)) (pg_name (i := 1) sc_law.nd rfl (Or.inl rfl))
  (pss_cons (ps_set (i := 2) sc_law.nd rfl (Or.inr rfl) (pe_c c_l_pool hr (by decide) rfl (pa_cons (pv 0) (pa_cons (pv 1) pa_nil))))
  (pss_cons (ps_asg (pe_lc (own := [("one", 6)]) (g := gName 6) (tt := tYes) rfl sc_law.nd (pi_range1 (by rfl) T.range_ (pa_cons pe_int pa_nil)) (blkOk_by (own := [("one", 6)]) (N := N_law) (sc := defScope s_law) (by decide +kernel)) (fun _ _ _ _ _ => (pg_name (i := 6) sc_law.nd rfl (Or.inl rfl))) (fun _ _ _ _ _ => pts_nil) (fun _ _ _ _ _ => (pe_c c_l_q hr (by decide) rfl (pa_cons (pv 2) pa_nil)))) (k_unl (K := K) rfl (pgs_cons (pg_name (i := 3) sc_law.nd rfl (Or.inl rfl)) (pgs_cons (pg_name (i := 4) sc_law.nd rfl (Or.inl rfl)) (pgs_cons (pg_name (i := 5) sc_law.nd rfl (Or.inl rfl)) pgs_nil)))))
  (pss_cons (ps_if (PW.pt (pw_or (pt_not (pt_val (pe_c c_l_sums hr (by decide) rfl (pa_cons (pv 3) (pa_cons (pv 4) (pa_cons (pv 5) pa_nil)))))) (pw_or (pt_not (pt_val (pe_c c_l_order hr (by decide) rfl (pa_cons (pv 3) (pa_cons (pv 4) (pa_cons (pv 5) pa_nil)))))) (pw_or1 (pt_not (pt_val (pe_c c_l_order hr (by decide) rfl (pa_cons (pv 3) (pa_cons (pv 3) (pa_cons (pv 5) pa_nil))))))))))
  (pss_one (ps_ret pe_bl))
  pss_nil)
  (pss_cons (ps_if (PW.pt (pw_or (pt_not (pt_val (pe_c c_l_told_again hr (by decide) rfl (pa_cons (pv 3) (pa_cons (pv 4) (pa_cons (pv 5) pa_nil)))))) (pw_or (pt_not (pt_val (pe_c c_l_told_again hr (by decide) rfl (pa_cons (pv 5) (pa_cons (pv 5) (pa_cons (pv 3) pa_nil)))))) (pw_or1 (pt_not (pt_val (pe_c c_l_three_right hr (by decide) rfl (pa_cons (pv 3) (pa_cons (pv 4) (pa_cons (pv 5) pa_nil))))))))))
  (pss_one (ps_ret pe_bl))
  pss_nil)
  (pss_one (ps_if (PW.pt (pw_or (pt_cmpR (k_neD (K := K) hr.units) (pe_c c_divided hr (by decide) rfl (pa_cons (pe_tup (pa_cons (pe_ix (k_ixT (K := K)) (pv 3) pe_int (fun _ _ => rfl)) (pa_cons pe_int pa_nil))) (pa_cons (pe_tup (pa_cons (pe_ix (k_ixT (K := K)) (pv 3) pe_int (fun _ _ => rfl)) (pa_cons pe_int pa_nil))) pa_nil))) (pv 3) (nomark _)) (pw_or1 (pt_cmpR (k_neD (K := K) hr.units) (pe_c c_fraction hr (by decide) rfl (pa_cons (pe_op op_sub pe_int (pe_ix (k_ixT (K := K)) (pv 3) pe_int (fun _ _ => rfl))) (pa_cons (pe_op op_sub pe_int (pe_ix (k_ixT (K := K)) (pv 3) pe_int (fun _ _ => rfl))) pa_nil))) (pv 3) (nomark _)))))
  (pss_one (ps_ret pe_bl))
  pss_nil)))))))
  (pss_one (ps_ret (pe_c c_l_long_right hr (by decide) rfl (pa_cons (pe_c c_l_pool hr (by decide) rfl (pa_cons (pv 0) (pa_cons pe_int pa_nil))) pa_nil))))), ?_⟩
    walk_at "go"
    refine g_lenL hS ?_
    walk_at "go"
    refine g_rng1 (by rw [List.length_map]; omega) ?_
    refine loop_range (fun i σ H' => ∃ y1 y2 y3 y4 y5, σ = [some (.ref a), y1, y2, y3, y4, y5, none] ∧ Same H H') ⟨none, none, none, none, none, rfl, Same.refl _⟩ ?_ ?_
    · rintro i σ H2 hi ⟨y1, y2, y3, y4, y5, rfl, s2⟩
      rw [List.length_map] at hi
      walk_at "go"
      refine ⟨a, ns, _, rfl, s2.seq hS, by omega, by omega, fun p H3 np s3 hp => ?_⟩
      walk_at "go"
      refine g_rng1 (by decide) ?_
      intro L nL
      have neL := pool_ne hp nL
      refine lcl_range (fun i H' => ∃ vs xs, H' L = some (.lst vs) ∧ Frs K H' vs xs ∧ (∀ x ∈ xs, Bd 134 x) ∧ xs.length = i ∧ Pool (23000 + 40 * i) H' p ∧ But p H3 H') ⟨[], [], upd_same, True.intro, (fun _ h => by cases h), rfl, hp.new nL, But.new nL⟩ ?_ ?_
      · rintro i H' hi ⟨vs, xs, eL, fr, bd, ln, hp', bA⟩
        have hi : i < 3 := hi
        walk_at "go"
        refine ⟨rfl, ?_⟩
        walk_at "go"
        refine ⟨p, _, rfl, hp', by omega, fun a x H4 na bx bt hp2 hx => ?_⟩
        refine ⟨vs, bt _ _ neL eL, sz_lt (by rw [fr.len]; omega), vs ++ [.ref a], xs ++ [x], upd_same, ?_, ?_, by simp [ln], ?_, ?_⟩
        · exact Frs.ts (ts_mut (bt _ _ neL eL)) (Frs.snoc hx (Frs.ts (ts_pool bt hp') fr))
        · intro z hz
          rcases List.mem_append.mp hz with h | h
          · exact bd z h
          · rw [List.mem_singleton.mp h]; exact bx
        · obtain ⟨a1, b1, c1, e1, r1, r2⟩ := hp2
          exact ⟨a1, b1, c1, by rw [upd_ne neL.symm]; exact e1, r1, by omega⟩
        · intro b o nb e
          have nbL : b ≠ L := ne_of_none e nL
          rw [upd_ne nbL]
          exact bt _ _ nb (bA _ _ nb e)
      · rintro H4 ⟨vs, xs, eL, fr, bd, ln, hp', bA⟩
        have ln : xs.length = 3 := ln
        have s4 : Same H2 H4 := same_of_but ((But.same s3).trans bA) np
        obtain ⟨x, y, z, rfl⟩ : ∃ x y z, xs = [x, y, z] := by
          match xs, ln with
          | [x, y, z], _ => exact ⟨x, y, z, rfl⟩
        obtain ⟨v1, v2, v3, rfl⟩ : ∃ x y z, vs = [x, y, z] := by
          have := fr.len
          match vs, this with
          | [x, y, z], _ => exact ⟨x, y, z, rfl⟩
        obtain ⟨⟨b, rfl, hx⟩, ⟨c, rfl, hy⟩, ⟨d, rfl, hz⟩, _⟩ := fr
        have bx := bd x (by simp)
        have bu := bd y (by simp)
        have bz := bd z (by simp)
        walk_at "go"
        refine ⟨L, _, rfl, SqL.of eL, rfl, _, _, rfl, ?_⟩
        walk_at "go"
        refine ⟨_, _, rfl, ?_⟩
        walk_at "go"
        refine ⟨_, _, rfl, ?_⟩
        walk_at "go"
        refine ⟨rfl, ?_⟩
        walk_at "go"
        refine ⟨b, c, d, x, y, z, rfl, by walk_at "sq", by walk_at "sq", by walk_at "sq", bx, bu, bz, fun H5 s5 => ?_⟩
        walk_at "go"
        refine ⟨b, c, d, x, y, z, rfl, by walk_at "sq", by walk_at "sq", by walk_at "sq", bx, bu, bz, fun H6 s6 => ?_⟩
        walk_at "go"
        refine ⟨b, b, d, x, x, z, rfl, by walk_at "sq", by walk_at "sq", by walk_at "sq", bx, bx, bz, fun H7 s7 => ?_⟩
        walk_at "go"
        refine ⟨b, c, d, x, y, z, rfl, by walk_at "sq", by walk_at "sq", by walk_at "sq", bx, bu, bz, fun H8 s8 => ?_⟩
        walk_at "go"
        refine ⟨d, d, b, z, z, x, rfl, by walk_at "sq", by walk_at "sq", by walk_at "sq", bz, bz, bx, fun H9 s9 => ?_⟩
        walk_at "go"
        refine ⟨b, c, d, x, y, z, rfl, by walk_at "sq", by walk_at "sq", by walk_at "sq", bx, bu, bz, fun H10 s10 => ?_⟩
        walk_at "god"
        exact ⟨_, _, _, _, _, rfl, by walk_at "same"⟩
    · rintro σ H2 ⟨y1, y2, y3, y4, y5, rfl, s2⟩
      walk_at "go"
      refine ⟨a, ns, 0, rfl, s2.seq hS, by omega, by omega, fun p H3 np s3 hp => ?_⟩
      exact ⟨p, 23000, rfl, hp, by decide, fun H' => q H'⟩
end

theorem all_mk {l : PySem.W.OpenLaw} {w : World} {K : PySem.W.Frag} {h : Heap} {mg : Str → Option Value} {fa : Addr} (X : K.In h) (G : h.Ns mainGlobals mg) (hfa : mg "law" = some (.ref fa))
    {f0 : Addr} {od0 an0 : Option Addr} {sl0 : Array (Option Value)} {oc0 kV0 dc0 pm0 cd0 ct0 : Value}
    (a0 : PySem.W.nsIn K mainGlobals "common_of" = some (some (.ref f0))) (l0 : K.lookup f0 = some ⟨oc0, od0, .func (PySem.W.fnOf "common_of" "common_of" (defArgs s_common_of) (defBody s_common_of) (defScope s_common_of) .none kV0 dc0 pm0 an0 cd0 ct0), sl0⟩) (c0 : PySem.W.codeIn K cd0 "common_of" = true) (k0 : PySem.W.keepIn K (.ref f0) = true)
    {f1 : Addr} {od1 an1 : Option Addr} {sl1 : Array (Option Value)} {oc1 kV1 dc1 pm1 cd1 ct1 : Value}
    (a1 : PySem.W.nsIn K mainGlobals "fraction" = some (some (.ref f1))) (l1 : K.lookup f1 = some ⟨oc1, od1, .func (PySem.W.fnOf "fraction" "fraction" (defArgs s_fraction) (defBody s_fraction) (defScope s_fraction) .none kV1 dc1 pm1 an1 cd1 ct1), sl1⟩) (c1 : PySem.W.codeIn K cd1 "fraction" = true) (k1 : PySem.W.keepIn K (.ref f1) = true)
    {f2 : Addr} {od2 an2 : Option Addr} {sl2 : Array (Option Value)} {oc2 kV2 dc2 pm2 cd2 ct2 : Value}
    (a2 : PySem.W.nsIn K mainGlobals "plus" = some (some (.ref f2))) (l2 : K.lookup f2 = some ⟨oc2, od2, .func (PySem.W.fnOf "plus" "plus" (defArgs s_plus) (defBody s_plus) (defScope s_plus) .none kV2 dc2 pm2 an2 cd2 ct2), sl2⟩) (c2 : PySem.W.codeIn K cd2 "plus" = true) (k2 : PySem.W.keepIn K (.ref f2) = true)
    {f3 : Addr} {od3 an3 : Option Addr} {sl3 : Array (Option Value)} {oc3 kV3 dc3 pm3 cd3 ct3 : Value}
    (a3 : PySem.W.nsIn K mainGlobals "minus" = some (some (.ref f3))) (l3 : K.lookup f3 = some ⟨oc3, od3, .func (PySem.W.fnOf "minus" "minus" (defArgs s_minus) (defBody s_minus) (defScope s_minus) .none kV3 dc3 pm3 an3 cd3 ct3), sl3⟩) (c3 : PySem.W.codeIn K cd3 "minus" = true) (k3 : PySem.W.keepIn K (.ref f3) = true)
    {f4 : Addr} {od4 an4 : Option Addr} {sl4 : Array (Option Value)} {oc4 kV4 dc4 pm4 cd4 ct4 : Value}
    (a4 : PySem.W.nsIn K mainGlobals "times" = some (some (.ref f4))) (l4 : K.lookup f4 = some ⟨oc4, od4, .func (PySem.W.fnOf "times" "times" (defArgs s_times) (defBody s_times) (defScope s_times) .none kV4 dc4 pm4 an4 cd4 ct4), sl4⟩) (c4 : PySem.W.codeIn K cd4 "times" = true) (k4 : PySem.W.keepIn K (.ref f4) = true)
    {f5 : Addr} {od5 an5 : Option Addr} {sl5 : Array (Option Value)} {oc5 kV5 dc5 pm5 cd5 ct5 : Value}
    (a5 : PySem.W.nsIn K mainGlobals "divided" = some (some (.ref f5))) (l5 : K.lookup f5 = some ⟨oc5, od5, .func (PySem.W.fnOf "divided" "divided" (defArgs s_divided) (defBody s_divided) (defScope s_divided) .none kV5 dc5 pm5 an5 cd5 ct5), sl5⟩) (c5 : PySem.W.codeIn K cd5 "divided" = true) (k5 : PySem.W.keepIn K (.ref f5) = true)
    {f6 : Addr} {od6 an6 : Option Addr} {sl6 : Array (Option Value)} {oc6 kV6 dc6 pm6 cd6 ct6 : Value}
    (a6 : PySem.W.nsIn K mainGlobals "is_below" = some (some (.ref f6))) (l6 : K.lookup f6 = some ⟨oc6, od6, .func (PySem.W.fnOf "is_below" "is_below" (defArgs s_is_below) (defBody s_is_below) (defScope s_is_below) .none kV6 dc6 pm6 an6 cd6 ct6), sl6⟩) (c6 : PySem.W.codeIn K cd6 "is_below" = true) (k6 : PySem.W.keepIn K (.ref f6) = true)
    {f7 : Addr} {od7 an7 : Option Addr} {sl7 : Array (Option Value)} {oc7 kV7 dc7 pm7 cd7 ct7 : Value}
    (a7 : PySem.W.nsIn K mainGlobals "_law_pool" = some (some (.ref f7))) (l7 : K.lookup f7 = some ⟨oc7, od7, .func (PySem.W.fnOf "_law_pool" "_law_pool" (defArgs s_l_pool) (defBody s_l_pool) (defScope s_l_pool) .none kV7 dc7 pm7 an7 cd7 ct7), sl7⟩) (c7 : PySem.W.codeIn K cd7 "_law_pool" = true) (k7 : PySem.W.keepIn K (.ref f7) = true)
    {f8 : Addr} {od8 an8 : Option Addr} {sl8 : Array (Option Value)} {oc8 kV8 dc8 pm8 cd8 ct8 : Value}
    (a8 : PySem.W.nsIn K mainGlobals "_law_take" = some (some (.ref f8))) (l8 : K.lookup f8 = some ⟨oc8, od8, .func (PySem.W.fnOf "_law_take" "_law_take" (defArgs s_l_take) (defBody s_l_take) (defScope s_l_take) .none kV8 dc8 pm8 an8 cd8 ct8), sl8⟩) (c8 : PySem.W.codeIn K cd8 "_law_take" = true) (k8 : PySem.W.keepIn K (.ref f8) = true)
    {f9 : Addr} {od9 an9 : Option Addr} {sl9 : Array (Option Value)} {oc9 kV9 dc9 pm9 cd9 ct9 : Value}
    (a9 : PySem.W.nsIn K mainGlobals "_law_lowest" = some (some (.ref f9))) (l9 : K.lookup f9 = some ⟨oc9, od9, .func (PySem.W.fnOf "_law_lowest" "_law_lowest" (defArgs s_l_lowest) (defBody s_l_lowest) (defScope s_l_lowest) .none kV9 dc9 pm9 an9 cd9 ct9), sl9⟩) (c9 : PySem.W.codeIn K cd9 "_law_lowest" = true) (k9 : PySem.W.keepIn K (.ref f9) = true)
    {f10 : Addr} {od10 an10 : Option Addr} {sl10 : Array (Option Value)} {oc10 kV10 dc10 pm10 cd10 ct10 : Value}
    (a10 : PySem.W.nsIn K mainGlobals "_law_figures" = some (some (.ref f10))) (l10 : K.lookup f10 = some ⟨oc10, od10, .func (PySem.W.fnOf "_law_figures" "_law_figures" (defArgs s_l_figures) (defBody s_l_figures) (defScope s_l_figures) .none kV10 dc10 pm10 an10 cd10 ct10), sl10⟩) (c10 : PySem.W.codeIn K cd10 "_law_figures" = true) (k10 : PySem.W.keepIn K (.ref f10) = true)
    {f11 : Addr} {od11 an11 : Option Addr} {sl11 : Array (Option Value)} {oc11 kV11 dc11 pm11 cd11 ct11 : Value}
    (a11 : PySem.W.nsIn K mainGlobals "_law_q" = some (some (.ref f11))) (l11 : K.lookup f11 = some ⟨oc11, od11, .func (PySem.W.fnOf "_law_q" "_law_q" (defArgs s_l_q) (defBody s_l_q) (defScope s_l_q) .none kV11 dc11 pm11 an11 cd11 ct11), sl11⟩) (c11 : PySem.W.codeIn K cd11 "_law_q" = true) (k11 : PySem.W.keepIn K (.ref f11) = true)
    {f12 : Addr} {od12 an12 : Option Addr} {sl12 : Array (Option Value)} {oc12 kV12 dc12 pm12 cd12 ct12 : Value}
    (a12 : PySem.W.nsIn K mainGlobals "_law_sums" = some (some (.ref f12))) (l12 : K.lookup f12 = some ⟨oc12, od12, .func (PySem.W.fnOf "_law_sums" "_law_sums" (defArgs s_l_sums) (defBody s_l_sums) (defScope s_l_sums) .none kV12 dc12 pm12 an12 cd12 ct12), sl12⟩) (c12 : PySem.W.codeIn K cd12 "_law_sums" = true) (k12 : PySem.W.keepIn K (.ref f12) = true)
    {f13 : Addr} {od13 an13 : Option Addr} {sl13 : Array (Option Value)} {oc13 kV13 dc13 pm13 cd13 ct13 : Value}
    (a13 : PySem.W.nsIn K mainGlobals "_law_three_right" = some (some (.ref f13))) (l13 : K.lookup f13 = some ⟨oc13, od13, .func (PySem.W.fnOf "_law_three_right" "_law_three_right" (defArgs s_l_three_right) (defBody s_l_three_right) (defScope s_l_three_right) .none kV13 dc13 pm13 an13 cd13 ct13), sl13⟩) (c13 : PySem.W.codeIn K cd13 "_law_three_right" = true) (k13 : PySem.W.keepIn K (.ref f13) = true)
    {f14 : Addr} {od14 an14 : Option Addr} {sl14 : Array (Option Value)} {oc14 kV14 dc14 pm14 cd14 ct14 : Value}
    (a14 : PySem.W.nsIn K mainGlobals "_law_long_right" = some (some (.ref f14))) (l14 : K.lookup f14 = some ⟨oc14, od14, .func (PySem.W.fnOf "_law_long_right" "_law_long_right" (defArgs s_l_long_right) (defBody s_l_long_right) (defScope s_l_long_right) .none kV14 dc14 pm14 an14 cd14 ct14), sl14⟩) (c14 : PySem.W.codeIn K cd14 "_law_long_right" = true) (k14 : PySem.W.keepIn K (.ref f14) = true)
    {f15 : Addr} {od15 an15 : Option Addr} {sl15 : Array (Option Value)} {oc15 kV15 dc15 pm15 cd15 ct15 : Value}
    (a15 : PySem.W.nsIn K mainGlobals "_law_told_again" = some (some (.ref f15))) (l15 : K.lookup f15 = some ⟨oc15, od15, .func (PySem.W.fnOf "_law_told_again" "_law_told_again" (defArgs s_l_told_again) (defBody s_l_told_again) (defScope s_l_told_again) .none kV15 dc15 pm15 an15 cd15 ct15), sl15⟩) (c15 : PySem.W.codeIn K cd15 "_law_told_again" = true) (k15 : PySem.W.keepIn K (.ref f15) = true)
    {f16 : Addr} {od16 an16 : Option Addr} {sl16 : Array (Option Value)} {oc16 kV16 dc16 pm16 cd16 ct16 : Value}
    (a16 : PySem.W.nsIn K mainGlobals "_law_order" = some (some (.ref f16))) (l16 : K.lookup f16 = some ⟨oc16, od16, .func (PySem.W.fnOf "_law_order" "_law_order" (defArgs s_l_order) (defBody s_l_order) (defScope s_l_order) .none kV16 dc16 pm16 an16 cd16 ct16), sl16⟩) (c16 : PySem.W.codeIn K cd16 "_law_order" = true) (k16 : PySem.W.keepIn K (.ref f16) = true)
    {f17 : Addr} {od17 an17 : Option Addr} {sl17 : Array (Option Value)} {oc17 kV17 dc17 pm17 cd17 ct17 : Value}
    (a17 : PySem.W.nsIn K mainGlobals "law" = some (some (.ref f17))) (l17 : K.lookup f17 = some ⟨oc17, od17, .func (PySem.W.fnOf "law" "law" (defArgs s_law) (defBody s_law) (defScope s_law) .none kV17 dc17 pm17 an17 cd17 ct17), sl17⟩) (c17 : PySem.W.codeIn K cd17 "law" = true) (k17 : PySem.W.keepIn K (.ref f17) = true)
    (z_abs : PySem.W.nsIn K mainGlobals "abs" = some none)
    (z_len : PySem.W.nsIn K mainGlobals "len" = some none)
    (z_max : PySem.W.nsIn K mainGlobals "max" = some none)
    (z_min : PySem.W.nsIn K mainGlobals "min" = some none)
    (z_range : PySem.W.nsIn K mainGlobals "range" = some none)
    : ∃ fd : FuncData, (∀ (s : Shared) (v : Value), BindsTo s fd ⟨[v], []⟩ [("script", v)]) ∧ ∀ base : Heap, K.In base → base.Ns mainGlobals mg → FnOk l.prog w K mg base CX0 5 fa fd ["script"] (sp_law K) := by
  have e := hfa.symm.trans (PySem.W.mg_of X G a17)
  cases e
  have T : Tx K mg := ⟨PySem.W.mg_none_of X G z_abs, PySem.W.mg_none_of X G z_len, PySem.W.mg_none_of X G z_max, PySem.W.mg_none_of X G z_min, PySem.W.mg_none_of X G z_range⟩
  have F0 := fun_mk (st := s_common_of) l0 c0 k0
  have b0 := F0.binds (ps := ["one", "other"]) fun _ _ _ _ _ _ us hl => match us, hl with | [_, _], _ => rfl
  have F1 := fun_mk (st := s_fraction) l1 c1 k1
  have b1 := F1.binds (ps := ["top", "bottom"]) fun _ _ _ _ _ _ us hl => match us, hl with | [_, _], _ => rfl
  have F2 := fun_mk (st := s_plus) l2 c2 k2
  have b2 := F2.binds (ps := ["q", "r"]) fun _ _ _ _ _ _ us hl => match us, hl with | [_, _], _ => rfl
  have F3 := fun_mk (st := s_minus) l3 c3 k3
  have b3 := F3.binds (ps := ["q", "r"]) fun _ _ _ _ _ _ us hl => match us, hl with | [_, _], _ => rfl
  have F4 := fun_mk (st := s_times) l4 c4 k4
  have b4 := F4.binds (ps := ["q", "r"]) fun _ _ _ _ _ _ us hl => match us, hl with | [_, _], _ => rfl
  have F5 := fun_mk (st := s_divided) l5 c5 k5
  have b5 := F5.binds (ps := ["q", "r"]) fun _ _ _ _ _ _ us hl => match us, hl with | [_, _], _ => rfl
  have F6 := fun_mk (st := s_is_below) l6 c6 k6
  have b6 := F6.binds (ps := ["q", "r"]) fun _ _ _ _ _ _ us hl => match us, hl with | [_, _], _ => rfl
  have F7 := fun_mk (st := s_l_pool) l7 c7 k7
  have b7 := F7.binds (ps := ["script", "k"]) fun _ _ _ _ _ _ us hl => match us, hl with | [_, _], _ => rfl
  have F8 := fun_mk (st := s_l_take) l8 c8 k8
  have b8 := F8.binds (ps := ["pool", "many"]) fun _ _ _ _ _ _ us hl => match us, hl with | [_, _], _ => rfl
  have F9 := fun_mk (st := s_l_lowest) l9 c9 k9
  have b9 := F9.binds (ps := ["top", "bottom"]) fun _ _ _ _ _ _ us hl => match us, hl with | [_, _], _ => rfl
  have F10 := fun_mk (st := s_l_figures) l10 c10 k10
  have b10 := F10.binds (ps := ["pool"]) fun _ _ _ _ _ _ us hl => match us, hl with | [_], _ => rfl
  have F11 := fun_mk (st := s_l_q) l11 c11 k11
  have b11 := F11.binds (ps := ["pool"]) fun _ _ _ _ _ _ us hl => match us, hl with | [_], _ => rfl
  have F12 := fun_mk (st := s_l_sums) l12 c12 k12
  have b12 := F12.binds (ps := ["q", "r", "s"]) fun _ _ _ _ _ _ us hl => match us, hl with | [_, _, _], _ => rfl
  have F13 := fun_mk (st := s_l_three_right) l13 c13 k13
  have b13 := F13.binds (ps := ["q", "r", "s"]) fun _ _ _ _ _ _ us hl => match us, hl with | [_, _, _], _ => rfl
  have F14 := fun_mk (st := s_l_long_right) l14 c14 k14
  have b14 := F14.binds (ps := ["pool"]) fun _ _ _ _ _ _ us hl => match us, hl with | [_], _ => rfl
  have F15 := fun_mk (st := s_l_told_again) l15 c15 k15
  have b15 := F15.binds (ps := ["q", "r", "s"]) fun _ _ _ _ _ _ us hl => match us, hl with | [_, _, _], _ => rfl
  have F16 := fun_mk (st := s_l_order) l16 c16 k16
  have b16 := F16.binds (ps := ["q", "r", "s"]) fun _ _ _ _ _ _ us hl => match us, hl with | [_, _, _], _ => rfl
  have F17 := fun_mk (st := s_law) l17 c17 k17
  have b17 := F17.binds (ps := ["script"]) fun _ _ _ _ _ _ us hl => match us, hl with | [_], _ => rfl
  refine ⟨PySem.W.fnOf "law" "law" (defArgs s_law) (defBody s_law) (defScope s_law) .none kV17 dc17 pm17 an17 cd17 ct17, fun s v => .of_eq rfl, fun base _ _ => ?_⟩
  have c_common_of := cal_of (ok_common_of (P := l.prog) (w := w) (base := base) F0 T ) F0 b0 (PySem.W.mg_of X G a0)
  have c_is_below := cal_of (ok_is_below (P := l.prog) (w := w) (base := base) F6 T ) F6 b6 (PySem.W.mg_of X G a6)
  have c_l_pool := cal_of (ok_l_pool (P := l.prog) (w := w) (base := base) F7 T ) F7 b7 (PySem.W.mg_of X G a7)
  have c_l_take := cal_of (ok_l_take (P := l.prog) (w := w) (base := base) F8 T ) F8 b8 (PySem.W.mg_of X G a8)
  have c_l_lowest := cal_of (ok_l_lowest (P := l.prog) (w := w) (base := base) F9 T ) F9 b9 (PySem.W.mg_of X G a9)
  have c_fraction := cal_of (ok_fraction (P := l.prog) (w := w) (base := base) F1 T c_common_of) F1 b1 (PySem.W.mg_of X G a1)
  have c_l_figures := cal_of (ok_l_figures (P := l.prog) (w := w) (base := base) F10 T c_l_take) F10 b10 (PySem.W.mg_of X G a10)
  have c_plus := cal_of (ok_plus (P := l.prog) (w := w) (base := base) F2 T c_fraction) F2 b2 (PySem.W.mg_of X G a2)
  have c_minus := cal_of (ok_minus (P := l.prog) (w := w) (base := base) F3 T c_fraction) F3 b3 (PySem.W.mg_of X G a3)
  have c_times := cal_of (ok_times (P := l.prog) (w := w) (base := base) F4 T c_fraction) F4 b4 (PySem.W.mg_of X G a4)
  have c_divided := cal_of (ok_divided (P := l.prog) (w := w) (base := base) F5 T c_fraction) F5 b5 (PySem.W.mg_of X G a5)
  have c_l_q := cal_of (ok_l_q (P := l.prog) (w := w) (base := base) F11 T c_l_take c_l_lowest c_l_figures) F11 b11 (PySem.W.mg_of X G a11)
  have c_l_sums := cal_of (ok_l_sums (P := l.prog) (w := w) (base := base) F12 T c_plus c_minus c_times c_divided) F12 b12 (PySem.W.mg_of X G a12)
  have c_l_three_right := cal_of (ok_l_three_right (P := l.prog) (w := w) (base := base) F13 T c_plus c_minus c_times c_divided c_l_lowest) F13 b13 (PySem.W.mg_of X G a13)
  have c_l_long_right := cal_of (ok_l_long_right (P := l.prog) (w := w) (base := base) F14 T c_plus c_minus c_l_lowest c_l_q) F14 b14 (PySem.W.mg_of X G a14)
  have c_l_told_again := cal_of (ok_l_told_again (P := l.prog) (w := w) (base := base) F15 T c_fraction c_plus c_minus c_times c_divided) F15 b15 (PySem.W.mg_of X G a15)
  have c_l_order := cal_of (ok_l_order (P := l.prog) (w := w) (base := base) F16 T c_plus c_minus c_times c_is_below) F16 b16 (PySem.W.mg_of X G a16)
  exact ok_law F17 T c_fraction c_divided c_l_pool c_l_q c_l_sums c_l_three_right c_l_long_right c_l_told_again c_l_order
end Fc
open PySem PySem.W PyProof.Rows
set_option maxRecDepth 100000 in
set_option maxHeartbeats 0 in
theorem PySem.Challenge.cw_farcuts_k05_whole_there_and_back_holds : PySem.Challenge.rw_farcuts_k05_whole_there_and_back.Holds := by
  w_on; o_law; k_head; (case hw => w_witness2)
  k_fill
  refine L2.walk_of (l := PySem.Challenge.rw_farcuts_k05_whole_there_and_back) (n := 63) (k := 5) (x := "script") (CX := fun _ => L2.CX0) (sp := fun w => Fc.sp_law _) rfl (by decide) rfl ⟨rfl, by decide, by decide⟩ (fun w h Y => PySem.W.kIn_of Y) ?F (fun _ _ a ns hl _ hS => ⟨a, ns, rfl, hS, hl, fun _ => rfl⟩) (fun _ _ _ _ _ h => h)
  case F =>
    intro w mg fa h KX G hmg
    refine' Fc.all_mk KX G hmg ?a0 ?l0 ?c0 ?k0 ?a1 ?l1 ?c1 ?k1 ?a2 ?l2 ?c2 ?k2 ?a3 ?l3 ?c3 ?k3 ?a4 ?l4 ?c4 ?k4 ?a5 ?l5 ?c5 ?k5 ?a6 ?l6 ?c6 ?k6 ?a7 ?l7 ?c7 ?k7 ?a8 ?l8 ?c8 ?k8 ?a9 ?l9 ?c9 ?k9 ?a10 ?l10 ?c10 ?k10 ?a11 ?l11 ?c11 ?k11 ?a12 ?l12 ?c12 ?k12 ?a13 ?l13 ?c13 ?k13 ?a14 ?l14 ?c14 ?k14 ?a15 ?l15 ?c15 ?k15 ?a16 ?l16 ?c16 ?k16 ?a17 ?l17 ?c17 ?k17 ?z_abs ?z_len ?z_max ?z_min ?z_range
    (case a0 => k_is)
    (case l0 => k_is)
    (case c0 => k_is)
    (case k0 => k_is)
    (case a1 => k_is)
    (case l1 => k_is)
    (case c1 => k_is)
    (case k1 => k_is)
    (case a2 => k_is)
    (case l2 => k_is)
    (case c2 => k_is)
    (case k2 => k_is)
    (case a3 => k_is)
    (case l3 => k_is)
    (case c3 => k_is)
    (case k3 => k_is)
    (case a4 => k_is)
    (case l4 => k_is)
    (case c4 => k_is)
    (case k4 => k_is)
    (case a5 => k_is)
    (case l5 => k_is)
    (case c5 => k_is)
    (case k5 => k_is)
    (case a6 => k_is)
    (case l6 => k_is)
    (case c6 => k_is)
    (case k6 => k_is)
    (case a7 => k_is)
    (case l7 => k_is)
    (case c7 => k_is)
    (case k7 => k_is)
    (case a8 => k_is)
    (case l8 => k_is)
    (case c8 => k_is)
    (case k8 => k_is)
    (case a9 => k_is)
    (case l9 => k_is)
    (case c9 => k_is)
    (case k9 => k_is)
    (case a10 => k_is)
    (case l10 => k_is)
    (case c10 => k_is)
    (case k10 => k_is)
    (case a11 => k_is)
    (case l11 => k_is)
    (case c11 => k_is)
    (case k11 => k_is)
    (case a12 => k_is)
    (case l12 => k_is)
    (case c12 => k_is)
    (case k12 => k_is)
    (case a13 => k_is)
    (case l13 => k_is)
    (case c13 => k_is)
    (case k13 => k_is)
    (case a14 => k_is)
    (case l14 => k_is)
    (case c14 => k_is)
    (case k14 => k_is)
    (case a15 => k_is)
    (case l15 => k_is)
    (case c15 => k_is)
    (case k15 => k_is)
    (case a16 => k_is)
    (case l16 => k_is)
    (case c16 => k_is)
    (case k16 => k_is)
    (case a17 => k_is)
    (case l17 => k_is)
    (case c17 => k_is)
    (case k17 => k_is)
    (case z_abs => k_is)
    (case z_len => k_is)
    (case z_max => k_is)
    (case z_min => k_is)
    (case z_range => k_is)
