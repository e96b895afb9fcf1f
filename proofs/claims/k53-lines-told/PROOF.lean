import PyProof.Rows.All
import Wide.All
import OpenK.AllK
import Wide.FinOn
import PySem.Challenge.RW_farcuts_k53_lines_told
import HandS.ForMost
import HandS.ForExc
import HandS.Wide
import HandS.IsInst
import HandS.SortInts
import HandS.Deep
import HandS.Steps
import HandS.TupAny
import HandS.Codes
import HandS.NoneIn
import HandS.ExcIs
import HandS.ExcValue
set_option Elab.async false
set_option linter.all false
set_option maxRecDepth 100000
set_option maxHeartbeats 4000000
namespace Fc
open PySem PySem.Spec PyProof.Rows L2
open C8 (Cal pe_c)
/-! ### readings by names -/
def rAddS : R2 := fun x y H Q => ∃ i j, x = .str i ∧ y = .str j ∧ i.length + j.length ≤ sizeLine ∧ Q (.str (i ++ j)) H
theorem op_addS {X : Cx} : OpR X (binaryOp .Add) rAddS := op_add_str
def rLenSeq (K : PySem.W.Frag) : List V → Hp → VK → Prop := fun xs H Q => ∃ p ys, xs = [.ref p] ∧ (SqL K H p ys ∨ SqT K H p ys) ∧ Q (.int ys.length) H
theorem cr_lenSeq {X : Cx} : CallR X (.builtin "len") (rLenSeq X.K) := call_len_seq
def rLenStr : List V → Hp → VK → Prop := fun xs H Q => ∃ z, xs = [.str z] ∧ z.length ≤ sizeLine ∧ Q (.int z.length) H
theorem cr_lenStr {X : Cx} : CallR X (.builtin "len") rLenStr := call_len_str
def rAbs : List V → Hp → VK → Prop := fun xs H Q => ∃ i, xs = [.int i] ∧ Q (.int (if i < 0 then -i else i)) H
theorem cr_abs {X : Cx} : CallR X (.builtin "abs") rAbs := call_abs
def rMax2 : List V → Hp → VK → Prop := fun xs H Q => ∃ i j, xs = [.int i, .int j] ∧ Q (.int (if j > i then j else i)) H
theorem cr_max2 {X : Cx} (h : X.calm = true) : CallR X (.builtin "max") rMax2 := call_max2 h
def rMin2 : List V → Hp → VK → Prop := fun xs H Q => ∃ i j, xs = [.int i, .int j] ∧ Q (.int (if j < i then j else i)) H
theorem cr_min2 {X : Cx} (h : X.calm = true) : CallR X (.builtin "min") rMin2 := call_min2 h
def rInt1 : List V → Hp → VK → Prop := fun xs H Q => (∃ i, xs = [.int i] ∧ Q (.int i) H) ∨ ∃ k, xs = [.bl k] ∧ Q (.int (if k then 1 else 0)) H
theorem cr_int1 {X : Cx} : CallR X (.type "int") rInt1 := call_int1
def rStrI : List V → Hp → VK → Prop := fun xs H Q => ∃ i, xs = [.int i] ∧ i.natAbs.log2 < 1920 ∧ Q (.str (toString i)) H
theorem cr_strI {X : Cx} : CallR X (.type "str") rStrI := call_str_int
def rListOf (K : PySem.W.Frag) : List V → Hp → VK → Prop := fun xs H Q => ∃ p ys, xs = [.ref p] ∧ (SqL K H p ys ∨ SqT K H p ys) ∧ ∀ l, H l = none → Q (.ref l) (upd H l (.lst ys))
theorem cr_listOf {X : Cx} : CallR X (.type "list") (rListOf X.K) := call_list_of
theorem room_u {k : Nat} {A : Around} (hr : Room k A) : A.units + 64 < cLine := by have := hr.un; omega
theorem room_u65 {k : Nat} {A : Around} (hr : Room k A) : A.units + 65 < cLine := by have := hr.un; omega
theorem _root_.L2.Room.units65 {k : Nat} {A : Around} (hr : Room k A) : A.units + 65 < cLine := room_u65 hr
section
variable {P : Program} {w : World} {K : PySem.W.Frag} {mg : Str → Option Value} {base : Heap}
theorem cal_of {x qual : Str} {st : Stmt} {f : Addr} {fd : FuncData} {ps : List Str} {k : Nat} {sp : Sp} (h : FnOk P w K mg base CX0 k f fd ps sp) (F : Fun K x qual st f fd) (b : Binds K fd ps []) (g : mg x = some (.ref f)) : Cal P w K mg base k x sp [] :=
  ⟨⟨f, fd, ps, [], h, g, F.kp, b, .nil⟩⟩
end
/-! ### stepping through a reading -/
section
variable {K : PySem.W.Frag} {σ : L2.St} {H : Hp} {Q : VK} {D : Ends} {x y v : V} {ta tb te : TE} {t u : TS} {i j : Int}
theorem g_var {n : Nat} (h : σ[n]? = some (some v)) (q : Q v H) : tVar n σ H Q := ⟨v, h, q⟩
theorem g_c (q : Q v H) : tC v σ H Q := q
theorem g_op {r : R2} (q : ta σ H fun x H1 => tb σ H1 fun y H2 => r x y H2 Q) : tOp r ta tb σ H Q := q
theorem g_un {r : V → Hp → VK → Prop} (q : ta σ H fun x H1 => r x H1 Q) : tUn r ta σ H Q := q
theorem g_neg (q : Q (.int (-i)) H) : rU (fun i => .int (-i)) (.int i) H Q := ⟨i, rfl, q⟩
theorem g_I0 {g : Int → Int → V} (q : Q (g i j) H) : rI0 g (.int i) (.int j) H Q := ⟨i, j, rfl, rfl, q⟩
theorem g_mod (c : 0 < j) (q : Q (.int (i % j)) H) : rI (fun _ j => 0 < j) (fun i j => .int (i % j)) (.int i) (.int j) H Q := ⟨i, j, rfl, rfl, c, q⟩
theorem g_mul (c : CMulW i j) (q : Q (.int (i * j)) H) : rI CMulW (fun i j => .int (i * j)) (.int i) (.int j) H Q := ⟨i, j, rfl, rfl, c, q⟩
theorem g_div (c : CDivW i j) (q : Q (.int (i / j)) H) : rI CDivW (fun i j => .int (i / j)) (.int i) (.int j) H Q := ⟨i, j, rfl, rfl, c, q⟩
theorem g_pow (c : CPow i j) (q : Q (.int (i ^ j.toNat)) H) : rI CPow (fun i j => .int (i ^ j.toNat)) (.int i) (.int j) H Q := ⟨i, j, rfl, rfl, c, q⟩
theorem g_eq (c : scal x y = true) (q : Q (.bl (decide (x = y))) H) : rEq x y H Q := ⟨c, q⟩
theorem g_ne (c : scal x y = true) (q : Q (.bl (!decide (x = y))) H) : rNe x y H Q := ⟨c, q⟩
theorem g_eqI (q : Q (.bl (decide (i = j))) H) : rEq (.int i) (.int j) H Q := ⟨rfl, by
  have e : decide (V.int i = V.int j) = decide (i = j) := by simp
  rw [e]; exact q⟩
theorem g_neI (q : Q (.bl (!decide (i = j))) H) : rNe (.int i) (.int j) H Q := ⟨rfl, by
  have e : decide (V.int i = V.int j) = decide (i = j) := by simp
  rw [e]; exact q⟩
theorem g_eqB {a b : Bool} (q : Q (.bl (decide (a = b))) H) : rEq (.bl a) (.bl b) H Q := ⟨rfl, by
  have e : decide (V.bl a = V.bl b) = decide (a = b) := by simp
  rw [e]; exact q⟩
theorem g_neB {a b : Bool} (q : Q (.bl (!decide (a = b))) H) : rNe (.bl a) (.bl b) H Q := ⟨rfl, by
  have e : decide (V.bl a = V.bl b) = decide (a = b) := by simp
  rw [e]; exact q⟩
theorem g_ixT {p : Addr} {xs : List V} (h : SqT K H p xs) (a : atI xs i = some v) (q : Q v H) : rIxT K (.ref p) (.int i) H Q := ⟨p, xs, i, v, rfl, rfl, h, a, q⟩
theorem g_ixL {p : Addr} {xs : List V} (h : SqL K H p xs) (a : atI xs i = some v) (q : Q v H) : rIxL K (.ref p) (.int i) H Q := ⟨p, xs, i, v, rfl, rfl, h, a, q⟩
theorem g_tcons {tr : TA} {Q : List V → Hp → Prop} (q : ta σ H fun x H1 => tr σ H1 fun xs H2 => Q (x :: xs) H2) : tCons ta tr σ H Q := q
theorem g_tnil {Q : List V → Hp → Prop} (q : Q [] H) : tNil σ H Q := q
theorem g_cb {r : List V → Hp → VK → Prop} {t : TA} (q : t σ H fun vs H1 => r vs H1 Q) : tCB r t σ H Q := q
theorem g_call {sp : Sp} {dvs : List V} {E : XK} {t : TA} (q : t σ H fun vs H1 => sp (vs ++ dvs) H1 Q E) : tCall sp dvs E t σ H Q := q
theorem g_tup {t : TA} (q : t σ H fun xs H1 => xs.length ≤ sizeLine ∧ ∀ p, H1 p = none → Q (.ref p) (upd H1 p (.tup xs))) : tTup t σ H Q := q
theorem g_lst {t : TA} (q : t σ H fun xs H1 => xs.length ≤ sizeLine ∧ ∀ p, H1 p = none → Q (.ref p) (upd H1 p (.lst xs))) : tLst t σ H Q := q
theorem g_if {c : TT} (q : c σ H fun b H1 => if b = true then t D σ H1 else u D σ H1) : tIfS c t u D σ H := q
theorem g_test {Q : Bool → Hp → Prop} (q : te σ H fun x H' => ∃ k, x = .bl k ∧ Q k H') : tTest te σ H Q := q
theorem g_tB {Q : Bool → Hp → Prop} (q : te σ H fun x H' => ∃ k, x = .bl k ∧ Q k H') : tB te σ H Q := q
theorem g_bl {b : Bool} {Q : Bool → Hp → Prop} (q : Q b H) : ∃ k, V.bl b = .bl k ∧ Q k H := ⟨b, rfl, q⟩
theorem g_blV {b : Bool} {Q : Bool → Prop} (q : Q b) : ∃ k, V.bl b = .bl k ∧ Q k := ⟨b, rfl, q⟩
theorem g_not {c : TT} {Q : Bool → Hp → Prop} (q : c σ H fun c H1 => Q (!c) H1) : tNot c σ H Q := q
theorem g_and {c d : TT} {Q : Bool → Hp → Prop} (q : c σ H fun c H1 => if c = true then d σ H1 Q else Q false H1) : tAnd c d σ H Q := q
theorem g_or {c d : TT} {Q : Bool → Hp → Prop} (q : c σ H fun c H1 => if c = true then Q true H1 else d σ H1 Q) : tOr c d σ H Q := q
theorem g_andV (q : ta σ H fun x H1 => ∃ c, x = .bl c ∧ if c = true then tb σ H1 Q else Q (.bl false) H1) : tAndV ta tb σ H Q := q
theorem g_orV (q : ta σ H fun x H1 => ∃ c, x = .bl c ∧ if c = true then Q (.bl true) H1 else tb σ H1 Q) : tOrV ta tb σ H Q := q
theorem g_notV (q : ta σ H fun x H1 => ∃ c, x = .bl c ∧ Q (.bl (!c)) H1) : tNotV ta σ H Q := q
theorem g_seq (q : t { D with nx := u D } σ H) : tSeq t u D σ H := q
theorem g_cut (Mid : L2.St → Hp → Prop) (h : t { D with nx := Mid } σ H) (q : ∀ σ' H', Mid σ' H' → u D σ' H') : C8.tCut t u D σ H := ⟨Mid, h, q⟩
theorem g_next (q : D.nx σ H) : tNext D σ H := q
theorem g_asg {g : TG} (q : te σ H fun x H1 => g x σ H1 D.nx) : tAsg te g D σ H := q
theorem g_name {n : Nat} {Q : L2.St → Hp → Prop} (q : Q (σ.set n (some v)) H) : gName n v σ H Q := q
theorem g_ret (q : te σ H D.rt) : tRet te D σ H := q
theorem g_drop (q : te σ H fun _ H1 => D.nx σ H1) : tDrop te D σ H := q
theorem g_par {a b : Nat} {ta : TA} (q : ta σ H fun vs H1 => ∃ v w, vs = [v, w] ∧ D.nx ((σ.set a (some v)).set b (some w)) H1) : tPar a b ta D σ H := q
theorem g_two {x y : V} {Q : V → V → Prop} (q : Q x y) : ∃ v w, [x, y] = [v, w] ∧ Q v w := ⟨x, y, rfl, q⟩
theorem g_aug {n : Nat} {ti : R2} (h : σ[n]? = some (some x)) (q : te σ H fun y H1 => ti x y H1 fun z H2 => D.nx (σ.set n (some z)) H2) : tAug n te ti D σ H := ⟨x, h, q⟩
theorem g_ipI {g : Int → Int → Int} (q : Q (.int (g i j)) H) : ipI g (.int i) (.int j) H Q := ⟨i, j, rfl, rfl, q⟩
theorem g_sub {o ix : TE} {s : V → V → V → Hp → (Hp → Prop) → Prop} {Q : L2.St → Hp → Prop} (q : o σ H fun o H1 => ix σ H1 fun i H2 => s o i v H2 fun H3 => Q σ H3) : gSub o ix s v σ H Q := q
theorem g_setL {p : Addr} {xs : List V} {k : Nat} {Q : Hp → Prop} (h : H p = some (.lst xs)) (e : ixN xs.length i = some k) (q : Q (upd H p (.lst (xs.set k v)))) : rSetL (.ref p) (.int i) v H Q := ⟨p, xs, i, k, rfl, rfl, h, e, q⟩
theorem g_abs (q : Q (.int (if i < 0 then -i else i)) H) : rAbs [.int i] H Q := ⟨i, rfl, q⟩
theorem g_max2 (q : Q (.int (if j > i then j else i)) H) : rMax2 [.int i, .int j] H Q := ⟨i, j, rfl, q⟩
theorem g_min2 (q : Q (.int (if j < i then j else i)) H) : rMin2 [.int i, .int j] H Q := ⟨i, j, rfl, q⟩
theorem g_intI (q : Q (.int i) H) : rInt1 [.int i] H Q := .inl ⟨i, rfl, q⟩
theorem g_intB {k : Bool} (q : Q (.int (if k then 1 else 0)) H) : rInt1 [.bl k] H Q := .inr ⟨k, rfl, q⟩
theorem g_lenL {p : Addr} {xs : List V} (h : SqL K H p xs) (q : Q (.int xs.length) H) : rLenSeq K [.ref p] H Q := ⟨p, xs, rfl, .inl h, q⟩
theorem g_lenT {p : Addr} {xs : List V} (h : SqT K H p xs) (q : Q (.int xs.length) H) : rLenSeq K [.ref p] H Q := ⟨p, xs, rfl, .inr h, q⟩
theorem g_inL {p : Addr} {xs : List V} {neg : Bool} (h : SqL K H p xs) (a : flatV x = true) (b : xs.all flatV = true) (q : Q (.bl (if neg then !inV x xs else inV x xs)) H) : rIn K neg x (.ref p) H Q := ⟨p, xs, rfl, .inl h, a, b, q⟩
theorem g_isi {c : V} {t u : Value} {b : Bool} (h1 : ClsV c u) (h2 : TyX K H x t) (h3 : PySem.W.kitOne K t u = some b) (q : Q (.bl b) H) : rIsi K [x, c] H Q := ⟨x, c, t, u, b, rfl, h1, h2, h3, q⟩
theorem ifD {p : Prop} [Decidable p] {A B : Prop} (h1 : p → A) (h2 : ¬ p → B) : if decide p = true then A else B := by
  by_cases h : p
  · simp only [h, decide_true, if_true]; exact h1 h
  · simp only [h, decide_false]; exact h2 h
theorem ifND {p : Prop} [Decidable p] {A B : Prop} (h1 : ¬ p → A) (h2 : p → B) : if (!decide p) = true then A else B := by
  by_cases h : p
  · simp only [h, decide_true]; exact h2 h
  · simp only [h, decide_false]; exact h1 h
theorem ifB {b : Bool} {A B : Prop} (h1 : b = true → A) (h2 : b = false → B) : if b = true then A else B := by
  cases b
  · exact h2 rfl
  · exact h1 rfl
end
/-! ### heaps -/
section
variable {K : PySem.W.Frag} {H H' : Hp} {a p : Addr} {xs ys : List V} {o : HO}
theorem same_new (h : H p = none) : Same H (upd H p o) := fun b u e => by rw [upd_ne (ne_of_none e h)]; exact e
theorem same_to {H1 : Hp} (e : Same H H') (h : H' p = none) : Same H (upd H' p o) := e.trans (same_new h)
theorem sqT_same (e : Same H H') (h : SqT K H a xs) : SqT K H' a xs := by
  rcases h with (h | ⟨o, h⟩) | h
  · exact .inl (.inl (e _ _ h))
  · exact .inl (.inr ⟨o, e _ _ h⟩)
  · exact .inr h
theorem sqL_same (e : Same H H') (h : SqL K H a xs) : SqL K H' a xs := e.seq h
theorem sqT_new (e : H p = none) (h : SqT K H a xs) : SqT K (upd H p o) a xs := sqT_same (same_new e) h
theorem sqL_new (e : H p = none) (h : SqL K H a xs) : SqL K (upd H p o) a xs := sqL_same (same_new e) h
theorem sqT_at : SqT K (upd H p (.tup xs)) p xs := .inl (.inl upd_same)
theorem sqL_at : SqL K (upd H p (.lst xs)) p xs := .inl (.inl upd_same)
theorem sqT_mut (e : H p = some (.lst ys)) (h : SqT K H a xs) : SqT K (upd H p o) a xs := by
  rcases h with (h | ⟨u, h⟩) | h
  · have n : a ≠ p := ne_of h e (by intro z; cases z)
    exact .inl (.inl (by rw [upd_ne n]; exact h))
  · have n : a ≠ p := ne_of h e (by intro z; cases z)
    exact .inl (.inr ⟨u, by rw [upd_ne n]; exact h⟩)
  · exact .inr h
/-- all but the object at p stands as it stood -/
def But (p : Addr) (H H' : Hp) : Prop := ∀ b o, b ≠ p → H b = some o → H' b = some o
theorem But.refl (p : Addr) (H : Hp) : But p H H := fun _ _ _ h => h
theorem But.trans {H1 H2 : Hp} (a : But p H H1) (b : But p H1 H2) : But p H H2 := fun c o n h => b c o n (a c o n h)
theorem But.same (e : Same H H') : But p H H' := fun b o _ h => e b o h
theorem But.mut : But p H (upd H p o) := fun b u n h => by rw [upd_ne n]; exact h
theorem But.new {q : Addr} (h : H q = none) : But p H (upd H q o) := But.same (same_new h)
theorem sqT_but (b : But p H H') (e : H p = some (.lst ys)) (h : SqT K H a xs) : SqT K H' a xs := by
  rcases h with (h | ⟨u, h⟩) | h
  · exact .inl (.inl (b _ _ (ne_of h e (by intro z; cases z)) h))
  · exact .inl (.inr ⟨u, b _ _ (ne_of h e (by intro z; cases z)) h⟩)
  · exact .inr h
theorem sqL_but (b : But p H H') (e : H p = none) (h : SqL K H a xs) : SqL K H' a xs := by
  rcases h with (h | ⟨u, h⟩) | h
  · exact .inl (.inl (b _ _ (ne_of_none h e) h))
  · exact .inl (.inr ⟨u, b _ _ (ne_of_none h e) h⟩)
  · exact .inr h
theorem new_of (n : H' p = none) (e : Same H H') : H p = none := e.free n
end
/-! ### words -/

/-! ### loops -/
section
variable {K : PySem.W.Frag} {σ : L2.St} {H : Hp} {Q : VK} {D : Ends} {x y v : V} {ta tb te : TE} {t u : TS} {i j : Int}
/-- what a for's loop asks, walked by J -/
def LoopF (J : It) (g : TG) (tb : TS) (D : Ends) (σ : L2.St) (H : Hp) : Prop := ∃ W : Nat → Nat → L2.St → Hp → Prop, (∃ m, W 0 m σ H) ∧ ∀ i m σ H, W i m σ H →
  (J.stop i H ∧ D.nx σ H) ∨ (J.go i H ∧ ∃ N : L2.St → Hp → Prop, (∀ σ' H', N σ' H' → ∃ m', m' < m ∧ W (i + 1) m' σ' H') ∧ ∀ x H', J.yld i H x H' → g x σ H' fun σ2 H2 => tb { D with nx := N, ct := N, bk := D.nx } σ2 H2)
theorem g_for {wi : TI} {g : TG} {tb : TS} (q : wi σ H fun J H1 => LoopF J g tb D σ H1) : tFor wi g tb D σ H := q
theorem loop_range {lo : Int} {n : Nat} {g : TG} {tb : TS} (Pv : Nat → L2.St → Hp → Prop) (h0 : Pv 0 σ H)
    (hs : ∀ i σ H, i < n → Pv i σ H → g (.int (lo + i)) σ H fun σ2 H2 => tb { D with nx := Pv (i + 1), ct := Pv (i + 1), bk := D.nx } σ2 H2) (hd : ∀ σ H, Pv n σ H → D.nx σ H) : LoopF (Itr lo n) g tb D σ H := for_range Pv h0 hs hd
theorem loop_list {a : Addr} {xs : List V} {g : TG} {tb : TS} (Pv : Nat → L2.St → Hp → Prop) (h0 : Pv 0 σ H) (hl : ∀ i σ H, i ≤ xs.length → Pv i σ H → SqL K H a xs)
    (hs : ∀ i x σ H, xs[i]? = some x → Pv i σ H → g x σ H fun σ2 H2 => tb { D with nx := Pv (i + 1), ct := Pv (i + 1), bk := D.nx } σ2 H2) (hd : ∀ σ H, Pv xs.length σ H → D.nx σ H) : LoopF (Itl K a) g tb D σ H := for_list Pv h0 hl hs hd
theorem loop_tup {a : Addr} {xs : List V} {g : TG} {tb : TS} (Pv : Nat → L2.St → Hp → Prop) (h0 : Pv 0 σ H) (hl : ∀ i σ H, i ≤ xs.length → Pv i σ H → SqT K H a xs)
    (hs : ∀ i x σ H, xs[i]? = some x → Pv i σ H → g x σ H fun σ2 H2 => tb { D with nx := Pv (i + 1), ct := Pv (i + 1), bk := D.nx } σ2 H2) (hd : ∀ σ H, Pv xs.length σ H → D.nx σ H) : LoopF (Itt K a) g tb D σ H := for_tup Pv h0 hl hs hd
def rng1 (R : It → Hp → Prop) (vs : List V) (H : Hp) : Prop := ∃ j : Int, vs = [.int j] ∧ -(2 ^ 62) ≤ j ∧ j < 2 ^ 62 ∧ R (Itr 0 j.toNat) H
def rng2 (R : It → Hp → Prop) (vs : List V) (H : Hp) : Prop := ∃ i j : Int, vs = [.int i, .int j] ∧ (-(2 ^ 62) ≤ i ∧ i < 2 ^ 62 ∧ -(2 ^ 62) ≤ j ∧ j < 2 ^ 62) ∧ R (Itr i (j - i).toNat) H
theorem g_irng1 {ta : TA} {R : It → Hp → Prop} (q : ta σ H (rng1 R)) : iRng1 ta σ H R := q
theorem g_irng2 {ta : TA} {R : It → Hp → Prop} (q : ta σ H (rng2 R)) : iRng2 ta σ H R := q
theorem g_rng1 {R : It → Hp → Prop} (h : -(2 ^ 62) ≤ j ∧ j < 2 ^ 62) (q : R (Itr 0 j.toNat) H) : rng1 R [.int j] H := ⟨j, rfl, h.1, h.2, q⟩
theorem g_rng2 {R : It → Hp → Prop} (h : -(2 ^ 62) ≤ i ∧ i < 2 ^ 62 ∧ -(2 ^ 62) ≤ j ∧ j < 2 ^ 62) (q : R (Itr i (j - i).toNat) H) : rng2 R [.int i, .int j] H := ⟨i, j, rfl, h, q⟩
def ilR (K : PySem.W.Frag) (R : It → Hp → Prop) : VK := fun x H1 => ∃ a, x = .ref a ∧ (∃ xs, SqL K H1 a xs) ∧ R (Itl K a) H1
def itR (K : PySem.W.Frag) (R : It → Hp → Prop) : VK := fun x H1 => ∃ a, x = .ref a ∧ (∃ xs, SqT K H1 a xs) ∧ R (Itt K a) H1
theorem g_ilist {tl : TE} {R : It → Hp → Prop} (q : tl σ H (ilR K R)) : iList K tl σ H R := q
theorem g_itup {tl : TE} {R : It → Hp → Prop} (q : tl σ H (itR K R)) : iTup K tl σ H R := q
theorem g_ilR {a : Addr} {xs : List V} {R : It → Hp → Prop} (h : SqL K H a xs) (q : R (Itl K a) H) : ilR K R (.ref a) H := ⟨a, rfl, ⟨xs, h⟩, q⟩
theorem g_itR {a : Addr} {xs : List V} {R : It → Hp → Prop} (h : SqT K H a xs) (q : R (Itt K a) H) : itR K R (.ref a) H := ⟨a, rfl, ⟨xs, h⟩, q⟩
/-- what a comprehension asks, walked by J, its list at L -/
def LoopC (J : It) (g : TG) (tt : TT) (te : TE) (vs : List Nat) (L : Addr) (σ : L2.St) (Qd : Hp → Prop) (H1 : Hp) : Prop := ∃ W : Nat → Nat → Hp → Prop, (∃ m, W 0 m (upd H1 L (.lst []))) ∧ ∀ i m H, W i m H →
  (J.stop i H ∧ Qd H) ∨ (J.go i H ∧ ∃ Nx : Hp → Prop, (∀ H', Nx H' → ∃ m', m' < m ∧ W (i + 1) m' H') ∧ ∀ x H', J.yld i H x H' → g x (wipe σ vs) H' fun σ2 H2 => wipe σ2 vs = wipe σ vs ∧ tt σ2 H2 fun b H3 =>
    if b = true then te σ2 H3 fun y H4 => ∃ acc, H4 L = some (.lst acc) ∧ acc.length < sizeLine ∧ Nx (upd H4 L (.lst (acc ++ [y]))) else Nx H3)
theorem g_lc {wi : TI} {g : TG} {tt : TT} {vs : List Nat} (q : wi σ H fun J H1 => ∀ L, H1 L = none → LoopC J g tt te vs L σ (fun H => Q (.ref L) H) H1) : tLc wi g tt te vs σ H Q := q
theorem lcl_range {lo : Int} {n : Nat} {g : TG} {tt : TT} {te : TE} {vs : List Nat} {L : Addr} {Qd : Hp → Prop} (Pv : Nat → Hp → Prop) (h0 : Pv 0 (upd H L (.lst [])))
    (hs : ∀ i H, i < n → Pv i H → g (.int (lo + i)) (wipe σ vs) H fun σ2 H2 => wipe σ2 vs = wipe σ vs ∧ tt σ2 H2 fun b H3 =>
      if b = true then te σ2 H3 fun y H4 => ∃ acc, H4 L = some (.lst acc) ∧ acc.length < sizeLine ∧ Pv (i + 1) (upd H4 L (.lst (acc ++ [y]))) else Pv (i + 1) H3) (hd : ∀ H, Pv n H → Qd H) : LoopC (Itr lo n) g tt te vs L σ Qd H := lc_range Pv h0 hs hd
theorem lcl_list {a : Addr} {xs : List V} {g : TG} {tt : TT} {te : TE} {vs : List Nat} {L : Addr} {Qd : Hp → Prop} (Pv : Nat → Hp → Prop) (h0 : Pv 0 (upd H L (.lst []))) (hl : ∀ i H, i ≤ xs.length → Pv i H → SqL K H a xs)
    (hs : ∀ i x H, xs[i]? = some x → Pv i H → g x (wipe σ vs) H fun σ2 H2 => wipe σ2 vs = wipe σ vs ∧ tt σ2 H2 fun b H3 =>
      if b = true then te σ2 H3 fun y H4 => ∃ acc, H4 L = some (.lst acc) ∧ acc.length < sizeLine ∧ Pv (i + 1) (upd H4 L (.lst (acc ++ [y]))) else Pv (i + 1) H3) (hd : ∀ H, Pv xs.length H → Qd H) : LoopC (Itl K a) g tt te vs L σ Qd H := lc_list Pv h0 hl hs hd
theorem lcl_tup {a : Addr} {xs : List V} {g : TG} {tt : TT} {te : TE} {vs : List Nat} {L : Addr} {Qd : Hp → Prop} (Pv : Nat → Hp → Prop) (h0 : Pv 0 (upd H L (.lst []))) (hl : ∀ i H, i ≤ xs.length → Pv i H → SqT K H a xs)
    (hs : ∀ i x H, xs[i]? = some x → Pv i H → g x (wipe σ vs) H fun σ2 H2 => wipe σ2 vs = wipe σ vs ∧ tt σ2 H2 fun b H3 =>
      if b = true then te σ2 H3 fun y H4 => ∃ acc, H4 L = some (.lst acc) ∧ acc.length < sizeLine ∧ Pv (i + 1) (upd H4 L (.lst (acc ++ [y]))) else Pv (i + 1) H3) (hd : ∀ H, Pv xs.length H → Qd H) : LoopC (Itt K a) g tt te vs L σ Qd H := lc_tup Pv h0 hl hs hd
theorem g_yes {Q : Bool → Hp → Prop} (q : Q true H) : tYes σ H Q := q
/-- a power of written numbers -/
theorem g_powE {k : Int} (c : CPow i j) (e : i ^ j.toNat = k) (q : Q (.int k) H) : rI CPow (fun i j => .int (i ^ j.toNat)) (.int i) (.int j) H Q := ⟨i, j, rfl, rfl, c, by show Q (.int (i ^ j.toNat)) H; rw [e]; exact q⟩
theorem cpow_ok (h : 0 ≤ j ∧ j ≤ 1000000 ∧ i.natAbs < 2 ^ 64) : CPow i j := h
theorem atI_of {ns : List Int} {k : Int} (p : Int → Prop) (h0 : 0 ≤ k) (h : k < ns.length) (hp : ∀ z ∈ ns, p z) : ∃ z, atI (ns.map V.int) k = some (.int z) ∧ p z := by
  obtain ⟨j, rfl⟩ : ∃ j : Nat, k = j := ⟨k.toNat, by omega⟩
  have hj : j < ns.length := by omega
  exact ⟨ns[j], atI_nat (by rw [List.getElem?_map, List.getElem?_eq_getElem hj]; rfl), hp _ (List.getElem_mem hj)⟩
theorem two_le : ([x, y] : List V).length ≤ sizeLine := by show 2 ≤ sizeLine; decide
theorem sz_le {n : Nat} (h : n ≤ 100000) : n ≤ sizeLine := Nat.le_trans h (by decide)
theorem sz_lt {n : Nat} (h : n < 100000) : n < sizeLine := Nat.lt_of_lt_of_le h (by decide)
theorem tyX_tup {a : Addr} {xs : List V} (h : SqT K H a xs) : TyX K H (.ref a) (.type "tuple") := by
  rcases h with (h | ⟨o, h⟩) | ⟨o, its, n, h, c, _⟩
  · exact .base (.tup h)
  · exact .fTuple h
  · exact .kTuple h c
theorem tyX_lst {a : Addr} {xs : List V} (h : SqL K H a xs) : TyX K H (.ref a) (.type "list") := by
  rcases h with (h | ⟨o, h⟩) | ⟨o, its, n, h, c, _⟩
  · exact .base (.lst h)
  · exact .base (.frz h)
  · exact .kList h c
theorem g_isiT {a : Addr} {xs : List V} (h : SqT K H a xs) (q : Q (.bl true) H) : rIsi K [.ref a, .ty "tuple"] H Q := g_isi (.ty _) (tyX_tup h) (kit_ty (by decide +kernel)) q
theorem g_isiL {a : Addr} {xs : List V} (h : SqL K H a xs) (q : Q (.bl true) H) : rIsi K [.ref a, .ty "list"] H Q := g_isi (.ty _) (tyX_lst h) (kit_ty (by decide +kernel)) q
theorem g_isiTL {a : Addr} {xs : List V} (h : SqT K H a xs) (q : Q (.bl false) H) : rIsi K [.ref a, .ty "list"] H Q := g_isi (.ty _) (tyX_tup h) (kit_ty (by decide +kernel)) q
theorem g_isiLT {a : Addr} {xs : List V} (h : SqL K H a xs) (q : Q (.bl false) H) : rIsi K [.ref a, .ty "tuple"] H Q := g_isi (.ty _) (tyX_lst h) (kit_ty (by decide +kernel)) q
theorem g_isiI (q : Q (.bl true) H) : rIsi K [.int i, .ty "int"] H Q := g_isi (.ty _) (.base (.int i)) (kit_ty (by decide +kernel)) q
theorem g_isiIB (q : Q (.bl false) H) : rIsi K [.int i, .ty "bool"] H Q := g_isi (.ty _) (.base (.int i)) (kit_ty (by decide +kernel)) q
theorem g_isiB {b : Bool} (q : Q (.bl true) H) : rIsi K [.bl b, .ty "bool"] H Q := g_isi (.ty _) (.base (.bl b)) (kit_ty (by decide +kernel)) q
theorem g_isiS {s : Str} (q : Q (.bl true) H) : rIsi K [.str s, .ty "str"] H Q := g_isi (.ty _) (.base (.str s)) (kit_ty (by decide +kernel)) q
end
/-! ### one step of a reading: what stands below it, found by its head -/
class St1 (g : Prop) (n : outParam Prop) : Prop where
  pf : n → g
section
variable {K : PySem.W.Frag} {σ : L2.St} {H : Hp} {Q : VK} {D : Ends} {x y v : V} {ta tb te : TE} {t u : TS} {i j : Int} {n m : Nat} {b : Bool}
instance  : St1 (tC v σ H Q) (Q v H) := ⟨g_c⟩
instance {r : R2} : St1 (tOp r ta tb σ H Q) (ta σ H fun x H1 => tb σ H1 fun y H2 => r x y H2 Q) := ⟨g_op⟩
instance {r : V → Hp → VK → Prop} : St1 (tUn r ta σ H Q) (ta σ H fun x H1 => r x H1 Q) := ⟨g_un⟩
instance  : St1 (rU (fun i => .int (-i)) (.int i) H Q) (Q (.int (-i)) H) := ⟨g_neg⟩
instance {g : Int → Int → V} : St1 (rI0 g (.int i) (.int j) H Q) (Q (g i j) H) := ⟨g_I0⟩
instance  : St1 (rEq (.int i) (.int j) H Q) (Q (.bl (decide (i = j))) H) := ⟨g_eqI⟩
instance  : St1 (rNe (.int i) (.int j) H Q) (Q (.bl (!decide (i = j))) H) := ⟨g_neI⟩
instance {a b : Bool} : St1 (rEq (.bl a) (.bl b) H Q) (Q (.bl (decide (a = b))) H) := ⟨g_eqB⟩
instance {a b : Bool} : St1 (rNe (.bl a) (.bl b) H Q) (Q (.bl (!decide (a = b))) H) := ⟨g_neB⟩
instance {tr : TA} {Q : List V → Hp → Prop} : St1 (tCons ta tr σ H Q) (ta σ H fun x H1 => tr σ H1 fun xs H2 => Q (x :: xs) H2) := ⟨g_tcons⟩
instance {Q : List V → Hp → Prop} : St1 (tNil σ H Q) (Q [] H) := ⟨g_tnil⟩
instance {r : List V → Hp → VK → Prop} {t : TA} : St1 (tCB r t σ H Q) (t σ H fun vs H1 => r vs H1 Q) := ⟨g_cb⟩
instance {sp : Sp} {dvs : List V} {E : XK} {t : TA} : St1 (tCall sp dvs E t σ H Q) (t σ H fun vs H1 => sp (vs ++ dvs) H1 Q E) := ⟨g_call⟩
instance {t : TA} : St1 (tTup t σ H Q) (t σ H fun xs H1 => xs.length ≤ sizeLine ∧ ∀ p, H1 p = none → Q (.ref p) (upd H1 p (.tup xs))) := ⟨g_tup⟩
instance {t : TA} : St1 (tLst t σ H Q) (t σ H fun xs H1 => xs.length ≤ sizeLine ∧ ∀ p, H1 p = none → Q (.ref p) (upd H1 p (.lst xs))) := ⟨g_lst⟩
instance {c : TT} : St1 (tIfS c t u D σ H) (c σ H fun b H1 => if b = true then t D σ H1 else u D σ H1) := ⟨g_if⟩
instance {Q : Bool → Hp → Prop} : St1 (tTest te σ H Q) (te σ H fun x H' => ∃ k, x = .bl k ∧ Q k H') := ⟨g_test⟩
instance {Q : Bool → Hp → Prop} : St1 (tB te σ H Q) (te σ H fun x H' => ∃ k, x = .bl k ∧ Q k H') := ⟨g_tB⟩
instance {c : TT} {Q : Bool → Hp → Prop} : St1 (tNot c σ H Q) (c σ H fun c H1 => Q (!c) H1) := ⟨g_not⟩
instance {c d : TT} {Q : Bool → Hp → Prop} : St1 (tAnd c d σ H Q) (c σ H fun c H1 => if c = true then d σ H1 Q else Q false H1) := ⟨g_and⟩
instance {c d : TT} {Q : Bool → Hp → Prop} : St1 (tOr c d σ H Q) (c σ H fun c H1 => if c = true then Q true H1 else d σ H1 Q) := ⟨g_or⟩
instance  : St1 (tAndV ta tb σ H Q) (ta σ H fun x H1 => ∃ c, x = .bl c ∧ if c = true then tb σ H1 Q else Q (.bl false) H1) := ⟨g_andV⟩
instance  : St1 (tOrV ta tb σ H Q) (ta σ H fun x H1 => ∃ c, x = .bl c ∧ if c = true then Q (.bl true) H1 else tb σ H1 Q) := ⟨g_orV⟩
instance  : St1 (tNotV ta σ H Q) (ta σ H fun x H1 => ∃ c, x = .bl c ∧ Q (.bl (!c)) H1) := ⟨g_notV⟩
instance  : St1 (tSeq t u D σ H) (t { D with nx := u D } σ H) := ⟨g_seq⟩
instance  : St1 (tNext D σ H) (D.nx σ H) := ⟨g_next⟩
instance {g : TG} : St1 (tAsg te g D σ H) (te σ H fun x H1 => g x σ H1 D.nx) := ⟨g_asg⟩
instance {Q : L2.St → Hp → Prop} : St1 (gName n v σ H Q) (Q (σ.set n (some v)) H) := ⟨g_name⟩
instance  : St1 (tRet te D σ H) (te σ H D.rt) := ⟨g_ret⟩
instance  : St1 (tDrop te D σ H) (te σ H fun _ H1 => D.nx σ H1) := ⟨g_drop⟩
instance {ta : TA} : St1 (tPar n m ta D σ H) (ta σ H fun vs H1 => ∃ v w, vs = [v, w] ∧ D.nx ((σ.set n (some v)).set m (some w)) H1) := ⟨g_par⟩
instance {g : Int → Int → Int} : St1 (ipI g (.int i) (.int j) H Q) (Q (.int (g i j)) H) := ⟨g_ipI⟩
instance {o ix : TE} {s : V → V → V → Hp → (Hp → Prop) → Prop} {Q : L2.St → Hp → Prop} : St1 (gSub o ix s v σ H Q) (o σ H fun o H1 => ix σ H1 fun i H2 => s o i v H2 fun H3 => Q σ H3) := ⟨g_sub⟩
instance  : St1 (rAbs [.int i] H Q) (Q (.int (if i < 0 then -i else i)) H) := ⟨g_abs⟩
instance  : St1 (rMax2 [.int i, .int j] H Q) (Q (.int (if j > i then j else i)) H) := ⟨g_max2⟩
instance  : St1 (rMin2 [.int i, .int j] H Q) (Q (.int (if j < i then j else i)) H) := ⟨g_min2⟩
instance  : St1 (rInt1 [.int i] H Q) (Q (.int i) H) := ⟨g_intI⟩
instance  : St1 (rInt1 [.bl b] H Q) (Q (.int (if b then 1 else 0)) H) := ⟨g_intB⟩
instance {wi : TI} {g : TG} {tb : TS} : St1 (tFor wi g tb D σ H) (wi σ H fun J H1 => LoopF J g tb D σ H1) := ⟨g_for⟩
instance {ta : TA} {R : It → Hp → Prop} : St1 (iRng1 ta σ H R) (ta σ H (rng1 R)) := ⟨g_irng1⟩
instance {ta : TA} {R : It → Hp → Prop} : St1 (iRng2 ta σ H R) (ta σ H (rng2 R)) := ⟨g_irng2⟩
instance {tl : TE} {R : It → Hp → Prop} : St1 (iList K tl σ H R) (tl σ H (ilR K R)) := ⟨g_ilist⟩
instance {tl : TE} {R : It → Hp → Prop} : St1 (iTup K tl σ H R) (tl σ H (itR K R)) := ⟨g_itup⟩
instance {wi : TI} {g : TG} {tt : TT} {vs : List Nat} : St1 (tLc wi g tt te vs σ H Q) (wi σ H fun J H1 => ∀ L, H1 L = none → LoopC J g tt te vs L σ (fun H => Q (.ref L) H) H1) := ⟨g_lc⟩
instance {Q : Bool → Hp → Prop} : St1 (tYes σ H Q) (Q true H) := ⟨g_yes⟩
instance  : St1 (rIsi K [.int i, .ty "int"] H Q) (Q (.bl true) H) := ⟨g_isiI⟩
instance  : St1 (rIsi K [.int i, .ty "bool"] H Q) (Q (.bl false) H) := ⟨g_isiIB⟩
instance  : St1 (rIsi K [.bl b, .ty "bool"] H Q) (Q (.bl true) H) := ⟨g_isiB⟩
instance {s : Str} : St1 (rIsi K [.str s, .ty "str"] H Q) (Q (.bl true) H) := ⟨g_isiS⟩
instance {b : Bool} {Q : Bool → Prop} : St1 (∃ k, V.bl b = .bl k ∧ Q k) (Q b) := ⟨fun q => ⟨b, rfl, q⟩⟩
instance {x y : V} {Q : V → V → Prop} : St1 (∃ v w, [x, y] = [v, w] ∧ Q v w) (Q x y) := ⟨fun q => ⟨x, y, rfl, q⟩⟩
instance {A B : Prop} : St1 (if true = true then A else B) A := ⟨iteT⟩
instance {A B : Prop} : St1 (if false = true then A else B) B := ⟨iteF⟩
instance {A B : Prop} : St1 (if (!true) = true then A else B) B := ⟨iteF⟩
instance {A B : Prop} : St1 (if (!false) = true then A else B) A := ⟨iteT⟩
instance {p A B : Prop} [Decidable p] : St1 (if (!!decide p) = true then A else B) (if decide p = true then A else B) := ⟨fun h => by rw [Bool.not_not]; exact h⟩
end

/-! ### the rules that hang on the written part, with K said -/
section
variable {X : Cx} {K : PySem.W.Frag}
theorem k_isi (h : X.K = K := by rfl) : CallR X (.builtin "isinstance") (rIsi K) := by subst h; exact call_isi
theorem k_isiT (h : X.K = K := by rfl) : CallR X (.builtin "isinstance") (rIsiT K) := by subst h; exact call_isiT
theorem k_ixL (h : X.K = K := by rfl) : IxR X (rIxL K) := by subst h; exact ix_list
theorem k_ixT (h : X.K = K := by rfl) : IxR X (rIxT K) := by subst h; exact ix_tup
theorem k_slL (h : X.K = K := by rfl) : SlR X (rSlL K) := by subst h; exact sl_list
theorem k_slT (h : X.K = K := by rfl) : SlR X (rSlA K) := by subst h; exact sl_tupA
theorem k_len (h : X.K = K := by rfl) : CallR X (.builtin "len") (rLenSeq K) := by subst h; exact cr_lenSeq
theorem k_list (h : X.K = K := by rfl) : CallR X (.type "list") (rListOf K) := by subst h; exact cr_listOf
theorem k_sum (hc : X.calm = true := by rfl) (h : X.K = K := by rfl) : CallR X (.builtin "sum") (rSum K) := by subst h; exact cr_sum hc
theorem k_max (hc : X.calm = true := by rfl) (h : X.K = K := by rfl) : CallR X (.builtin "max") (rMax K) := by subst h; exact cr_max hc
theorem k_min (hc : X.calm = true := by rfl) (h : X.K = K := by rfl) : CallR X (.builtin "min") (rMin K) := by subst h; exact cr_min hc
theorem k_all (hc : X.calm = true := by rfl) (h : X.K = K := by rfl) : CallR X (.builtin "all") (rAll K) := by subst h; exact cr_all hc
theorem k_any (hc : X.calm = true := by rfl) (h : X.K = K := by rfl) : CallR X (.builtin "any") (rAny K) := by subst h; exact cr_any hc
theorem k_sortedI (h : X.K = K := by rfl) : CallR X (.builtin "sorted") (rSortedI K) := by subst h; exact cr_sortedI
theorem k_in (h : X.K = K := by rfl) : OpR X (compareOp .In) (rIn K false) := by subst h; exact op_in_seq
theorem k_notIn (h : X.K = K := by rfl) : OpR X (compareOp .NotIn) (rIn K true) := by subst h; exact op_notIn_seq
theorem k_eqD (hu : X.A.units + 64 < cLine) (h : X.K = K := by rfl) : OpR X (compareOp .Eq) (rEqD K) := by subst h; exact op_eqD hu
theorem k_neD (hu : X.A.units + 64 < cLine) (h : X.K = K := by rfl) : OpR X (compareOp .NotEq) (rNeD K) := by subst h; exact op_neD hu
theorem k_inD (hu : X.A.units + 65 < cLine) (h : X.K = K := by rfl) : OpR X (compareOp .In) (rInD K) := by subst h; exact op_inD hu
theorem k_notInD (hu : X.A.units + 65 < cLine) (h : X.K = K := by rfl) : OpR X (compareOp .NotIn) (rNotInD K) := by subst h; exact op_notInD hu
theorem k_catT (h : X.K = K := by rfl) : OpR X (binaryOp .Add) (rCatA K) := by subst h; exact op_catA
end
section
variable {X : Cx} {K : PySem.W.Frag} {tg : Expr}
theorem k_piL {l : Expr} {tl : TE} (hl : PE X l tl) (h : X.K = K := by rfl) : PI X tg l (iList K tl) := by subst h; exact pi_list hl
theorem k_piT {l : Expr} {tl : TE} (hl : PE X l tl) (h : X.K = K := by rfl) : PI X tg l (iTup K tl) := by subst h; exact pi_tup hl
theorem k_enum {e : Expr} {ta : TA} {p pos tpos : Pos} {elts : List Expr} {kk : Nat} (hg : Gl X "enumerate") (hm : X.mg "enumerate" = none) (ha : PA X [e] ta) (hs : starEach [e] X.env = [(false, eval e X.env)] := by rfl) (h : X.K = K := by rfl) :
    PI X (.Tuple elts kk tpos) (.Call (.Name "enumerate" p) [e] [] pos) (iEnum K ta) := by subst h; exact pi_enum hg hm ha hs
theorem k_zip {e e2 : Expr} {ta : TA} {p pos tpos : Pos} {elts : List Expr} {kk : Nat} (hg : Gl X "zip") (hm : X.mg "zip" = none) (ha : PA X [e, e2] ta)
    (hs : starEach [e, e2] X.env = (false, eval e X.env) :: starEach [e2] X.env := by rfl) (hpl : (backTo pos (starEach [e2] X.env)).any (·.1) = false := by rfl) (h : X.K = K := by rfl) :
    PI X (.Tuple elts kk tpos) (.Call (.Name "zip" p) [e, e2] [] pos) (iZip K ta) := by subst h; exact pi_zip hg hm ha hs hpl
theorem k_tup {pos : Pos} {es : List Expr} {k : Nat} {t : TGs} {n : Nat} (hc : X.calm = true) (h : PGs X es t)
    (hn : (assignEach es X.env).length = n := by rfl) (hst : (assignEach es X.env).findIdx? (·.1) = none := by rfl) (h : X.K = K := by rfl) : PG X (.Tuple es k pos) (gTup K n t) := by subst h; exact pg_tup hc (by assumption) hn hst
end

/-! ### fractions: the mathematics -/
theorem divInt_num (t b : Int) (hb : b ≠ 0) : (Rat.divInt t b).num = if b < 0 then t.fdiv (-(Int.gcd t b : Int)) else t.fdiv (Int.gcd t b : Int) := by
  rw [Rat.num_divInt, Int.gcd_comm]
  have hd : ((t.gcd b : Nat) : Int) ∣ t := Int.gcd_dvd_left t b
  by_cases h : b < 0
  · rw [if_pos h, Int.sign_eq_neg_one_of_neg h, Int.fdiv_eq_ediv_of_dvd (Int.neg_dvd.mpr hd), Int.ediv_neg, Int.neg_mul, Int.one_mul, Int.neg_ediv_of_dvd hd]
  · rw [if_neg h, Int.sign_eq_one_of_pos (by omega), Int.one_mul, Int.fdiv_eq_ediv_of_dvd hd]
theorem divInt_den (t b : Int) (hb : b ≠ 0) : ((Rat.divInt t b).den : Int) = if b < 0 then b.fdiv (-(Int.gcd t b : Int)) else b.fdiv (Int.gcd t b : Int) := by
  rw [Rat.den_divInt, if_neg hb, Int.gcd_comm]
  have hd : ((t.gcd b : Nat) : Int) ∣ b := Int.gcd_dvd_right t b
  by_cases h : b < 0
  · rw [if_pos h, Int.fdiv_eq_ediv_of_dvd (Int.neg_dvd.mpr hd), Int.ediv_neg, ← Int.neg_ediv_of_dvd hd, Int.natCast_ediv]
    congr 1; omega
  · rw [if_neg h, Int.fdiv_eq_ediv_of_dvd hd, Int.natCast_ediv]
    congr 1; omega
theorem gcd_fmod (a b : Int) : b.gcd (a.fmod b) = a.gcd b := by
  rw [Int.fmod_def, Int.gcd_sub_mul_left_right, Int.gcd_comm]
theorem fmod_small (a b : Int) (hb : b ≠ 0) : (a.fmod b).natAbs < b.natAbs := by
  by_cases h : 0 < b
  · have h1 := Int.fmod_nonneg_of_pos a h
    have h2 := Int.fmod_lt_of_pos a h
    omega
  · have h0 : 0 < -b := by omega
    have e : a.fmod b = -((-a).fmod (-b)) := by
      rw [Int.fmod_def, Int.fmod_def, Int.neg_fdiv_neg, Int.neg_mul]; omega
    have h1 := Int.fmod_nonneg_of_pos (-a) h0
    have h2 := Int.fmod_lt_of_pos (-a) h0
    omega
theorem gcd_lt {t b : Int} {n : Nat} (hb : b ≠ 0) (h : b.natAbs < 2 ^ n) : (Int.gcd t b : Int).natAbs < 2 ^ n := by
  have : Int.gcd t b ≤ b.natAbs := Nat.le_of_dvd (by omega) (Nat.gcd_dvd_right _ _)
  show Int.gcd t b < 2 ^ n
  omega
theorem gcd_pos' {t b : Int} (hb : b ≠ 0) : 0 < (Int.gcd t b : Int) := by
  have := Int.gcd_pos_iff (a := t) (b := b) |>.mpr (.inr hb)
  omega
theorem gcd_abs (a b : Int) : Int.gcd (if a < 0 then -a else a) (if b < 0 then -b else b) = Int.gcd a b := by
  unfold Int.gcd
  congr 1 <;> split <;> omega
/-- what a fraction's tuple holds -/
def FV (x : Rat) : List V := [.int x.num, .int (x.den : Int)]
/-- small enough -/
def Bd (n : Nat) (x : Rat) : Prop := x.num.natAbs < 2 ^ n ∧ (x.den : Int).natAbs < 2 ^ n
theorem Bd.mono {n m : Nat} {x : Rat} (h : Bd n x) (l : n ≤ m) : Bd m x := ⟨Nat.lt_of_lt_of_le h.1 (Nat.pow_le_pow_right (by decide) l), Nat.lt_of_lt_of_le h.2 (Nat.pow_le_pow_right (by decide) l)⟩
theorem Bd.num {n : Nat} {x : Rat} (h : Bd n x) : x.num.natAbs < 2 ^ n := h.1
theorem Bd.de {n : Nat} {x : Rat} (h : Bd n x) : (x.den : Int).natAbs < 2 ^ n := h.2
theorem den_ne (x : Rat) : (x.den : Int) ≠ 0 := by have := x.den_pos; omega
theorem den_pos' (x : Rat) : (0 : Int) < (x.den : Int) := by have := x.den_pos; omega
theorem mulW {i j : Int} (n m : Nat) (h1 : i.natAbs < 2 ^ n) (h2 : j.natAbs < 2 ^ m) (h0 : 0 < n := by decide) (h3 : 0 < m := by decide) (h : n + m ≤ 1000000 := by decide) : CMulW i j := wide_mul h1 h2 h0 h3 h
theorem plus_eq (x y : Rat) : Rat.divInt (x.num * y.den + y.num * x.den) (x.den * y.den) = x + y := by
  have := Rat.divInt_add_divInt x.num y.num (den_ne x) (den_ne y)
  rw [Rat.num_divInt_den, Rat.num_divInt_den] at this
  exact this.symm
theorem minus_eq (x y : Rat) : Rat.divInt (x.num * y.den - y.num * x.den) (x.den * y.den) = x - y := by
  have := Rat.divInt_sub_divInt x.num y.num (den_ne x) (den_ne y)
  rw [Rat.num_divInt_den, Rat.num_divInt_den] at this
  exact this.symm
theorem times_eq (x y : Rat) : Rat.divInt (x.num * y.num) (x.den * y.den) = x * y := by
  have := Rat.divInt_mul_divInt x.num y.num (d₁ := x.den) (d₂ := y.den)
  rw [Rat.num_divInt_den, Rat.num_divInt_den] at this
  exact this.symm
theorem divided_eq (x y : Rat) : Rat.divInt (x.num * y.den) (x.den * y.num) = x / y := by
  have h := Rat.divInt_mul_divInt x.num y.den (d₁ := x.den) (d₂ := y.num)
  rw [← Rat.inv_divInt y.num y.den, Rat.num_divInt_den, Rat.num_divInt_den] at h
  rw [Rat.div_def]; exact h.symm
theorem lt_eq (x y : Rat) : decide (x.num * (y.den : Int) < y.num * (x.den : Int)) = decide (x < y) := by
  rw [decide_eq_decide]; exact (Rat.lt_iff x y).symm
theorem natAbs_mul_lt {i j : Int} {n m : Nat} (h1 : i.natAbs < 2 ^ n) (h2 : j.natAbs < 2 ^ m) : (i * j).natAbs < 2 ^ (n + m) := wide_lt h1 h2
/-- the floor by a divisor of either sign -/
def CDivV (_ j : Int) : Prop := j ≠ 0 ∧ j.natAbs.log2 < 9000
theorem op_fdivV {X : Cx} : OpR X (binaryOp .FloorDiv) (rI CDivV fun i j => .int (i.fdiv j)) := opI fun i j _ _ _ _ _ hc q =>
  floordiv_int hc.1 q (.inl (PyProof.noPylong_of_log2 hc.2))
theorem divV {i j : Int} (n : Nat) (h : j ≠ 0) (hb : j.natAbs < 2 ^ n) (h0 : 0 < n := by decide) (h9 : n ≤ 9000 := by decide) : CDivV i j := ⟨h, Nat.lt_of_lt_of_le (PySem.Flt.log2_lt_of h0 hb) h9⟩
section
variable {Q : VK} {H : Hp} {i j : Int}
theorem g_divV (c : CDivV i j) (q : Q (.int (i.fdiv j)) H) : rI CDivV (fun i j => .int (i.fdiv j)) (.int i) (.int j) H Q := ⟨i, j, rfl, rfl, c, q⟩
theorem g_modN (c : j ≠ 0) (q : Q (.int (i.fmod j)) H) : rI (fun _ j => j ≠ 0) (fun i j => .int (i.fmod j)) (.int i) (.int j) H Q := ⟨i, j, rfl, rfl, c, q⟩
end
abbrev Fr (K : PySem.W.Frag) (H : Hp) (a : Addr) (x : Rat) : Prop := SqT K H a (FV x)

/-! ### == of data -/
/-- a fraction as a datum -/
def FD (x : Rat) : PyData := .tuple [.int x.num, .int (x.den : Int)]
theorem rat_ext {x y : Rat} : x = y ↔ x.num = y.num ∧ x.den = y.den := ⟨fun e => by subst e; exact ⟨rfl, rfl⟩, fun ⟨a, b⟩ => Rat.ext a b⟩
theorem FD_eqv (x y : Rat) : PyData.eqv (FD x) (FD y) = decide (x = y) := by
  unfold FD
  simp only [PyData.eqv, PyData.eqvAll, Bool.and_true]
  rw [Bool.eq_iff_iff]
  simp only [Bool.and_eq_true, beq_iff_eq, decide_eq_true_eq, rat_ext, Int.natCast_inj]
theorem FD_shaped (x : Rat) : SeqAt.shaped (FD x) = true := rfl
theorem FD_dp {K : PySem.W.Frag} {H : Hp} {a : Addr} {x : Rat} (h : Fr K H a x) : Dp K H (.ref a) (FD x) := .tup h (.cons (.int _) (.cons (.int _) .nil))
theorem g_eqF {K : PySem.W.Frag} {H : Hp} {Q : VK} {a b : Addr} {x y : Rat} (h1 : Fr K H a x) (h2 : Fr K H b y) (q : Q (.bl (decide (x = y))) H) : rEqD K (.ref a) (.ref b) H Q := ⟨_, _, FD_dp h1, FD_dp h2, rfl, rfl, by rw [FD_eqv]; exact q⟩
theorem g_neF {K : PySem.W.Frag} {H : Hp} {Q : VK} {a b : Addr} {x y : Rat} (h1 : Fr K H a x) (h2 : Fr K H b y) (q : Q (.bl (!decide (x = y))) H) : rNeD K (.ref a) (.ref b) H Q := ⟨_, _, FD_dp h1, FD_dp h2, rfl, rfl, by rw [FD_eqv]; exact q⟩
/-- an empty list against a list -/
theorem g_neNil {K : PySem.W.Frag} {H : Hp} {Q : VK} {a b : Addr} (h1 : SqL K H a []) (h2 : SqL K H b []) (q : Q (.bl false) H) : rNeD K (.ref a) (.ref b) H Q := ⟨_, _, .lst h1 .nil, .lst h2 .nil, rfl, rfl, q⟩
theorem g_eqNil {K : PySem.W.Frag} {H : Hp} {Q : VK} {a b : Addr} (h1 : SqL K H a []) (h2 : SqL K H b []) (q : Q (.bl true) H) : rEqD K (.ref a) (.ref b) H Q := ⟨_, _, .lst h1 .nil, .lst h2 .nil, rfl, rfl, q⟩

section
variable {P : Program} {w : World} {K : PySem.W.Frag} {mg : Str → Option Value} {base : Heap}
/-! ### fractions: the walk -/
def sp_common : Sp := fun vs H Q _ => ∃ a b : Int, vs = [.int a, .int b] ∧ Q (.int (Int.gcd a b)) H
theorem abs_gcd0 (a : Int) : (if a < 0 then -a else a) = (Int.gcd a 0 : Int) := by
  rw [Int.gcd_zero_right]; split <;> omega
def sp_fraction : Sp := fun vs H Q _ => ∃ t b : Int, vs = [.int t, .int b] ∧ b ≠ 0 ∧ b.natAbs < 2 ^ 8500 ∧ ∀ p, H p = none → Q (.ref p) (upd H p (.tup (FV (Rat.divInt t b))))
/-- two fractions to one -/
def sp2F (K : PySem.W.Frag) (f : Rat → Rat → Rat) (pre : Rat → Rat → Prop) : Sp := fun vs H Q _ => ∃ (a b : Addr) (x y : Rat), vs = [.ref a, .ref b] ∧ Fr K H a x ∧ Fr K H b y ∧ Bd 4000 x ∧ Bd 4000 y ∧ pre x y ∧
  ∀ p, H p = none → Q (.ref p) (upd H p (.tup (FV (f x y))))
theorem fr_at {H : Hp} {a : Addr} {x : Rat} {o : HO} (h : o = .tup (FV x)) : Fr K (upd H a o) a x := by subst h; exact sqT_at
def sp_below (K : PySem.W.Frag) : Sp := fun vs H Q _ => ∃ (a b : Addr) (x y : Rat), vs = [.ref a, .ref b] ∧ Fr K H a x ∧ Fr K H b y ∧ Bd 4000 x ∧ Bd 4000 y ∧ Q (.bl (decide (x < y))) H
end

/-! ### the law's pool of draws -/
/-- a pool with at most n draws behind it -/
def Pool (n : Nat) (H : Hp) (p : Addr) : Prop := ∃ a b c : Int, H p = some (.lst [.int a, .int b, .int c]) ∧ 0 ≤ c ∧ c ≤ n
theorem Pool.mono {n m : Nat} {H : Hp} {p : Addr} (h : Pool n H p) (l : n ≤ m) : Pool m H p := by
  obtain ⟨a, b, c, e, h0, h1⟩ := h
  exact ⟨a, b, c, e, h0, by omega⟩
theorem Pool.same {n : Nat} {H H' : Hp} {p : Addr} (h : Pool n H p) (s : Same H H') : Pool n H' p := by
  obtain ⟨a, b, c, e, h0, h1⟩ := h
  exact ⟨a, b, c, s _ _ e, h0, h1⟩
theorem Pool.new {n : Nat} {H : Hp} {p q : Addr} {o : HO} (h : Pool n H p) (s : H q = none) : Pool n (upd H q o) p := h.same (same_new s)
theorem Pool.some {n : Nat} {H : Hp} {p : Addr} (h : Pool n H p) : ∃ xs, H p = Option.some (.lst xs) := by
  obtain ⟨a, b, c, e, _⟩ := h
  exact ⟨_, e⟩
theorem sqT_pool {K : PySem.W.Frag} {n : Nat} {H H' : Hp} {p a : Addr} {xs : List V} (b : But p H H') (e : Pool n H p) (h : SqT K H a xs) : SqT K H' a xs := by
  obtain ⟨ys, e⟩ := e.some
  exact sqT_but b e h
theorem same_of_but {p : Addr} {H H' : Hp} (b : But p H H') (n : H p = none) : Same H H' := fun q o e => b q o (ne_of_none e n) e
theorem But.newp {p q : Addr} {H H' : Hp} {o : HO} (b : But p H H') (n : H' q = none) : But p H (upd H' q o) := b.trans (But.new n)
section
variable {P : Program} {w : World} {K : PySem.W.Frag} {mg : Str → Option Value} {base : Heap}
def sp_pool (K : PySem.W.Frag) : Sp := fun vs H Q _ => ∃ (a : Addr) (ns : List Int) (k : Int), vs = [.ref a, .int k] ∧ SqL K H a (ns.map V.int) ∧ 0 ≤ k ∧ k ≤ 1000 ∧
  ∀ p H', H p = none → Same H H' → Pool 23000 H' p → Q (.ref p) H'
theorem atI_int {ns : List Int} {k : Int} (h0 : 0 ≤ k) (h : k < ns.length) : ∃ z, atI (ns.map V.int) k = some (.int z) := by
  obtain ⟨j, rfl⟩ : ∃ j : Nat, k = j := ⟨k.toNat, by omega⟩
  have hj : j < ns.length := by omega
  exact ⟨ns[j], atI_nat (by rw [List.getElem?_map, List.getElem?_eq_getElem hj]; rfl)⟩
def sp_take (K : PySem.W.Frag) : Sp := fun vs H Q _ => ∃ (p : Addr) (n : Nat) (m : Int), vs = [.ref p, .int m] ∧ Pool n H p ∧ n ≤ 2 ^ 60 ∧ 0 < m ∧ m.natAbs < 2 ^ 8500 ∧
  ∀ r H', 0 ≤ r → r < m → But p H H' → Pool (n + 1) H' p → Q (.int r) H'
end

/-! ### the law's own fractions -/
theorem Bd_divInt {t b : Int} {n : Nat} (hb : b ≠ 0) (h1 : t.natAbs < 2 ^ n) (h2 : b.natAbs < 2 ^ n) : Bd n (Rat.divInt t b) := by
  constructor
  · rw [Rat.num_divInt]
    refine Nat.lt_of_le_of_lt ?_ h1
    rw [Int.natAbs_ediv_of_dvd (Int.dvd_mul_of_dvd_right (Int.gcd_dvd_right b t)), Int.natAbs_mul, Int.natAbs_sign_of_ne_zero hb, Nat.one_mul]
    exact Nat.div_le_self _ _
  · rw [Rat.den_divInt, if_neg hb]
    exact Nat.lt_of_le_of_lt (Nat.div_le_self _ _) h2
theorem atI_memV {xs : List V} {k : Int} (p : V → Prop) (h0 : 0 ≤ k) (h : k < xs.length) (hp : ∀ z ∈ xs, p z) : ∃ z, atI xs k = some z ∧ p z := by
  obtain ⟨j, rfl⟩ : ∃ j : Nat, k = j := ⟨k.toNat, by omega⟩
  have hj : j < xs.length := by omega
  exact ⟨xs[j], atI_nat (List.getElem?_eq_getElem hj), hp _ (List.getElem_mem hj)⟩
theorem FV_neg (x : Rat) : FV (-x) = [.int (0 - x.num), .int (x.den : Int)] := by
  unfold FV
  rw [Rat.neg_num, Rat.neg_den, Int.zero_sub]
theorem Bd.neg {n : Nat} {x : Rat} (h : Bd n x) : Bd n (-x) := by
  unfold Bd at *
  rw [Rat.neg_num, Rat.neg_den]
  omega
section
variable {P : Program} {w : World} {K : PySem.W.Frag} {mg : Str → Option Value} {base : Heap}
def sp_figures (K : PySem.W.Frag) : Sp := fun vs H Q _ => ∃ (p : Addr) (n : Nat), vs = [.ref p] ∧ Pool n H p ∧ n ≤ 2 ^ 59 ∧
  ∀ r H', 0 ≤ r → r < 10 ^ 40 → But p H H' → Pool (n + 10) H' p → Q (.int r) H'
/-- a drawn fraction -/
def sp_q (K : PySem.W.Frag) : Sp := fun vs H Q _ => ∃ (p : Addr) (n : Nat), vs = [.ref p] ∧ Pool n H p ∧ n ≤ 2 ^ 58 ∧
  ∀ a x H', H a = none → Bd 134 x → But p H H' → Pool (n + 40) H' p → Fr K H' a x → Q (.ref a) H'
theorem pool_ne {n : Nat} {H : Hp} {p l : Addr} (h : Pool n H p) (e : H l = none) : l ≠ p := fun z => by
  obtain ⟨xs, e2⟩ := h.some
  rw [← z, e] at e2; cases e2
theorem FV_zero : FV 0 = [.int 0, .int 1] := rfl
theorem Bd_zero {n : Nat} (h : 0 < n) : Bd n 0 := ⟨Nat.pow_pos (by decide), Nat.one_lt_two_pow (by omega)⟩
theorem free_but {p a : Addr} {H H' : Hp} (b : But p H H') (n : a ≠ p) (e : H' a = none) : H a = none := by
  cases h : H a with
  | none => rfl
  | some o => rw [b a o n h] at e; cases e
end

section
variable {P : Program} {w : World} {K : PySem.W.Frag} {mg : Str → Option Value} {base : Heap}
/-- found is told to be the fraction t over b -/
def sp_isfr (K : PySem.W.Frag) : Sp := fun vs H Q _ => ∃ (a : Addr) (t b : Int), vs = [.ref a, .int t, .int b] ∧ Fr K H a (Rat.divInt t b) ∧ b ≠ 0 ∧ b.natAbs < 2 ^ 8500 ∧ ∀ H', Same H H' → Q (.bl true) H'
end

/-! ### bounds, and the deeds by one step each -/
def IB (n : Nat) (i : Int) : Prop := i.natAbs < 2 ^ n
theorem IB.mono {n m : Nat} {i : Int} (h : IB n i) (l : n ≤ m) : IB m i := Nat.lt_of_lt_of_le h (Nat.pow_le_pow_right (by decide) l)
theorem IB.num {n : Nat} {x : Rat} (h : Bd n x) : IB n x.num := h.1
theorem IB.den {n : Nat} {x : Rat} (h : Bd n x) : IB n (x.den : Int) := h.2
theorem IB.mul {n m : Nat} {i j : Int} (h : IB n i) (h' : IB m j) : IB (n + m) (i * j) := natAbs_mul_lt h h'
theorem two_pow_max {n m : Nat} {a b : Nat} (h : a < 2 ^ n) (h' : b < 2 ^ m) : a + b < 2 ^ (max n m + 1) := by
  have h1 := Nat.pow_le_pow_right (n := 2) (by decide) (Nat.le_max_left n m)
  have h2 := Nat.pow_le_pow_right (n := 2) (by decide) (Nat.le_max_right n m)
  rw [Nat.pow_succ]
  omega
theorem IB.add {n m : Nat} {i j : Int} (h : IB n i) (h' : IB m j) : IB (max n m + 1) (i + j) := Nat.lt_of_le_of_lt (Int.natAbs_add_le i j) (two_pow_max h h')
theorem IB.sub {n m : Nat} {i j : Int} (h : IB n i) (h' : IB m j) : IB (max n m + 1) (i - j) := by
  refine Nat.lt_of_le_of_lt ?_ (two_pow_max h h')
  omega
theorem IB.neg {n : Nat} {i : Int} (h : IB n i) : IB n (-i) := by unfold IB at *; rw [Int.natAbs_neg]; exact h
theorem IB.lit {i : Int} (h : i.natAbs < 2 ^ 64 := by decide) : IB 64 i := h
theorem IB.mulW {n m : Nat} {i j : Int} (h : IB n i) (h' : IB m j) (l : n + m + 2 ≤ 1000000) : CMulW i j := wide_mul (a := n + 1) (b := m + 1) (h.mono (by omega)) (h'.mono (by omega)) (by omega) (by omega) (by omega)
theorem Bd_add {n m : Nat} {x y : Rat} (h : Bd n x) (h' : Bd m y) : Bd (n + m + 1) (x + y) := by
  rw [← plus_eq]
  refine Bd_divInt (Int.ne_of_gt (Int.mul_pos (den_pos' x) (den_pos' y))) ?_ ?_
  · exact (IB.add (IB.mul (IB.num h) (IB.den h')) (IB.mul (IB.num h') (IB.den h))).mono (by omega)
  · exact (IB.mul (IB.den h) (IB.den h')).mono (by omega)
theorem Bd_sub {n m : Nat} {x y : Rat} (h : Bd n x) (h' : Bd m y) : Bd (n + m + 1) (x - y) := by
  rw [← minus_eq]
  refine Bd_divInt (Int.ne_of_gt (Int.mul_pos (den_pos' x) (den_pos' y))) ?_ ?_
  · exact (IB.sub (IB.mul (IB.num h) (IB.den h')) (IB.mul (IB.num h') (IB.den h))).mono (by omega)
  · exact (IB.mul (IB.den h) (IB.den h')).mono (by omega)
theorem Bd_mul {n m : Nat} {x y : Rat} (h : Bd n x) (h' : Bd m y) : Bd (n + m) (x * y) := by
  rw [← times_eq]
  refine Bd_divInt (Int.ne_of_gt (Int.mul_pos (den_pos' x) (den_pos' y))) ?_ ?_
  · exact IB.mul (IB.num h) (IB.num h')
  · exact IB.mul (IB.den h) (IB.den h')
theorem num_ne {y : Rat} (h : y ≠ 0) : y.num ≠ 0 := fun z => h (Rat.num_eq_zero.mp z)
theorem Bd_div {n m : Nat} {x y : Rat} (h : Bd n x) (h' : Bd m y) (h0 : y ≠ 0) : Bd (n + m) (x / y) := by
  rw [← divided_eq]
  refine Bd_divInt (Int.mul_ne_zero (den_ne x) (num_ne h0)) ?_ ?_
  · exact IB.mul (IB.num h) (IB.den h')
  · exact IB.mul (IB.den h) (IB.num h')
section
variable {K : PySem.W.Frag} {H : Hp} {Q : VK} {E : XK} {a b : Addr} {x y : Rat} {t u : Int}
theorem g_plus (hx : Fr K H a x) (hy : Fr K H b y) (bx : Bd 4000 x) (bu : Bd 4000 y) (q : ∀ p, H p = none → Q (.ref p) (upd H p (.tup (FV (x + y))))) : sp2F K (fun x y => x + y) (fun _ _ => True) ([.ref a, .ref b] ++ []) H Q E := ⟨a, b, x, y, rfl, hx, hy, bx, bu, trivial, q⟩
theorem g_minus (hx : Fr K H a x) (hy : Fr K H b y) (bx : Bd 4000 x) (bu : Bd 4000 y) (q : ∀ p, H p = none → Q (.ref p) (upd H p (.tup (FV (x - y))))) : sp2F K (fun x y => x - y) (fun _ _ => True) ([.ref a, .ref b] ++ []) H Q E := ⟨a, b, x, y, rfl, hx, hy, bx, bu, trivial, q⟩
theorem g_times (hx : Fr K H a x) (hy : Fr K H b y) (bx : Bd 4000 x) (bu : Bd 4000 y) (q : ∀ p, H p = none → Q (.ref p) (upd H p (.tup (FV (x * y))))) : sp2F K (fun x y => x * y) (fun _ _ => True) ([.ref a, .ref b] ++ []) H Q E := ⟨a, b, x, y, rfl, hx, hy, bx, bu, trivial, q⟩
theorem g_divided (hx : Fr K H a x) (hy : Fr K H b y) (bx : Bd 4000 x) (bu : Bd 4000 y) (h0 : y ≠ 0) (q : ∀ p, H p = none → Q (.ref p) (upd H p (.tup (FV (x / y))))) : sp2F K (fun x y => x / y) (fun _ y => y ≠ 0) ([.ref a, .ref b] ++ []) H Q E := ⟨a, b, x, y, rfl, hx, hy, bx, bu, h0, q⟩
theorem g_below (hx : Fr K H a x) (hy : Fr K H b y) (bx : Bd 4000 x) (bu : Bd 4000 y) (q : Q (.bl (decide (x < y))) H) : sp_below K ([.ref a, .ref b] ++ []) H Q E := ⟨a, b, x, y, rfl, hx, hy, bx, bu, q⟩
theorem g_frac (h0 : u ≠ 0) (h : IB 8500 u) (q : ∀ p, H p = none → Q (.ref p) (upd H p (.tup (FV (Rat.divInt t u))))) : sp_fraction ([.int t, .int u] ++ []) H Q E := ⟨t, u, rfl, h0, h, q⟩
theorem ifN_known {p A B : Prop} [Decidable p] (h : p) (q : B) : if (!decide p) = true then A else B := by
  rw [decide_eq_true h]; exact q
theorem ifY_known {p A B : Prop} [Decidable p] (h : p) (q : A) : if decide p = true then A else B := by
  rw [decide_eq_true h]; exact q
theorem fin_eq {p : Prop} [Decidable p] {Q : VK} (h : p) (q : Q (.bl true) H) : Q (.bl (decide p)) H := by rw [decide_eq_true h]; exact q
end

/-! ### lists of fractions -/
def TS (K : PySem.W.Frag) (H H' : Hp) : Prop := ∀ a xs, SqT K H a xs → SqT K H' a xs
theorem TS.refl {K : PySem.W.Frag} (H : Hp) : TS K H H := fun _ _ h => h
theorem TS.trans {K : PySem.W.Frag} {H H1 H2 : Hp} (a : TS K H H1) (b : TS K H1 H2) : TS K H H2 := fun x xs h => b x xs (a x xs h)
theorem Same.ts {K : PySem.W.Frag} {H H' : Hp} (s : Same H H') : TS K H H' := fun _ _ h => sqT_same s h
theorem ts_but {K : PySem.W.Frag} {H H' : Hp} {p : Addr} {ys : List V} (b : But p H H') (e : H p = some (.lst ys)) : TS K H H' := fun _ _ h => sqT_but b e h
theorem ts_pool {K : PySem.W.Frag} {H H' : Hp} {p : Addr} {n : Nat} (b : But p H H') (e : Pool n H p) : TS K H H' := fun _ _ h => sqT_pool b e h
theorem ts_new {K : PySem.W.Frag} {H : Hp} {p : Addr} {o : HO} (e : H p = none) : TS K H (upd H p o) := fun _ _ h => sqT_new e h
theorem ts_mut {K : PySem.W.Frag} {H : Hp} {p : Addr} {o : HO} {ys : List V} (e : H p = some (.lst ys)) : TS K H (upd H p o) := fun _ _ h => sqT_mut e h
def Frs (K : PySem.W.Frag) (H : Hp) : List V → List Rat → Prop
  | [], [] => True
  | v :: vs, x :: xs => (∃ a, v = .ref a ∧ Fr K H a x) ∧ Frs K H vs xs
  | _, _ => False
section
variable {K : PySem.W.Frag} {H H' : Hp}
theorem Frs.ts (t : TS K H H') : ∀ {vs : List V} {xs : List Rat}, Frs K H vs xs → Frs K H' vs xs
  | [], [], _ => True.intro
  | _ :: _, _ :: _, ⟨⟨a, e, h⟩, r⟩ => ⟨⟨a, e, t _ _ h⟩, Frs.ts t r⟩
  | [], _ :: _, h => h.elim
  | _ :: _, [], h => h.elim
theorem Frs.len : ∀ {vs : List V} {xs : List Rat}, Frs K H vs xs → vs.length = xs.length
  | [], [], _ => rfl
  | _ :: _, _ :: _, ⟨_, r⟩ => by rw [List.length_cons, List.length_cons, Frs.len r]
  | [], _ :: _, h => h.elim
  | _ :: _, [], h => h.elim
theorem Frs.snoc {a : Addr} {x : Rat} (h : Fr K H a x) : ∀ {vs : List V} {xs : List Rat}, Frs K H vs xs → Frs K H (vs ++ [.ref a]) (xs ++ [x])
  | [], [], _ => ⟨⟨a, rfl, h⟩, True.intro⟩
  | _ :: _, _ :: _, ⟨e, r⟩ => ⟨e, Frs.snoc h r⟩
  | [], _ :: _, h => h.elim
  | _ :: _, [], h => h.elim
theorem Frs.get : ∀ {vs : List V} {xs : List Rat} {i : Nat} {v : V}, Frs K H vs xs → vs[i]? = some v → ∃ a x, v = .ref a ∧ xs[i]? = some x ∧ Fr K H a x
  | [], [], _, _, _, h => by simp at h
  | _ :: _, x :: _, 0, v, ⟨⟨a, e, h⟩, _⟩, g => ⟨a, x, (Option.some.inj g).symm.trans e, rfl, h⟩
  | _ :: _, _ :: _, i + 1, v, ⟨_, r⟩, g => Frs.get (i := i) r g
  | [], _ :: _, _, _, h, _ => h.elim
  | _ :: _, [], _, _, h, _ => h.elim
theorem Frs.at : ∀ {vs : List V} {xs : List Rat} {i : Nat} {x : Rat}, Frs K H vs xs → xs[i]? = some x → ∃ a, vs[i]? = some (.ref a) ∧ Fr K H a x
  | [], [], _, _, _, h => by simp at h
  | v :: _, x :: _, 0, y, ⟨⟨a, e, h⟩, _⟩, g => by
    obtain rfl : x = y := Option.some.inj g
    exact ⟨a, by rw [e]; rfl, h⟩
  | _ :: _, _ :: _, i + 1, v, ⟨_, r⟩, g => Frs.at (i := i) r g
  | [], _ :: _, _, _, h, _ => h.elim
  | _ :: _, [], _, _, h, _ => h.elim
theorem k_unl {X : Cx} {pos : Pos} {es : List Expr} {k : Nat} {t : TGs} {n : Nat} (hc : X.calm = true) (h : PGs X es t)
    (hn : (assignEach es X.env).length = n := by rfl) (hst : (assignEach es X.env).findIdx? (·.1) = none := by rfl) (h : X.K = K := by rfl) : PG X (.Tuple es k pos) (gUnl K n t) := by subst h; exact pg_unl hc (by assumption) hn hst
end
theorem num_cast (x : Rat) : ((x.num : Int) : Rat) = x * ((x.den : Int) : Rat) := by
  have h := Rat.num_divInt_den x
  rw [Rat.divInt_eq_div] at h
  have h2 : ((x.den : Int) : Rat) ≠ 0 := fun z => den_ne x (by exact_mod_cast z)
  grind
theorem den_cast (x : Rat) : ((x.den : Int) : Rat) ≠ 0 := fun z => den_ne x (by exact_mod_cast z)
theorem fr_one_at {K : PySem.W.Frag} {H : Hp} {a : Addr} : Fr K (upd H a (.tup [.int 1, .int 1])) a 1 := sqT_at (xs := [.int 1, .int 1])
theorem fr_zero_at {K : PySem.W.Frag} {H : Hp} {a : Addr} : Fr K (upd H a (.tup [.int 0, .int 1])) a 0 := sqT_at (xs := [.int 0, .int 1])
theorem fr_int_at {K : PySem.W.Frag} {H : Hp} {a : Addr} {i : Int} : Fr K (upd H a (.tup [.int i, .int 1])) a ((i : Int) : Rat) := sqT_at (xs := [.int i, .int 1])
theorem fr_neg_at {K : PySem.W.Frag} {H : Hp} {a : Addr} {x : Rat} : Fr K (upd H a (.tup [.int (0 - x.num), .int (x.den : Int)])) a (-x) := by
  show SqT _ _ _ _
  rw [FV_neg]
  exact sqT_at
theorem Bd_int {n : Nat} {i : Int} (h : IB n i) : Bd (n + 1) ((i : Int) : Rat) := ⟨IB.mono h (by omega), Nat.one_lt_two_pow (by omega)⟩
theorem Bd_one : Bd 1 (1 : Rat) := ⟨by decide, by decide⟩
theorem ifY_no {p A B : Prop} [Decidable p] (h : ¬p) (q : B) : if decide p = true then A else B := by
  rw [decide_eq_false h]; exact q
theorem ifN_no {p A B : Prop} [Decidable p] (h : ¬p) (q : A) : if (!decide p) = true then A else B := by
  rw [decide_eq_false h]; exact q
theorem neg_ne {i : Int} (h : i ≠ 0) : 0 - i ≠ 0 := by omega
theorem rat_num_pos {x : Rat} : 0 < x.num ↔ 0 < x := by
  rw [Rat.lt_iff]
  show _ ↔ (0 : Int) * (x.den : Int) < x.num * ((1 : Nat) : Int)
  rw [Int.zero_mul, Int.natCast_one, Int.mul_one]
/-- the sum of the first i of some fractions -/
def sumT (xs : List Rat) : Nat → Rat
  | 0 => 0
  | i + 1 => sumT xs i + xs.getD i 0
theorem getD_of {xs : List Rat} {i : Nat} {x : Rat} (h : xs[i]? = some x) : xs.getD i 0 = x := by
  rw [List.getD_eq_getElem?_getD, h]; rfl
theorem mem_of_at {α : Type} {xs : List α} {i : Nat} {x : α} (h : xs[i]? = some x) : x ∈ xs := List.mem_of_getElem? h
section
variable {H : Hp} {Q : VK} {a : Addr} {i : Int} {s : Str} {b : Bool}
instance : St1 (rIsN (.ref a) .non H Q) (Q (.bl false) H) := ⟨fun q => ⟨rfl, q⟩⟩
instance : St1 (rIsN .non .non H Q) (Q (.bl true) H) := ⟨fun q => ⟨rfl, q⟩⟩
instance : St1 (rNotN (.ref a) .non H Q) (Q (.bl true) H) := ⟨fun q => ⟨rfl, q⟩⟩
instance : St1 (rNotN .non .non H Q) (Q (.bl false) H) := ⟨fun q => ⟨rfl, q⟩⟩
instance : St1 (rIsN (.int i) .non H Q) (Q (.bl false) H) := ⟨fun q => ⟨rfl, q⟩⟩
instance : St1 (rNotN (.int i) .non H Q) (Q (.bl true) H) := ⟨fun q => ⟨rfl, q⟩⟩
end
theorem cutV_int (ns : List Int) (lo hi : Option Int) : ∃ ms : List Int, cutV (ns.map V.int) lo hi = ms.map V.int ∧ ms.length ≤ ns.length := by
  unfold cutV
  refine ⟨(ns.drop (HT.sIx (ns.map V.int).length 0 lo)).take (HT.sIx (ns.map V.int).length (ns.map V.int).length hi - HT.sIx (ns.map V.int).length 0 lo), ?_, ?_⟩
  · rw [List.map_take, List.map_drop]
  · rw [List.length_take, List.length_drop]; omega
section
variable {K : PySem.W.Frag} {σ : L2.St} {H : Hp} {Q : VK} {T : String} {to : TE}
instance {r : V → List V → Hp → VK → Prop} {t : TA} : St1 (tBM K T r to t σ H Q) (to σ H fun x H1 => tyV K T x H1 ∧ t σ H1 fun xs H2 => r x xs H2 Q) := ⟨fun h => h⟩
instance {r : V → List V → Hp → VK → Prop} : St1 (tBM0 K T r to σ H Q) (to σ H fun x H1 => tyV K T x H1 ∧ r x [] H1 Q) := ⟨fun h => h⟩
theorem ty_l {a : Addr} {xs : List V} (h : H a = some (.lst xs)) : tyV K "list" (.ref a) H := .inl ⟨rfl, _, SqL.of h⟩
end
/-! ### data of any depth -/
mutual
theorem dp_same {K : PySem.W.Frag} {H H' : Hp} (s : Same H H') : ∀ (d : PyData) (v : V), Dp K H v d → Dp K H' v d
  | .none, _, h => by cases h; exact .non
  | .bool b, _, h => by cases h; exact .bl b
  | .int i, _, h => by cases h; exact .int i
  | .str x, _, h => by cases h; exact .str x
  | .list ds, _, h => by
    cases h with
    | lst h1 h2 => exact .lst (sqL_same s h1) (dpAll_same s ds _ h2)
  | .tuple ds, _, h => by
    cases h with
    | tup h1 h2 => exact .tup (sqT_same s h1) (dpAll_same s ds _ h2)
  | .dict _, _, h => nomatch h
theorem dpAll_same {K : PySem.W.Frag} {H H' : Hp} (s : Same H H') : ∀ (ds : List PyData) (vs : List V), DpAll K H vs ds → DpAll K H' vs ds
  | [], _, h => by cases h; exact .nil
  | d :: ds, _, h => by
    cases h with
    | cons h1 h2 => exact .cons (dp_same s d _ h1) (dpAll_same s ds _ h2)
end
section
variable {K : PySem.W.Frag} {H H' : Hp} {Q : VK} {x y v : V} {d e : PyData} {ds : List PyData} {vs : List V}
theorem Dp.sm (h : Dp K H v d) (s : Same H H') : Dp K H' v d := dp_same s d v h
theorem DpAll.sm (h : DpAll K H vs ds) (s : Same H H') : DpAll K H' vs ds := dpAll_same s ds vs h
theorem Dp.lstI (h : Dp K H v (.list ds)) : ∃ a xs, v = .ref a ∧ SqL K H a xs ∧ DpAll K H xs ds := by
  cases h with
  | lst h1 h2 => exact ⟨_, _, rfl, h1, h2⟩
theorem Dp.tupI (h : Dp K H v (.tuple ds)) : ∃ a xs, v = .ref a ∧ SqT K H a xs ∧ DpAll K H xs ds := by
  cases h with
  | tup h1 h2 => exact ⟨_, _, rfl, h1, h2⟩
theorem DpAll.len : ∀ {vs : List V} {ds : List PyData}, DpAll K H vs ds → vs.length = ds.length
  | _, _, .nil => rfl
  | _, _, .cons _ h => by rw [List.length_cons, List.length_cons, DpAll.len h]
theorem DpAll.get : ∀ {vs : List V} {ds : List PyData} {i : Nat} {d : PyData}, DpAll K H vs ds → ds[i]? = some d → ∃ v, vs[i]? = some v ∧ Dp K H v d
  | _, _, _, _, .nil, h => by simp at h
  | _, _, 0, _, .cons h1 _, h => by cases h; exact ⟨_, rfl, h1⟩
  | _, _, i + 1, _, .cons _ h2, h => DpAll.get (i := i) h2 h
theorem DpAll.got : ∀ {vs : List V} {ds : List PyData} {i : Nat} {v : V}, DpAll K H vs ds → vs[i]? = some v → ∃ d, ds[i]? = some d ∧ Dp K H v d
  | _, _, _, _, .nil, h => by simp at h
  | _, _, 0, _, .cons h1 _, h => by cases h; exact ⟨_, rfl, h1⟩
  | _, _, i + 1, _, .cons _ h2, h => DpAll.got (i := i) h2 h
theorem DpAll.snoc : ∀ {vs : List V} {ds : List PyData}, DpAll K H vs ds → Dp K H v d → DpAll K H (vs ++ [v]) (ds ++ [d])
  | _, _, .nil, h => .cons h .nil
  | _, _, .cons h1 h2, h => .cons h1 (DpAll.snoc h2 h)
theorem FD_fr {a : Addr} {x : Rat} (h : Dp K H (.ref a) (FD x)) : Fr K H a x := by
  cases h with
  | tup h1 h2 =>
    cases h2 with
    | cons h3 h4 =>
      cases h4 with
      | cons h5 h6 =>
        cases h3; cases h5; cases h6
        exact h1
theorem FD_ref {x : Rat} (h : Dp K H v (FD x)) : ∃ a, v = .ref a ∧ Fr K H a x := by
  obtain ⟨a, xs, rfl, _⟩ := Dp.tupI h
  exact ⟨a, rfl, FD_fr h⟩
theorem Frs.dp : ∀ {vs : List V} {xs : List Rat}, Frs K H vs xs → DpAll K H vs (xs.map FD)
  | [], [], _ => .nil
  | _ :: _, _ :: _, ⟨⟨a, e, h⟩, r⟩ => by subst e; exact .cons (FD_dp h) (Frs.dp r)
  | [], _ :: _, h => h.elim
  | _ :: _, [], h => h.elim
theorem frs_dp : ∀ {vs : List V} {xs : List Rat}, DpAll K H vs (xs.map FD) → Frs K H vs xs
  | _, [], h => by cases h; exact True.intro
  | _, x :: xs, h => by
    cases h with
    | cons h1 h2 => exact ⟨FD_ref h1, frs_dp h2⟩
/-- looks that == asks: lying, and no deeper than n -/
def Sh (n : Nat) (d : PyData) : Prop := d.canLay0 = true ∧ d.depth ≤ n
theorem Sh.ok {n : Nat} (h : Sh n d) (l : n ≤ 64 := by decide) : SeqAt.shaped d = true := by
  unfold SeqAt.shaped
  rw [h.1, Bool.true_and]
  exact decide_eq_true (Nat.le_trans h.2 l)
theorem sh_all {n : Nat} : ∀ {ds : List PyData}, (∀ d ∈ ds, Sh n d) → PyData.canLayAll0 ds = true ∧ PyData.depthAll ds ≤ n
  | [], _ => ⟨rfl, Nat.zero_le _⟩
  | d :: ds, h => by
    have h1 := h d List.mem_cons_self
    have h2 := sh_all fun e he => h e (List.mem_cons_of_mem _ he)
    constructor
    · rw [PyData.canLayAll0, h1.1, h2.1]; rfl
    · rw [PyData.depthAll]; exact Nat.max_le.mpr ⟨h1.2, h2.2⟩
theorem Sh.lst {n : Nat} (h : ∀ d ∈ ds, Sh n d) : Sh (n + 1) (.list ds) := by
  have z := sh_all h
  exact ⟨by rw [PyData.canLay0]; exact z.1, by rw [PyData.depth]; exact Nat.add_le_add_right z.2 1⟩
theorem Sh.tup {n : Nat} (h : ∀ d ∈ ds, Sh n d) : Sh (n + 1) (.tuple ds) := by
  have z := sh_all h
  exact ⟨by rw [PyData.canLay0]; exact z.1, by rw [PyData.depth]; exact Nat.add_le_add_right z.2 1⟩
theorem Sh.mono {n m : Nat} (h : Sh n d) (l : n ≤ m) : Sh m d := ⟨h.1, Nat.le_trans h.2 l⟩
theorem Sh.int {i : Int} {n : Nat} : Sh n (.int i) := ⟨rfl, Nat.zero_le _⟩
theorem Sh.fd {x : Rat} : Sh 1 (FD x) := ⟨rfl, Nat.le_refl _⟩
/-- a list of fractions, a table, a list of ints as data -/
def FL (xs : List Rat) : PyData := .list (xs.map FD)
def TD (t : List (List Rat)) : PyData := .list (t.map FL)
def IL (ns : List Int) : PyData := .list (ns.map PyData.int)
theorem Sh.fl {xs : List Rat} : Sh 2 (FL xs) := Sh.lst fun d h => by
  obtain ⟨x, _, rfl⟩ := List.mem_map.mp h
  exact Sh.fd
theorem Sh.td {t : List (List Rat)} : Sh 3 (TD t) := Sh.lst fun d h => by
  obtain ⟨x, _, rfl⟩ := List.mem_map.mp h
  exact Sh.fl
theorem Sh.il {ns : List Int} : Sh 1 (IL ns) := Sh.lst fun d h => by
  obtain ⟨x, _, rfl⟩ := List.mem_map.mp h
  exact Sh.int
theorem il_dp : ∀ {ns : List Int}, DpAll K H (ns.map V.int) (ns.map PyData.int)
  | [] => .nil
  | n :: ns => .cons (.int n) il_dp
theorem IL_dp {a : Addr} {ns : List Int} (h : SqL K H a (ns.map V.int)) : Dp K H (.ref a) (IL ns) := .lst h il_dp
theorem g_neSame {n : Nat} (h1 : Dp K H x d) (h2 : Dp K H y d) (s : Sh n d) (q : Q (.bl false) H) (l : n ≤ 64 := by decide) : rNeD K x y H Q := ⟨d, d, h1, h2, s.ok l, s.ok l, by rw [SeqAt.eqv_refl d s.1]; exact q⟩
theorem g_eqSame {n : Nat} (h1 : Dp K H x d) (h2 : Dp K H y d) (s : Sh n d) (q : Q (.bl true) H) (l : n ≤ 64 := by decide) : rEqD K x y H Q := ⟨d, d, h1, h2, s.ok l, s.ok l, by rw [SeqAt.eqv_refl d s.1]; exact q⟩
/-- a list of ints against a fresh empty list -/
theorem eqv_nil (ds : List PyData) : PyData.eqv (.list ds) (.list []) = decide (ds = []) := by
  cases ds <;> simp [PyData.eqv, PyData.eqvAll]
theorem g_neE {a b : Addr} {n : Nat} {xs : List V} (h : SqL K H a xs) (hd : DpAll K H xs ds) (s : Sh n (.list ds)) (hb : SqL K H b []) (q : Q (.bl (!decide (ds = []))) H) (l : n ≤ 64 := by decide) : rNeD K (.ref a) (.ref b) H Q :=
  ⟨_, _, .lst h hd, .lst hb .nil, s.ok l, rfl, by rw [eqv_nil]; exact q⟩
theorem g_eqE {a b : Addr} {n : Nat} {xs : List V} (h : SqL K H a xs) (hd : DpAll K H xs ds) (s : Sh n (.list ds)) (hb : SqL K H b []) (q : Q (.bl (decide (ds = []))) H) (l : n ≤ 64 := by decide) : rEqD K (.ref a) (.ref b) H Q :=
  ⟨_, _, .lst h hd, .lst hb .nil, s.ok l, rfl, by rw [eqv_nil]; exact q⟩
/-- a cell of a table -/
theorem td_row {T : V} {t : List (List Rat)} {i : Nat} {row : List Rat} (h : Dp K H T (TD t)) (hr : t[i]? = some row) : ∃ a xs r, T = .ref a ∧ SqL K H a xs ∧ xs[i]? = some (.ref r) ∧ ∃ vs, SqL K H r vs ∧ Frs K H vs row := by
  obtain ⟨a, xs, rfl, hs, hd⟩ := Dp.lstI h
  obtain ⟨v, hv, hdv⟩ := DpAll.get hd (i := i) (d := FL row) (by rw [List.getElem?_map, hr]; rfl)
  obtain ⟨r, vs, rfl, hs2, hd2⟩ := Dp.lstI hdv
  exact ⟨a, xs, r, rfl, hs, hv, vs, hs2, frs_dp hd2⟩
/-- what is never called -/
def spNever : Sp := fun _ _ _ _ => False
theorem never_ok {P : Program} {w : World} {mg : Str → Option Value} {base : Heap} {k : Nat} {f : Addr} {fd : FuncData} {ps : List Str} : FnOk P w K mg base CX0 k f fd ps spNever :=
  ⟨fun _ _ _ _ h => h.elim, fun _ _ _ _ _ _ _ _ _ _ _ _ _ h => h.elim⟩
end
theorem same_mut {H H' : Hp} {p : Addr} {o : HO} (e : Same H H') (h : H p = none) : Same H (upd H' p o) := fun b u hb => by
  rw [upd_ne (ne_of_none hb h)]
  exact e b u hb
/-! ### tables by places -/
def at2 (t : List (List Rat)) (i j : Nat) : Rat := (t.getD i []).getD j 0
structure Sqr (b n : Nat) (t : List (List Rat)) : Prop where
  len : t.length = n
  row : ∀ r ∈ t, r.length = n
  bd : ∀ r ∈ t, ∀ x ∈ r, Bd b x
theorem Sqr.at {b n : Nat} {t : List (List Rat)} (s : Sqr b n t) {i j : Nat} (hi : i < n) (hj : j < n) : ∃ r, t[i]? = some r ∧ r[j]? = some (at2 t i j) ∧ Bd b (at2 t i j) := by
  have h1 : i < t.length := by rw [s.len]; exact hi
  have e1 : t[i]? = some t[i] := List.getElem?_eq_getElem h1
  have h2 : j < t[i].length := by rw [s.row _ (List.getElem_mem h1)]; exact hj
  have e2 : t[i][j]? = some t[i][j] := List.getElem?_eq_getElem h2
  have e3 : at2 t i j = t[i][j] := by
    unfold at2
    rw [show t.getD i [] = t[i] by rw [List.getD_eq_getElem?_getD, e1, Option.getD_some], List.getD_eq_getElem?_getD, e2, Option.getD_some]
  exact ⟨t[i], e1, by rw [e3]; exact e2, by rw [e3]; exact s.bd _ (List.getElem_mem h1) _ (List.getElem_mem h2)⟩
/-- a cell's way: the row's place, the cell's place -/
theorem td_at {K : PySem.W.Frag} {H : Hp} {T : V} {b n : Nat} {t : List (List Rat)} (h : Dp K H T (TD t)) (s : Sqr b n t) : ∃ a xs, T = .ref a ∧ SqL K H a xs ∧ xs.length = n ∧
    ∀ i, i < n → ∃ r vs, xs[i]? = some (.ref r) ∧ SqL K H r vs ∧ vs.length = n ∧ ∀ j, j < n → ∃ c, vs[j]? = some (.ref c) ∧ Fr K H c (at2 t i j) := by
  obtain ⟨a, xs, rfl, hs, hd⟩ := Dp.lstI h
  refine ⟨a, xs, rfl, hs, by rw [DpAll.len hd, List.length_map, s.len], fun i hi => ?_⟩
  have h1 : i < t.length := by rw [s.len]; exact hi
  have e1 : t[i]? = some t[i] := List.getElem?_eq_getElem h1
  obtain ⟨v, hv, hdv⟩ := DpAll.get hd (i := i) (d := FL t[i]) (by rw [List.getElem?_map, e1]; rfl)
  obtain ⟨r, vs, rfl, hs2, hd2⟩ := Dp.lstI hdv
  have fr := frs_dp hd2
  refine ⟨r, vs, hv, hs2, by rw [fr.len, s.row _ (List.getElem_mem h1)], fun j hj => ?_⟩
  obtain ⟨r', e2, e3, _⟩ := s.at hi hj
  rw [e1] at e2
  cases e2
  exact fr.at e3
def ab (x : Rat) : Rat := if x < 0 then -x else x
theorem ab_num (x : Rat) : x.num < 0 ↔ x < 0 := by
  rw [Rat.lt_iff]
  show _ ↔ x.num * ((1 : Nat) : Int) < (0 : Int) * (x.den : Int)
  rw [Int.zero_mul, Int.natCast_one, Int.mul_one]
theorem range_snoc {α : Type} (f : Nat → α) (i : Nat) : (List.range (i + 1)).map f = (List.range i).map f ++ [f i] := by
  rw [List.range_succ, List.map_append]; rfl
/-! ### a list under way, and all that does not hang on it -/
section
variable {K : PySem.W.Frag} {H H' : Hp} {L a : Addr} {o : HO} {xs : List V}
theorem same_del : Same (delH H L) H := fun b u e => by
  by_cases z : b = L
  · rw [z, delH_same] at e; cases e
  · rw [delH_ne z] at e; exact e
theorem del_mono (s : Same H H') : Same (delH H L) (delH H' L) := fun b u e => by
  by_cases z : b = L
  · rw [z, delH_same] at e; cases e
  · rw [delH_ne z] at e ⊢; exact s b u e
theorem del_upd : Same (delH H L) (delH (upd H L o) L) := fun b u e => by
  by_cases z : b = L
  · rw [z, delH_same] at e; cases e
  · rw [delH_ne z] at e ⊢; rw [upd_ne z]; exact e
theorem to_del (s : Same H H') (n : H L = none) : Same H (delH H' L) := fun b u e => by
  rw [delH_ne (ne_of_none e n)]; exact s b u e
theorem ts_del (e : H L = some (.lst xs)) : TS K H (delH H L) := fun c ys h => by
  rcases h with (h | ⟨u, h⟩) | h
  · exact .inl (.inl (by rw [delH_ne (ne_of h e (by intro z; cases z))]; exact h))
  · exact .inl (.inr ⟨u, by rw [delH_ne (ne_of h e (by intro z; cases z))]; exact h⟩)
  · exact .inr h
theorem sql_del {ys : List V} (h : H a = some (.lst ys)) (n : a ≠ L) : SqL K (delH H L) a ys := SqL.of (by rw [delH_ne n]; exact h)
/-- a fresh list of fractions, beside L -/
theorem fl_del {ys : List V} {qs : List Rat} (e : H L = some (.lst xs)) (h : H a = some (.lst ys)) (n : a ≠ L) (f : Frs K H ys qs) : Dp K (delH H L) (.ref a) (FL qs) := .lst (sql_del h n) (Frs.dp (Frs.ts (ts_del e) f))
theorem lcd_list {σ : L2.St} {g : TG} {te : TE} {vs : List Nat} {Qd : Hp → Prop} (e : Nat → PyData) (hs : SqL K H a xs) (nL : H L = none) (sz : xs.length < 100000)
    (turn : ∀ i x H' (R : VK), xs[i]? = some x → Same H H' → (∃ acc, H' L = some (.lst acc)) → (∀ y H4, Same H' H4 → Dp K (delH H4 L) y (e i) → R y H4) → g x (wipe σ vs) H' fun σ2 H2 => wipe σ2 vs = wipe σ vs ∧ te σ2 H2 R)
    (done : ∀ ws H', H' L = some (.lst ws) → Same H H' → DpAll K (delH H' L) ws ((List.range xs.length).map e) → Qd H') : LoopC (Itl K a) g tYes te vs L σ Qd H := by
  refine lcl_list (K := K) (a := a) (xs := xs) (fun i H' => ∃ ws, H' L = some (.lst ws) ∧ Same H H' ∧ DpAll K (delH H' L) ws ((List.range i).map e)) ⟨[], upd_same, same_new nL, .nil⟩ (fun i H' _ ⟨_, _, s1, _⟩ => sqL_same s1 hs) ?_ (fun H' ⟨ws, h1, h2, h3⟩ => done ws H' h1 h2 h3)
  rintro i x H' hx ⟨ws, h1, h2, h3⟩
  have hi : i < xs.length := (List.getElem?_eq_some_iff.mp hx).1
  have := turn i x H' (fun y H4 => ∃ acc, H4 L = some (.lst acc) ∧ acc.length < sizeLine ∧ ∃ ws, upd H4 L (.lst (acc ++ [y])) L = some (.lst ws) ∧ Same H (upd H4 L (.lst (acc ++ [y]))) ∧ DpAll K (delH (upd H4 L (.lst (acc ++ [y]))) L) ws ((List.range (i + 1)).map e)) hx h2 ⟨ws, h1⟩ (fun y H4 s4 d4 => by
    refine ⟨ws, s4 _ _ h1, sz_lt (by rw [DpAll.len h3, List.length_map, List.length_range]; omega), ws ++ [y], upd_same, same_mut (h2.trans s4) nL, ?_⟩
    rw [range_snoc]
    exact DpAll.sm (DpAll.snoc (DpAll.sm h3 (del_mono s4)) d4) del_upd)
  exact this
theorem lcd_range {lo : Int} {n : Nat} {σ : L2.St} {g : TG} {te : TE} {vs : List Nat} {Qd : Hp → Prop} (e : Nat → PyData) (nL : H L = none) (sz : n < 100000)
    (turn : ∀ (i : Nat) H' (R : VK), i < n → Same H H' → (∃ acc, H' L = some (.lst acc)) → (∀ y H4, Same H' H4 → Dp K (delH H4 L) y (e i) → R y H4) → g (.int (lo + i)) (wipe σ vs) H' fun σ2 H2 => wipe σ2 vs = wipe σ vs ∧ te σ2 H2 R)
    (done : ∀ ws H', H' L = some (.lst ws) → Same H H' → DpAll K (delH H' L) ws ((List.range n).map e) → Qd H') : LoopC (Itr lo n) g tYes te vs L σ Qd H := by
  refine lcl_range (fun i H' => ∃ ws, H' L = some (.lst ws) ∧ Same H H' ∧ DpAll K (delH H' L) ws ((List.range i).map e)) ⟨[], upd_same, same_new nL, .nil⟩ ?_ (fun H' ⟨ws, h1, h2, h3⟩ => done ws H' h1 h2 h3)
  rintro i H' hi ⟨ws, h1, h2, h3⟩
  have := turn i H' (fun y H4 => ∃ acc, H4 L = some (.lst acc) ∧ acc.length < sizeLine ∧ ∃ ws, upd H4 L (.lst (acc ++ [y])) L = some (.lst ws) ∧ Same H (upd H4 L (.lst (acc ++ [y]))) ∧ DpAll K (delH (upd H4 L (.lst (acc ++ [y]))) L) ws ((List.range (i + 1)).map e)) hi h2 ⟨ws, h1⟩ (fun y H4 s4 d4 => by
    refine ⟨ws, s4 _ _ h1, sz_lt (by rw [DpAll.len h3, List.length_map, List.length_range]; omega), ws ++ [y], upd_same, same_mut (h2.trans s4) nL, ?_⟩
    rw [range_snoc]
    exact DpAll.sm (DpAll.snoc (DpAll.sm h3 (del_mono s4)) d4) del_upd)
  exact this
theorem int_dp : ∀ {vs : List V} {ns : List Int}, DpAll K H vs (ns.map PyData.int) → vs = ns.map V.int
  | _, [], h => by cases h; rfl
  | _, n :: ns, h => by
    cases h with
    | cons h1 h2 => cases h1; rw [int_dp h2]; rfl
theorem range_at {α β : Type} (f : α → β) (xs : List α) (d : α) : (List.range xs.length).map (fun i => f (xs.getD i d)) = xs.map f := by
  apply List.ext_getElem
  · simp
  · intro i h1 h2
    simp only [List.getElem_map, List.getElem_range]
    rw [List.getD_eq_getElem?_getD, List.getElem?_eq_getElem (by simpa using h1)]
    rfl
end
/-! ### a deck -/
/-- a deck: a list of one number -/
def Deck (H : Hp) (p : Addr) : Prop := ∃ a : Int, H p = some (.lst [.int a])
theorem Deck.same {H H' : Hp} {p : Addr} (h : Deck H p) (s : Same H H') : Deck H' p := by
  obtain ⟨a, e⟩ := h
  exact ⟨a, s _ _ e⟩
theorem Deck.new {H : Hp} {p q : Addr} {o : HO} (h : Deck H p) (s : H q = none) : Deck (upd H q o) p := h.same (same_new s)
theorem deck_ne {H : Hp} {p l : Addr} (h : Deck H p) (e : H l = none) : l ≠ p := fun z => by
  obtain ⟨a, e2⟩ := h
  rw [← z, e] at e2; cases e2
theorem sqT_deck {K : PySem.W.Frag} {H H' : Hp} {p a : Addr} {xs : List V} (b : But p H H') (e : Deck H p) (h : SqT K H a xs) : SqT K H' a xs := by
  obtain ⟨z, e⟩ := e
  exact sqT_but b e h
theorem ts_deck {K : PySem.W.Frag} {H H' : Hp} {p : Addr} (b : But p H H') (e : Deck H p) : TS K H H' := fun _ _ h => sqT_deck b e h
/-! ### places on a line -/
def awayL (t : List (List Rat)) : Nat → List Nat
  | 0 => []
  | k + 1 => awayL t k ++ if at2 t 0 k = 0 then [] else [k]
theorem awayL_lt (t : List (List Rat)) : ∀ {k i : Nat}, i ∈ awayL t k → i < k ∧ at2 t 0 i ≠ 0
  | k + 1, i, h => by
    unfold awayL at h
    rcases List.mem_append.mp h with h | h
    · have := awayL_lt t h
      exact ⟨by omega, this.2⟩
    · split at h
      · cases h
      · rw [List.mem_singleton.mp h]
        exact ⟨by omega, by assumption⟩
def placeR (t : List (List Rat)) (k : Nat) : Rat := match (awayL t t.length) with
  | [] => 0
  | f :: _ => if ab (at2 t 0 k - at2 t 0 f) = at2 t f k then at2 t 0 k else -(at2 t 0 k)
def fitsR (t : List (List Rat)) : Prop := ∀ i, i < t.length → ∀ j, j < i → ab (placeR t i - placeR t j) = at2 t i j
theorem placeR_bd {b n : Nat} {t : List (List Rat)} (s : Sqr b n t) (hb : 0 < b) (k : Nat) (hk : k < n) : Bd b (placeR t k) := by
  obtain ⟨_, _, _, b1⟩ := s.at (i := 0) (by omega) hk
  unfold placeR
  split
  · exact Bd_zero hb
  · split
    · exact b1
    · exact b1.neg
theorem frs_rep {K : PySem.W.Frag} {H : Hp} {a : Addr} {x : Rat} (h : Fr K H a x) : ∀ n, Frs K H (List.replicate n (.ref a)) (List.replicate n x)
  | 0 => True.intro
  | n + 1 => ⟨⟨a, rfl, h⟩, frs_rep h n⟩
def toI (l : List Nat) : List Int := l.map fun k : Nat => (k : Int)
/-! ### points at whole places, over a bottom -/
def zAt (ns : List Int) (k : Nat) : Int := ns.getD k 0
def dz (ns : List Int) (k : Nat) : Int := zAt ns k - zAt ns 0
def awayZ (ns : List Int) : Nat → List Nat
  | 0 => []
  | k + 1 => awayZ ns k ++ if dz ns k = 0 then [] else [k]
def sgZ (ns : List Int) : Int := match awayZ ns ns.length with
  | [] => 1
  | f :: _ => if dz ns f < 0 then -1 else 1
def toldZ (ns : List Int) (k : Nat) : Int := if sgZ ns = 1 then dz ns k else 0 - dz ns k
def absI (i : Int) : Int := if i < 0 then -i else i
def linedZ (ns : List Int) : List (List Int) := ns.map fun a => ns.map fun c => absI (a - c)
def overB (b : Int) (ts : List (List Int)) : List (List Rat) := ts.map fun r => r.map fun i => Rat.divInt i b
theorem getD_map {α β : Type} (f : α → β) (xs : List α) (k : Nat) (d : α) (e : β) (h : k < xs.length) : (xs.map f).getD k e = f (xs.getD k d) := by
  rw [List.getD_eq_getElem?_getD, List.getElem?_map, List.getD_eq_getElem?_getD, List.getElem?_eq_getElem h]
  rfl
theorem lined_at (ns : List Int) (b : Int) {i j : Nat} (hi : i < ns.length) (hj : j < ns.length) : at2 (overB b (linedZ ns)) i j = Rat.divInt (absI (zAt ns i - zAt ns j)) b := by
  unfold at2 overB linedZ zAt
  rw [List.map_map, getD_map _ ns i 0 [] hi]
  simp only [Function.comp]
  rw [List.map_map, getD_map _ ns j 0 0 hj]
  rfl
theorem div_ab {b : Int} (hb : 0 < b) (i : Int) : Rat.divInt (absI i) b = ab (Rat.divInt i b) := by
  have hb' : (0 : Rat) < (b : Rat) := by exact_mod_cast hb
  have hi : Rat.divInt i b < 0 ↔ i < 0 := by
    rw [Rat.divInt_eq_div]
    have h1 : ((i : Int) : Rat) = (i : Rat) / (b : Rat) * (b : Rat) := by grind
    constructor
    · intro h
      have h2 : ((i : Int) : Rat) < 0 := by
        rw [h1]
        have := (Rat.mul_lt_mul_right (a := (i : Rat) / (b : Rat)) (b := 0) hb').mpr h
        rw [Rat.zero_mul] at this
        exact this
      exact_mod_cast h2
    · intro h
      have h2 : ((i : Int) : Rat) < 0 := by exact_mod_cast h
      rw [h1] at h2
      refine (Rat.mul_lt_mul_right (a := (i : Rat) / (b : Rat)) (b := 0) hb').mp ?_
      rw [Rat.zero_mul]
      exact h2
  unfold absI ab
  by_cases h : i < 0
  · rw [if_pos h, if_pos (hi.mpr h), Rat.divInt_eq_div, Rat.divInt_eq_div, Rat.intCast_neg]; grind
  · rw [if_neg h, if_neg (fun z => h (hi.mp z))]
theorem div_sub {b : Int} (hb : 0 < b) (i j : Int) : Rat.divInt (i - j) b = Rat.divInt i b - Rat.divInt j b := by
  rw [Rat.divInt_eq_div, Rat.divInt_eq_div, Rat.divInt_eq_div, Rat.intCast_sub]
  grind
theorem div_zero {b : Int} (hb : 0 < b) (i : Int) : Rat.divInt i b = 0 ↔ i = 0 := by
  have hb' : ((b : Int) : Rat) ≠ 0 := fun z => by have : b = 0 := by exact_mod_cast z
                                                  omega
  rw [Rat.divInt_eq_div]
  constructor
  · intro h
    have : ((i : Int) : Rat) = 0 := by grind
    exact_mod_cast this
  · rintro rfl
    rw [Rat.intCast_zero]; grind
theorem lined_sqr (ns : List Int) (b : Int) (hb : 0 < b) {m : Nat} (h1 : ∀ z ∈ ns, IB m z) (h2 : IB (m + 1) b) : Sqr (m + 1) ns.length (overB b (linedZ ns)) where
  len := by unfold overB linedZ; rw [List.length_map, List.length_map]
  row := fun r h => by
    unfold overB linedZ at h
    rw [List.map_map] at h
    obtain ⟨a, _, rfl⟩ := List.mem_map.mp h
    simp
  bd := fun r h x hx => by
    unfold overB linedZ at h
    rw [List.map_map] at h
    obtain ⟨a, ha, rfl⟩ := List.mem_map.mp h
    simp only [Function.comp, List.map_map] at hx
    obtain ⟨c, hc, rfl⟩ := List.mem_map.mp hx
    refine Bd_divInt (by omega) ?_ h2
    have := IB.sub (h1 a ha) (h1 c hc)
    rw [Nat.max_self] at this
    unfold IB at this
    show (absI (a - c)).natAbs < 2 ^ (m + 1)
    unfold absI
    split <;> omega
theorem away_eq (ns : List Int) {b : Int} (hb : 0 < b) : ∀ k, k ≤ ns.length → awayL (overB b (linedZ ns)) k = awayZ ns k
  | 0, _ => rfl
  | k + 1, h => by
    unfold awayL awayZ
    rw [away_eq ns hb k (by omega), lined_at ns b (by omega) (by omega)]
    congr 1
    have : (Rat.divInt (absI (zAt ns 0 - zAt ns k)) b = 0) ↔ dz ns k = 0 := by
      rw [div_zero hb]
      unfold absI dz
      split <;> omega
    by_cases e : dz ns k = 0
    · rw [if_pos e, if_pos (this.mpr e)]
    · rw [if_neg e, if_neg (fun z => e (this.mp z))]
theorem awayZ_lt (ns : List Int) : ∀ {k i : Nat}, i ∈ awayZ ns k → i < k ∧ dz ns i ≠ 0
  | k + 1, i, h => by
    unfold awayZ at h
    rcases List.mem_append.mp h with h | h
    · have := awayZ_lt ns h
      exact ⟨by omega, this.2⟩
    · split at h
      · cases h
      · rw [List.mem_singleton.mp h]
        exact ⟨by omega, by assumption⟩
theorem awayZ_nil (ns : List Int) : ∀ {k : Nat}, awayZ ns k = [] → ∀ i, i < k → dz ns i = 0
  | k + 1, h, i, hi => by
    unfold awayZ at h
    obtain ⟨h1, h2⟩ := List.append_eq_nil_iff.mp h
    by_cases e : i = k
    · subst e
      by_cases z : dz ns i = 0
      · exact z
      · rw [if_neg z] at h2; cases h2
    · exact awayZ_nil ns h1 i (by omega)
/-- the program's places of such points are the law's -/
theorem place_told (ns : List Int) {b : Int} (hb : 0 < b) {k : Nat} (hk : k < ns.length) : placeR (overB b (linedZ ns)) k = Rat.divInt (toldZ ns k) b := by
  have len : (overB b (linedZ ns)).length = ns.length := by unfold overB linedZ; rw [List.length_map, List.length_map]
  unfold placeR
  rw [len, away_eq ns hb _ (Nat.le_refl _)]
  cases hA : awayZ ns ns.length with
  | nil =>
    have := awayZ_nil ns hA k hk
    have e4 : toldZ ns k = 0 := by unfold toldZ sgZ; rw [hA]; simp [this]
    rw [e4, (div_zero hb 0).mpr rfl]
  | cons f r =>
    obtain ⟨hf, nf⟩ := awayZ_lt ns (k := ns.length) (i := f) (by rw [hA]; exact List.mem_cons_self)
    dsimp only
    rw [lined_at ns b (by omega) hk, lined_at ns b (by omega) hf, lined_at ns b hf hk]
    have e1 : absI (zAt ns 0 - zAt ns k) = absI (dz ns k) := by unfold absI dz; split <;> split <;> omega
    have e2 : absI (zAt ns 0 - zAt ns f) = absI (dz ns f) := by unfold absI dz; split <;> split <;> omega
    have e3 : absI (zAt ns f - zAt ns k) = absI (dz ns f - dz ns k) := by unfold dz; congr 1; omega
    rw [e1, e2, e3, div_ab hb, div_ab hb, div_ab hb, div_sub hb]
    have p : ∀ i, (Rat.divInt i b < 0 ↔ i < 0) := fun i => by
      have h := div_ab hb i
      unfold absI ab at h
      by_cases z : i < 0
      · rw [if_pos z] at h
        by_cases y : Rat.divInt i b < 0
        · exact ⟨fun _ => z, fun _ => y⟩
        · rw [if_neg y] at h
          have : Rat.divInt (i - (-i)) b = 0 := by rw [div_sub hb, h]; grind
          have := (div_zero hb _).mp this
          omega
      · rw [if_neg z] at h
        by_cases y : Rat.divInt i b < 0
        · rw [if_pos y] at h
          have : Rat.divInt i b = 0 := by grind
          rw [this] at y
          exact absurd y (by decide)
        · exact ⟨fun h => absurd h y, fun h => absurd h z⟩
    have pf : Rat.divInt (dz ns f) b ≠ 0 := fun z => nf ((div_zero hb _).mp z)
    have pn : Rat.divInt (0 - dz ns k) b = - Rat.divInt (dz ns k) b := by rw [div_sub hb, (div_zero hb 0).mpr rfl]; grind
    have pf2 := p (dz ns f)
    by_cases s : dz ns f < 0
    · have e4 : toldZ ns k = 0 - dz ns k := by unfold toldZ sgZ; rw [hA]; simp [s]
      rw [e4, pn]
      have := pf2.mpr s
      generalize Rat.divInt (dz ns f) b = F at *
      generalize Rat.divInt (dz ns k) b = D at *
      unfold ab
      grind
    · have e4 : toldZ ns k = dz ns k := by unfold toldZ sgZ; rw [hA]; simp [s]
      rw [e4]
      have := fun z => s (pf2.mp z)
      generalize Rat.divInt (dz ns f) b = F at *
      generalize Rat.divInt (dz ns k) b = D at *
      unfold ab
      grind
theorem told_fits (ns : List Int) {b : Int} (hb : 0 < b) : fitsR (overB b (linedZ ns)) := by
  have len : (overB b (linedZ ns)).length = ns.length := by unfold overB linedZ; rw [List.length_map, List.length_map]
  intro i hi j hj
  rw [len] at hi
  rw [place_told ns hb hi, place_told ns hb (by omega), lined_at ns b hi (by omega), ← div_sub hb, ← div_ab hb]
  congr 1
  unfold toldZ dz absI
  split <;> split <;> split <;> omega
local macro_rules | `(tactic| walk_at "sq") => `(tactic| first
  | assumption
  | exact fr_one_at | exact fr_zero_at | exact fr_neg_at | exact fr_int_at | exact sqT_at | exact sqL_at
  | (refine' sqT_new ?e ?h; (case e => assumption); (case h => walk_at "sq"))
  | (refine' sqT_mut ?e ?h; (case e => assumption); (case h => walk_at "sq"))
  | (refine' sqT_same ?e ?h; (case e => assumption); (case h => walk_at "sq"))
  | (refine' sqT_but ?e ?e2 ?h; (case e => assumption); (case e2 => assumption); (case h => walk_at "sq"))
  | (refine' sqL_new ?e ?h; (case e => assumption); (case h => walk_at "sq"))
  | (refine' sqL_same ?e ?h; (case e => assumption); (case h => walk_at "sq")) | fail)
local macro_rules | `(tactic| walk_at "same") => `(tactic| first
  | assumption
  | exact Same.refl _
  | (refine Same.trans ?_ (same_new (by assumption)); walk_at "same")
  | (refine Same.trans ?_ (by assumption); walk_at "same") | fail)
local macro_rules | `(tactic| walk_at "k") => `(tactic| try dsimp only [L2.cxOf, L2.Cx.nox])
local macro_rules | `(tactic| walk_at "step") => `(tactic| first
  | with_reducible refine St1.pf ?_
  | (with_reducible refine' g_var ?h ?q; (case h => with_unfolding_all rfl))
  | with_reducible refine g_ixT (by walk_at "sq") (by with_unfolding_all rfl) ?_
  | (with_reducible refine' g_mod ?h ?q; (case h => first | assumption | omega | decide))
  | with_reducible refine g_powE (cpow_ok (by decide)) (by simp only [Int.reduceToNat, Int.reducePow]; rfl) ?_
  | with_reducible refine g_isiT (by walk_at "sq") ?_
  | with_reducible refine g_lenT (by walk_at "sq") ?_
  | (with_reducible refine' g_aug ?h ?q; (case h => with_unfolding_all rfl))
  | (with_reducible refine' g_eq ?h ?q; (case h => rfl)) | (with_reducible refine' g_ne ?h ?q; (case h => rfl)))
local macro_rules | `(tactic| walk_at "go") => `(tactic| repeat (walk_at "step"))
local macro_rules | `(tactic| walk_at "bd") => `(tactic| (with_reducible refine g_mul ?c ?_; (case c => first | exact mulW 4000 4000 (Bd.num (by assumption)) (Bd.de (by assumption)) | exact mulW 4000 4000 (Bd.num (by assumption)) (Bd.num (by assumption)) | exact mulW 4000 4000 (Bd.de (by assumption)) (Bd.de (by assumption)) | exact mulW 4000 4000 (Bd.de (by assumption)) (Bd.num (by assumption)))))
local macro_rules | `(tactic| walk_at "gob") => `(tactic| repeat (first | walk_at "step" | walk_at "bd"))
local macro_rules | `(tactic| walk_at "sq") => `(tactic| first | (refine' sqT_pool ?b ?e ?h; (case b => assumption); (case e => assumption); (case h => walk_at "sq")) | fail)
local macro_rules | `(tactic| walk_at "pool") => `(tactic| first | assumption | (refine Pool.new ?h ?e; (case e => assumption); (case h => walk_at "pool")) | (refine Pool.same ?h ?e; (case e => assumption); (case h => walk_at "pool")) | fail)
local macro_rules | `(tactic| walk_at "but") => `(tactic| first | assumption | exact But.refl _ _ | (refine But.newp ?h ?e; (case e => assumption); (case h => walk_at "but")) | (refine But.trans ?h ?e; (case e => first | assumption | exact But.same (by assumption)); (case h => walk_at "but")) | fail)
local macro_rules | `(tactic| walk_at "bds") => `(tactic| first
  | assumption
  | exact Bd_zero (n := 1) (by decide) | exact Bd_one | exact Bd_int (by walk_at "ibs")
  | (refine' Bd_add ?a ?b; (case a => walk_at "bds"); (case b => walk_at "bds"))
  | (refine' Bd_sub ?a ?b; (case a => walk_at "bds"); (case b => walk_at "bds"))
  | (refine' Bd_mul ?a ?b; (case a => walk_at "bds"); (case b => walk_at "bds"))
  | (refine' Bd_div ?a ?b ?c; (case a => walk_at "bds"); (case b => walk_at "bds"); (case c => first | assumption | grind | fail))
  | fail)
local macro_rules | `(tactic| walk_at "ibs") => `(tactic| first
  | assumption
  | exact IB.num (by assumption)
  | exact IB.den (by assumption)
  | (refine' IB.mul ?a ?b; (case a => walk_at "ibs"); (case b => walk_at "ibs"))
  | (refine' IB.add ?a ?b; (case a => walk_at "ibs"); (case b => walk_at "ibs"))
  | (refine' IB.sub ?a ?b; (case a => walk_at "ibs"); (case b => walk_at "ibs"))
  | exact IB.lit
  | fail)
local macro_rules | `(tactic| walk_at "deed") => `(tactic| first
  | (with_reducible refine' g_plus ?hx ?hy ?bx ?bu ?q; (case hx => walk_at "sq"); (case hy => walk_at "sq"); (case bx => exact Bd.mono (by walk_at "bds") (by decide)); (case bu => exact Bd.mono (by walk_at "bds") (by decide)); intro p np)
  | (with_reducible refine' g_minus ?hx ?hy ?bx ?bu ?q; (case hx => walk_at "sq"); (case hy => walk_at "sq"); (case bx => exact Bd.mono (by walk_at "bds") (by decide)); (case bu => exact Bd.mono (by walk_at "bds") (by decide)); intro p np)
  | (with_reducible refine' g_times ?hx ?hy ?bx ?bu ?q; (case hx => walk_at "sq"); (case hy => walk_at "sq"); (case bx => exact Bd.mono (by walk_at "bds") (by decide)); (case bu => exact Bd.mono (by walk_at "bds") (by decide)); intro p np)
  | (with_reducible refine' g_divided ?hx ?hy ?bx ?bu ?h0 ?q; (case hx => walk_at "sq"); (case hy => walk_at "sq"); (case bx => exact Bd.mono (by walk_at "bds") (by decide)); (case bu => exact Bd.mono (by walk_at "bds") (by decide)); (case h0 => first | assumption | exact den_cast _ | grind | fail); intro p np)
  | (with_reducible refine' g_below ?hx ?hy ?bx ?bu ?q; (case hx => walk_at "sq"); (case hy => walk_at "sq"); (case bx => exact Bd.mono (by walk_at "bds") (by decide)); (case bu => exact Bd.mono (by walk_at "bds") (by decide)))
  | (with_reducible refine' g_neF ?hx ?hy ?q; (case hx => walk_at "sq"); (case hy => walk_at "sq"))
  | (with_reducible refine' g_eqF ?hx ?hy ?q; (case hx => walk_at "sq"); (case hy => walk_at "sq"))
  | (with_reducible refine' g_mul ?h ?q; (case h => exact IB.mulW (by walk_at "ibs") (by walk_at "ibs") (by decide)))
  | (with_reducible refine' g_frac ?h0 ?h ?q; (case h0 => walk_at "nz"); (case h => exact IB.mono (by walk_at "ibs") (by decide)); intro p np)
  | fail)
local macro_rules | `(tactic| walk_at "nz") => `(tactic| first | assumption | exact den_ne _ | exact num_ne (by assumption) | exact neg_ne (den_ne _) | (refine Int.mul_ne_zero ?a ?b; (case a => walk_at "nz"); (case b => walk_at "nz")) | fail)
local macro_rules | `(tactic| walk_at "rat") => `(tactic| (simp only [Rat.divInt_eq_div, Rat.intCast_add, Rat.intCast_sub, Rat.intCast_mul, Rat.intCast_zero, Rat.intCast_one, num_cast]; grind [den_cast]))
local macro_rules | `(tactic| walk_at "known") => `(tactic| first | walk_at "rat" | grind | fail)
local macro_rules | `(tactic| walk_at "god") => `(tactic| repeat (first | walk_at "step" | walk_at "deed" | (with_reducible refine And.intro two_le ?_; intro p np) | with_reducible refine ifN_known (by walk_at "known") ?_ | with_reducible refine ifY_known (by walk_at "known") ?_ | fail))
local macro_rules | `(tactic| walk_at "goe") => `(tactic| repeat (first | walk_at "step" | walk_at "deed" | (with_reducible refine And.intro two_le ?_; intro p np) | with_reducible refine ifN_known (by grind) ?_ | with_reducible refine ifY_known (by grind) ?_ | with_reducible refine ifY_no (by grind) ?_ | with_reducible refine ifN_no (by grind) ?_ | fail))
/-! ### the text -/
def topS (i : Nat) : Stmt := PySem.Challenge.pw_farcuts_k53_lines_told.main.body.getD i (.Pass ⟨0, 0, 0, 0⟩)
abbrev s_common_of : Stmt := topS 5
abbrev N_common_of : List Str := ["one", "other"]
abbrev P_common_of : List Str := ["one", "other"]
theorem sc_common_of : FnScope N_common_of P_common_of (defScope s_common_of) := ⟨rfl, rfl, rfl, by decide +kernel, rfl, by decide +kernel, by decide +kernel⟩
abbrev s_fraction : Stmt := topS 6
abbrev N_fraction : List Str := ["top", "bottom", "by"]
abbrev P_fraction : List Str := ["top", "bottom"]
theorem sc_fraction : FnScope N_fraction P_fraction (defScope s_fraction) := ⟨rfl, rfl, rfl, by decide +kernel, rfl, by decide +kernel, by decide +kernel⟩
abbrev s_minus : Stmt := topS 7
abbrev N_minus : List Str := ["q", "r"]
abbrev P_minus : List Str := ["q", "r"]
theorem sc_minus : FnScope N_minus P_minus (defScope s_minus) := ⟨rfl, rfl, rfl, by decide +kernel, rfl, by decide +kernel, by decide +kernel⟩
abbrev s_part_of : Stmt := topS 10
abbrev N_part_of : List Str := ["table", "points", "point", "one", "other"]
abbrev P_part_of : List Str := ["table", "points"]
theorem sc_part_of : FnScope N_part_of P_part_of (defScope s_part_of) := ⟨rfl, rfl, rfl, by decide +kernel, rfl, by decide +kernel, by decide +kernel⟩
abbrev s_other_side_of : Stmt := topS 12
abbrev N_other_side_of : List Str := ["q"]
abbrev P_other_side_of : List Str := ["q"]
theorem sc_other_side_of : FnScope N_other_side_of P_other_side_of (defScope s_other_side_of) := ⟨rfl, rfl, rfl, by decide +kernel, rfl, by decide +kernel, by decide +kernel⟩
abbrev s_distance_of : Stmt := topS 13
abbrev N_distance_of : List Str := ["q", "r", "found"]
abbrev P_distance_of : List Str := ["q", "r"]
theorem sc_distance_of : FnScope N_distance_of P_distance_of (defScope s_distance_of) := ⟨rfl, rfl, rfl, by decide +kernel, rfl, by decide +kernel, by decide +kernel⟩
abbrev s_place_beside : Stmt := topS 14
abbrev N_place_beside : List Str := ["table", "first", "point", "far"]
abbrev P_place_beside : List Str := ["table", "first", "point"]
theorem sc_place_beside : FnScope N_place_beside P_place_beside (defScope s_place_beside) := ⟨rfl, rfl, rfl, by decide +kernel, rfl, by decide +kernel, by decide +kernel⟩
abbrev s_places_of : Stmt := topS 15
abbrev N_places_of : List Str := ["table", "n", "away", "point", "places", "one", "other"]
abbrev P_places_of : List Str := ["table"]
theorem sc_places_of : FnScope N_places_of P_places_of (defScope s_places_of) := ⟨rfl, rfl, rfl, by decide +kernel, rfl, by decide +kernel, by decide +kernel⟩
abbrev s_rising_tuples : Stmt := topS 16
abbrev N_rising_tuples : List Str := ["n", "many", "found", "turn"]
abbrev P_rising_tuples : List Str := ["n", "many"]
theorem sc_rising_tuples : FnScope N_rising_tuples P_rising_tuples (defScope s_rising_tuples) := ⟨rfl, rfl, rfl, by decide +kernel, rfl, by decide +kernel, by decide +kernel⟩
abbrev s_longer_ones : Stmt := topS 17
abbrev N_longer_ones : List Str := ["n", "rows", "found", "row", "least", "point"]
abbrev P_longer_ones : List Str := ["n", "rows"]
theorem sc_longer_ones : FnScope N_longer_ones P_longer_ones (defScope s_longer_ones) := ⟨rfl, rfl, rfl, by decide +kernel, rfl, by decide +kernel, by decide +kernel⟩
abbrev s_line_told : Stmt := topS 18
abbrev N_line_told : List Str := ["table", "places", "some", "points"]
abbrev P_line_told : List Str := ["table"]
theorem sc_line_told : FnScope N_line_told P_line_told (defScope s_line_told) := ⟨rfl, rfl, rfl, by decide +kernel, rfl, by decide +kernel, by decide +kernel⟩
abbrev s_l_stir : Stmt := topS 20
abbrev N_l_stir : List Str := ["cell", "k", "number"]
abbrev P_l_stir : List Str := ["cell", "k"]
theorem sc_l_stir : FnScope N_l_stir P_l_stir (defScope s_l_stir) := ⟨rfl, rfl, rfl, by decide +kernel, rfl, by decide +kernel, by decide +kernel⟩
abbrev s_l_deck : Stmt := topS 21
abbrev N_l_deck : List Str := ["cell"]
abbrev P_l_deck : List Str := ["cell"]
theorem sc_l_deck : FnScope N_l_deck P_l_deck (defScope s_l_deck) := ⟨rfl, rfl, rfl, by decide +kernel, rfl, by decide +kernel, by decide +kernel⟩
abbrev s_l_take : Stmt := topS 22
abbrev N_l_take : List Str := ["deck", "many", "taken"]
abbrev P_l_take : List Str := ["deck", "many"]
theorem sc_l_take : FnScope N_l_take P_l_take (defScope s_l_take) := ⟨rfl, rfl, rfl, by decide +kernel, rfl, by decide +kernel, by decide +kernel⟩
abbrev s_l_fraction : Stmt := topS 23
abbrev N_l_fraction : List Str := ["top", "bottom", "one", "other", "rest"]
abbrev P_l_fraction : List Str := ["top", "bottom"]
theorem sc_l_fraction : FnScope N_l_fraction P_l_fraction (defScope s_l_fraction) := ⟨rfl, rfl, rfl, by decide +kernel, rfl, by decide +kernel, by decide +kernel⟩
abbrev s_l_table : Stmt := topS 24
abbrev N_l_table : List Str := ["rows", "bottom", "row", "number"]
abbrev P_l_table : List Str := ["rows", "bottom"]
theorem sc_l_table : FnScope N_l_table P_l_table (defScope s_l_table) := ⟨rfl, rfl, rfl, by decide +kernel, rfl, by decide +kernel, by decide +kernel⟩
abbrev s_l_places : Stmt := topS 25
abbrev N_l_places : List Str := ["deck", "n", "far", "point"]
abbrev P_l_places : List Str := ["deck", "n"]
theorem sc_l_places : FnScope N_l_places P_l_places (defScope s_l_places) := ⟨rfl, rfl, rfl, by decide +kernel, rfl, by decide +kernel, by decide +kernel⟩
abbrev s_l_lined : Stmt := topS 26
abbrev N_l_lined : List Str := ["places", "one", "other"]
abbrev P_l_lined : List Str := ["places"]
theorem sc_l_lined : FnScope N_l_lined P_l_lined (defScope s_l_lined) := ⟨rfl, rfl, rfl, by decide +kernel, rfl, by decide +kernel, by decide +kernel⟩
abbrev s_l_told_form : Stmt := topS 27
abbrev N_l_told_form : List Str := ["places", "found", "place", "other"]
abbrev P_l_told_form : List Str := ["places"]
theorem sc_l_told_form : FnScope N_l_told_form P_l_told_form (defScope s_l_told_form) := ⟨rfl, rfl, rfl, by decide +kernel, rfl, by decide +kernel, by decide +kernel⟩
abbrev s_law : Stmt := topS 28
abbrev N_law : List Str := ["script", "cell", "deck", "n", "places", "bottom", "table", "due", "place", "handed", "turn", "found", "one"]
abbrev P_law : List Str := ["script"]
theorem sc_law : FnScope N_law P_law (defScope s_law) := ⟨rfl, rfl, rfl, by decide +kernel, rfl, by decide +kernel, by decide +kernel⟩
/-- the built-in names that the text leaves as they are -/
structure Tx (K : PySem.W.Frag) (mg : Str → Option Value) : Prop where
  abs_ : mg "abs" = none
  isinstance_ : mg "isinstance" = none
  len_ : mg "len" = none
  list_ : mg "list" = none
  range_ : mg "range" = none
  set_ : mg "set" = none
  tuple_ : mg "tuple" = none
  c_NOUGHT : ∃ a, mg "NOUGHT" = some (.ref a) ∧ ∀ H, SqT K H a [.int 0, .int 1]
section
variable {P : Program} {w : World} {K : PySem.W.Frag} {mg : Str → Option Value} {base : Heap}
theorem ok_common_of {f : Addr} {fd : FuncData} (F : Fun K "common_of" "common_of" s_common_of f fd) (T : Tx K mg) : FnOk P w K mg base CX0 1 f fd P_common_of sp_common := by
  refine F.ok sc_common_of (fun vs H Q E h => ?_) (fun cdv A outer s H vs Q E hr h => ?_)
  · obtain ⟨a, b, rfl, _⟩ := h
    rfl
  · obtain ⟨a, b, rfl, q⟩ := h
    refine ⟨_, (pss_cons (ps_while PassesOwn.never (pt_cmpR op_ne (pv 1) pe_int (nomark _))
  (pss_one (ps_par (i := 0) (j := 1) rfl sc_common_of.nd rfl rfl (by decide) rfl rfl (pa_cons (pv 1) (pa_cons (pe_op op_modN (pv 0) (pv 1)) pa_nil)) rfl)))
  (pss_one (ps_ret (pe_callB cr_abs (by rfl) T.abs_ (by decide +kernel) (pa_cons (pv 0) pa_nil))))), ?_⟩
    walk_at "k"
    walk_at "step"
    refine while_by (fun σ H' => ∃ x y : Int, σ = [some (.int x), some (.int y)] ∧ H' = H ∧ Int.gcd x y = Int.gcd a b) (fun σ _ => match σ with | [_, some (.int y)] => y.natAbs | _ => 0)
      ⟨a, b, rfl, rfl, rfl⟩ ?_ ?_
    · rintro σ H' ⟨x, y, rfl, rfl, e⟩
      walk_at "go"
      refine ifND (fun h => ?_) (fun h => ?_)
      · walk_at "go"
        refine g_modN h ?_
        walk_at "go"
        exact ⟨⟨y, x.fmod y, rfl, rfl, (gcd_fmod x y).trans e⟩, fmod_small x y h⟩
      · walk_at "go"
        subst h
        rw [abs_gcd0, e]
        exact q
    · intro σ H Q Q' h t
      obtain ⟨v, e1, i, k, e3, q⟩ := t
      exact ⟨v, e1, i, k, e3, h _ _ q⟩
end
section
variable {P : Program} {w : World} {K : PySem.W.Frag} {mg : Str → Option Value} {base : Heap}
theorem ok_fraction {f : Addr} {fd : FuncData} (F : Fun K "fraction" "fraction" s_fraction f fd) (T : Tx K mg) (c_common_of : Cal P w K mg base 1 "common_of" sp_common []) : FnOk P w K mg base CX0 2 f fd P_fraction sp_fraction := by
  refine F.ok sc_fraction (fun vs H Q E h => ?_) (fun cdv A outer s H vs Q E hr h => ?_)
  · obtain ⟨a, b, rfl, _⟩ := h
    rfl
  · obtain ⟨t, b, rfl, hb, hl, q⟩ := h
    refine ⟨_, (pss_cons (ps_if (pt_cmpR op_eq (pv 1) pe_int (nomark _))
  (pss_one ps_never)
  pss_nil)
  (pss_cons (ps_set (i := 2) sc_fraction.nd rfl (Or.inl rfl) (pe_c c_common_of hr (by decide) rfl (pa_cons (pv 0) (pa_cons (pv 1) pa_nil))))
  (pss_cons (ps_if (pt_cmpR op_lt (pv 1) pe_int (nomark _))
  (pss_one (ps_set (i := 2) sc_fraction.nd rfl (Or.inl rfl) (pe_op op_sub pe_int (pv 2))))
  pss_nil)
  (pss_one (ps_ret (pe_tup (pa_cons (pe_op op_fdivV (pv 0) (pv 2)) (pa_cons (pe_op op_fdivV (pv 1) (pv 2)) pa_nil)))))))), ?_⟩
    walk_at "k"
    walk_at "go"
    refine ifD (fun h => absurd h hb) (fun _ => ?_)
    walk_at "go"
    refine ⟨t, b, rfl, ?_⟩
    walk_at "go"
    have hg := gcd_lt (t := t) hb hl
    have hp := gcd_pos' (t := t) hb
    refine ifD (fun h => ?_) (fun h => ?_)
    · walk_at "go"
      refine g_divV (divV 8500 (by omega) (by omega)) ?_
      walk_at "go"
      refine g_divV (divV 8500 (by omega) (by omega)) ?_
      walk_at "go"
      refine ⟨(by show 2 ≤ sizeLine; decide), fun p np => ?_⟩
      have := q p np
      unfold FV at this
      rw [divInt_num t b hb, divInt_den t b hb, if_pos h, if_pos h] at this
      rw [Int.zero_sub]
      exact this
    · walk_at "go"
      refine g_divV (divV 8500 (by omega) (by omega)) ?_
      walk_at "go"
      refine g_divV (divV 8500 (by omega) (by omega)) ?_
      walk_at "go"
      refine ⟨(by show 2 ≤ sizeLine; decide), fun p np => ?_⟩
      have := q p np
      unfold FV at this
      rw [divInt_num t b hb, divInt_den t b hb, if_neg h, if_neg h] at this
      exact this
end
section
variable {P : Program} {w : World} {K : PySem.W.Frag} {mg : Str → Option Value} {base : Heap}
theorem ok_minus {f : Addr} {fd : FuncData} (F : Fun K "minus" "minus" s_minus f fd) (T : Tx K mg) (c_fraction : Cal P w K mg base 2 "fraction" sp_fraction []) : FnOk P w K mg base CX0 3 f fd P_minus (sp2F K (fun x y => x - y) fun x y => True) := by
  refine F.ok sc_minus (fun vs H Q E h => ?_) (fun cdv A outer s H vs Q E hr h => ?_)
  · obtain ⟨a, b, x, y, rfl, _⟩ := h
    rfl
  · obtain ⟨a, b, x, y, rfl, hx, hy, bx, by', hpre, q⟩ := h
    refine ⟨_, (pss_one (ps_ret (pe_c c_fraction hr (by decide) rfl (pa_cons (pe_op op_sub (pe_op op_mulW (pe_ix (k_ixT (K := K)) (pv 0) pe_int (fun _ _ => rfl)) (pe_ix (k_ixT (K := K)) (pv 1) pe_int (fun _ _ => rfl))) (pe_op op_mulW (pe_ix (k_ixT (K := K)) (pv 1) pe_int (fun _ _ => rfl)) (pe_ix (k_ixT (K := K)) (pv 0) pe_int (fun _ _ => rfl)))) (pa_cons (pe_op op_mulW (pe_ix (k_ixT (K := K)) (pv 0) pe_int (fun _ _ => rfl)) (pe_ix (k_ixT (K := K)) (pv 1) pe_int (fun _ _ => rfl))) pa_nil))))), ?_⟩
    walk_at "k"
    have dx := den_pos' x
    have dy := den_pos' y
    walk_at "gob"
    refine ⟨_, _, rfl, ?_, ?_, fun p np => ?_⟩
    · exact Int.ne_of_gt (Int.mul_pos dx dy)
    · exact Nat.lt_trans (natAbs_mul_lt bx.2 by'.2) (Nat.pow_lt_pow_right (by decide) (by decide))
    · have := q p np
      dsimp only at this
      rw [← minus_eq] at this
      exact this
end
section
variable {P : Program} {w : World} {K : PySem.W.Frag} {mg : Str → Option Value} {base : Heap}
def sp_stir : Sp := fun vs H Q _ => ∃ c k : Int, vs = [.int c, .int k] ∧ 0 ≤ k ∧ k ≤ 100 ∧ ∀ r, 0 ≤ r → r < 10 ^ 61 → Q (.int r) H
theorem ok_l_stir {f : Addr} {fd : FuncData} (F : Fun K "_law_stir" "_law_stir" s_l_stir f fd) (T : Tx K mg) : FnOk P w K mg base CX0 1 f fd P_l_stir sp_stir := by
  refine F.ok sc_l_stir (fun vs H Q E h => ?_) (fun cdv A outer s H vs Q E hr h => ?_)
  · obtain ⟨c, k, rfl, _⟩ := h
    rfl
  · obtain ⟨c, k, rfl, h0, h1, q⟩ := h
    refine ⟨_, (pss_cons (ps_set (i := 2) sc_l_stir.nd rfl (Or.inl rfl) (pe_op op_add (pe_op op_add (pe_op op_mulW (pe_op op_mod (pv 0) (pe_op op_pow pe_int pe_int)) pe_int) (pe_op op_mulW (pe_op op_mulW (pe_op op_pow pe_int pe_int) (pe_op op_add (pv 1) pe_int)) (pe_op op_add (pv 1) pe_int))) (pv 1)))
  (pss_cons (ps_set (i := 2) sc_l_stir.nd rfl (Or.inl rfl) (pe_op op_add (pe_op op_mulW (pv 2) (pv 2)) (pe_op op_mulW pe_int (pv 2))))
  (pss_one (ps_ret (pe_op op_fdivW (pe_op op_mod (pe_op op_mulW (pv 2) (pv 2)) (pe_op op_add (pe_op op_pow pe_int pe_int) pe_int)) pe_int))))), ?_⟩
    walk_at "go"
    have a0 := Int.emod_nonneg c (b := 10 ^ 40) (by decide)
    have a1 := Int.emod_lt_of_pos c (b := 10 ^ 40) (by decide)
    have i1 : IB 134 (c % 10000000000000000000000000000000000000000) := by unfold IB; omega
    have ik : IB 8 (k + 1) := by unfold IB; omega
    have ik' : IB 8 k := by unfold IB; omega
    have i3 : IB 100 (42391158275216203514294433201 : Int) := by unfold IB; decide
    refine g_mul (IB.mulW i1 IB.lit (by decide)) ?_
    walk_at "go"
    refine g_mul (IB.mulW i3 ik (by decide)) ?_
    walk_at "go"
    refine g_mul (IB.mulW (i3.mul ik) ik (by decide)) ?_
    walk_at "go"
    have i4 := ((i1.mul (IB.lit (i := 48271))).add ((i3.mul ik).mul ik)).add ik'
    refine g_mul (IB.mulW i4 i4 (by decide)) ?_
    walk_at "go"
    refine g_mul (IB.mulW IB.lit i4 (by decide)) ?_
    walk_at "go"
    have i5 := (i4.mul i4).add ((IB.lit (i := 69621)).mul i4)
    refine g_mul (IB.mulW i5 i5 (by decide)) ?_
    walk_at "go"
    refine g_div (wide_div (b := 40) (by decide) (by decide) (by decide) (by decide)) ?_
    walk_at "go"
    have e0 := Int.emod_nonneg (((c % 10000000000000000000000000000000000000000 * 48271 + 42391158275216203514294433201 * (k + 1) * (k + 1) + k) * (c % 10000000000000000000000000000000000000000 * 48271 + 42391158275216203514294433201 * (k + 1) * (k + 1) + k) + 69621 * (c % 10000000000000000000000000000000000000000 * 48271 + 42391158275216203514294433201 * (k + 1) * (k + 1) + k)) * ((c % 10000000000000000000000000000000000000000 * 48271 + 42391158275216203514294433201 * (k + 1) * (k + 1) + k) * (c % 10000000000000000000000000000000000000000 * 48271 + 42391158275216203514294433201 * (k + 1) * (k + 1) + k) + 69621 * (c % 10000000000000000000000000000000000000000 * 48271 + 42391158275216203514294433201 * (k + 1) * (k + 1) + k))) (b := 10000000000000000000000000000000000000000000000000000000000000 + 7) (by decide)
    have e1 := Int.emod_lt_of_pos (((c % 10000000000000000000000000000000000000000 * 48271 + 42391158275216203514294433201 * (k + 1) * (k + 1) + k) * (c % 10000000000000000000000000000000000000000 * 48271 + 42391158275216203514294433201 * (k + 1) * (k + 1) + k) + 69621 * (c % 10000000000000000000000000000000000000000 * 48271 + 42391158275216203514294433201 * (k + 1) * (k + 1) + k)) * ((c % 10000000000000000000000000000000000000000 * 48271 + 42391158275216203514294433201 * (k + 1) * (k + 1) + k) * (c % 10000000000000000000000000000000000000000 * 48271 + 42391158275216203514294433201 * (k + 1) * (k + 1) + k) + 69621 * (c % 10000000000000000000000000000000000000000 * 48271 + 42391158275216203514294433201 * (k + 1) * (k + 1) + k))) (b := 10000000000000000000000000000000000000000000000000000000000000 + 7) (by decide)
    exact q _ (by omega) (by omega)
def sp_deck (K : PySem.W.Frag) : Sp := fun vs H Q _ => ∃ c : Int, vs = [.int c] ∧ ∀ p H', H p = none → Same H H' → Deck H' p → Q (.ref p) H'
theorem ok_l_deck {f : Addr} {fd : FuncData} (F : Fun K "_law_deck" "_law_deck" s_l_deck f fd) (T : Tx K mg) (c_l_stir : Cal P w K mg base 1 "_law_stir" sp_stir []) : FnOk P w K mg base CX0 2 f fd P_l_deck (sp_deck K) := by
  refine F.ok sc_l_deck (fun vs H Q E h => ?_) (fun cdv A outer s H vs Q E hr h => ?_)
  · obtain ⟨c, rfl, _⟩ := h
    rfl
  · obtain ⟨c, rfl, q⟩ := h
    refine ⟨_, (pss_cons (ps_if (pt_cmpR op_ge (pv 0) (pe_op op_pow pe_int pe_int) (nomark _))
  (pss_one (ps_ret (pe_lst (pa_cons (pe_op op_sub (pv 0) (pe_op op_pow pe_int pe_int)) pa_nil))))
  pss_nil)
  (pss_one (ps_ret (pe_lst (pa_cons (pe_op op_add (pe_op op_mulW (pe_op op_add (pe_op op_mulW (pe_c c_l_stir hr (by decide) rfl (pa_cons (pv 0) (pa_cons pe_int pa_nil))) (pe_op op_pow pe_int pe_int)) (pe_c c_l_stir hr (by decide) rfl (pa_cons (pv 0) (pa_cons pe_int pa_nil)))) (pe_op op_pow pe_int pe_int)) (pe_c c_l_stir hr (by decide) rfl (pa_cons (pv 0) (pa_cons pe_int pa_nil)))) pa_nil))))), ?_⟩
    walk_at "go"
    refine ifD (fun h => ?_) (fun h => ?_)
    · walk_at "go"
      exact ⟨by show 1 ≤ sizeLine; decide, fun p np => q p _ np (same_new np) ⟨_, upd_same⟩⟩
    · walk_at "go"
      refine ⟨c, 1, rfl, by decide, by decide, fun r1 a1 b1 => ?_⟩
      walk_at "go"
      have i1 : IB 204 r1 := by unfold IB; omega
      have i6 : IB 204 (1000000000000000000000000000000000000000000000000000000000000 : Int) := by unfold IB; decide
      refine g_mul (IB.mulW i1 i6 (by decide)) ?_
      walk_at "go"
      refine ⟨c, 2, rfl, by decide, by decide, fun r2 a2 b2 => ?_⟩
      walk_at "go"
      have i2 : IB 204 r2 := by unfold IB; omega
      refine g_mul (IB.mulW ((i1.mul i6).add i2) i6 (by decide)) ?_
      walk_at "go"
      refine ⟨c, 3, rfl, by decide, by decide, fun r3 a3 b3 => ?_⟩
      walk_at "go"
      exact ⟨by show 1 ≤ sizeLine; decide, fun p np => q p _ np (same_new np) ⟨_, upd_same⟩⟩
def sp_dtake (K : PySem.W.Frag) : Sp := fun vs H Q _ => ∃ (p : Addr) (m : Int), vs = [.ref p, .int m] ∧ Deck H p ∧ 0 < m ∧ m.natAbs < 2 ^ 8500 ∧ ∀ r H', 0 ≤ r → r < m → But p H H' → Deck H' p → Q (.int r) H'
theorem ok_l_take {f : Addr} {fd : FuncData} (F : Fun K "_law_take" "_law_take" s_l_take f fd) (T : Tx K mg) : FnOk P w K mg base CX0 1 f fd P_l_take (sp_dtake K) := by
  refine F.ok sc_l_take (fun vs H Q E h => ?_) (fun cdv A outer s H vs Q E hr h => ?_)
  · obtain ⟨a, b, rfl, _⟩ := h
    rfl
  · obtain ⟨p, m, rfl, ⟨a, e⟩, hm, hl, q⟩ := h
    refine ⟨_, (pss_cons (ps_set (i := 2) sc_l_take.nd rfl (Or.inl rfl) (pe_op op_mod (pe_ix (k_ixL (K := K)) (pv 0) pe_int (fun _ _ => rfl)) (pv 1)))
  (pss_cons (ps_asg (pe_op op_fdivW (pe_ix (k_ixL (K := K)) (pv 0) pe_int (fun _ _ => rfl)) (pv 1)) (pg_sub (pv 0) pe_int set_list))
  (pss_one (ps_ret (pv 2))))), ?_⟩
    have S := SqL.of (K := K) e
    walk_at "go"
    refine g_ixL S rfl ?_
    walk_at "go"
    refine g_ixL S rfl ?_
    walk_at "go"
    refine g_div (wide_div hm hl (by decide) (by decide)) ?_
    walk_at "go"
    refine g_setL e rfl ?_
    walk_at "go"
    exact q _ _ (Int.emod_nonneg _ (by omega)) (Int.emod_lt_of_pos _ hm) But.mut ⟨_, upd_same⟩
end
section
variable {P : Program} {w : World} {K : PySem.W.Frag} {mg : Str → Option Value} {base : Heap}
def sp_other (K : PySem.W.Frag) : Sp := fun vs H Q _ => ∃ (a : Addr) (x : Rat), vs = [.ref a] ∧ Fr K H a x ∧ ∀ p, H p = none → Q (.ref p) (upd H p (.tup (FV (-x))))
theorem ok_other_side_of {f : Addr} {fd : FuncData} (F : Fun K "other_side_of" "other_side_of" s_other_side_of f fd) (T : Tx K mg) : FnOk P w K mg base CX0 1 f fd P_other_side_of (sp_other K) := by
  refine F.ok sc_other_side_of (fun vs H Q E h => ?_) (fun cdv A outer s H vs Q E hr h => ?_)
  · obtain ⟨a, x, rfl, _⟩ := h
    rfl
  · obtain ⟨a, x, rfl, hx, q⟩ := h
    refine ⟨_, (pss_one (ps_ret (pe_tup (pa_cons (pe_op op_sub pe_int (pe_ix (k_ixT (K := K)) (pv 0) pe_int (fun _ _ => rfl))) (pa_cons (pe_ix (k_ixT (K := K)) (pv 0) pe_int (fun _ _ => rfl)) pa_nil))))), ?_⟩
    walk_at "go"
    refine ⟨two_le, fun p np => ?_⟩
    have := q p np
    rw [FV_neg] at this
    exact this
def sp_dist (K : PySem.W.Frag) : Sp := fun vs H Q _ => ∃ (a b : Addr) (x y : Rat), vs = [.ref a, .ref b] ∧ Fr K H a x ∧ Fr K H b y ∧ Bd 3000 x ∧ Bd 3000 y ∧ ∀ p H', Same H H' → Fr K H' p (ab (x - y)) → Q (.ref p) H'
theorem ok_distance_of {f : Addr} {fd : FuncData} (F : Fun K "distance_of" "distance_of" s_distance_of f fd) (T : Tx K mg) (c_minus : Cal P w K mg base 3 "minus" (sp2F K (fun x y => x - y) fun _ _ => True) []) (c_other_side_of : Cal P w K mg base 1 "other_side_of" (sp_other K) []) :
    FnOk P w K mg base CX0 4 f fd P_distance_of (sp_dist K) := by
  refine F.ok sc_distance_of (fun vs H Q E h => ?_) (fun cdv A outer s H vs Q E hr h => ?_)
  · obtain ⟨a, b, x, y, rfl, _⟩ := h
    rfl
  · obtain ⟨a, b, x, y, rfl, hx, hy, bx, bu, q⟩ := h
    refine ⟨_, (pss_cons (ps_set (i := 2) sc_distance_of.nd rfl (Or.inl rfl) (pe_c c_minus hr (by decide) rfl (pa_cons (pv 0) (pa_cons (pv 1) pa_nil))))
  (pss_cons (ps_if (pt_cmpR op_lt (pe_ix (k_ixT (K := K)) (pv 2) pe_int (fun _ _ => rfl)) pe_int (nomark _))
  (pss_one (ps_ret (pe_c c_other_side_of hr (by decide) rfl (pa_cons (pv 2) pa_nil))))
  pss_nil)
  (pss_one (ps_ret (pv 2))))), ?_⟩
    walk_at "go"
    refine g_minus hx hy (bx.mono (by decide)) (bu.mono (by decide)) (fun p np => ?_)
    have fp : Fr K (upd H p (.tup (FV (x - y)))) p (x - y) := sqT_at
    walk_at "go"
    refine ifD (fun h => ?_) (fun h => ?_)
    · walk_at "go"
      refine ⟨p, x - y, rfl, fp, fun r nr => ?_⟩
      have e : ab (x - y) = -(x - y) := if_pos ((ab_num _).mp h)
      exact q r _ ((same_new np).trans (same_new nr)) (by rw [e]; exact sqT_at)
    · walk_at "go"
      have e : ab (x - y) = x - y := if_neg (fun z => h ((ab_num _).mpr z))
      exact q p _ (same_new np) (by rw [e]; exact fp)
def sp_beside (K : PySem.W.Frag) : Sp := fun vs H Q _ => ∃ (T : V) (t : List (List Rat)) (n f k : Nat), vs = [T, .int f, .int k] ∧ Dp K H T (TD t) ∧ Sqr 1000 n t ∧ f < n ∧ k < n ∧
  ∀ p H', Same H H' → Fr K H' p (if ab (at2 t 0 k - at2 t 0 f) = at2 t f k then at2 t 0 k else -(at2 t 0 k)) → Q (.ref p) H'
theorem ok_place_beside {f : Addr} {fd : FuncData} (F : Fun K "place_beside" "place_beside" s_place_beside f fd) (T : Tx K mg) (c_other_side_of : Cal P w K mg base 1 "other_side_of" (sp_other K) []) (c_distance_of : Cal P w K mg base 4 "distance_of" (sp_dist K) []) :
    FnOk P w K mg base CX0 5 f fd P_place_beside (sp_beside K) := by
  refine F.ok sc_place_beside (fun vs H Q E h => ?_) (fun cdv A outer s H vs Q E hr h => ?_)
  · obtain ⟨Tv, t, n, f, k, rfl, _⟩ := h
    rfl
  · obtain ⟨Tv, t, n, f, k, rfl, hT, hq, hf, hk, q⟩ := h
    refine ⟨_, (pss_cons (ps_set (i := 3) sc_place_beside.nd rfl (Or.inl rfl) (pe_ix (k_ixL (K := K)) (pe_ix (k_ixL (K := K)) (pv 0) pe_int (fun _ _ => rfl)) (pv 2) (fun _ _ => rfl)))
  (pss_cons (ps_if (pt_cmpR (k_eqD (K := K) hr.units) (pe_c c_distance_of hr (by decide) rfl (pa_cons (pv 3) (pa_cons (pe_ix (k_ixL (K := K)) (pe_ix (k_ixL (K := K)) (pv 0) pe_int (fun _ _ => rfl)) (pv 1) (fun _ _ => rfl)) pa_nil))) (pe_ix (k_ixL (K := K)) (pe_ix (k_ixL (K := K)) (pv 0) (pv 1) (fun _ _ => rfl)) (pv 2) (fun _ _ => rfl)) (nomark _))
  (pss_one (ps_ret (pv 3)))
  pss_nil)
  (pss_one (ps_ret (pe_c c_other_side_of hr (by decide) rfl (pa_cons (pv 3) pa_nil)))))), ?_⟩
    obtain ⟨a, xs, rfl, sa, la, rows⟩ := td_at hT hq
    obtain ⟨r0, v0, e0, s0, l0, c0⟩ := rows 0 (by omega)
    obtain ⟨rf, vf, ef, sf, lf, cf⟩ := rows f hf
    obtain ⟨ck, ek, hck⟩ := c0 k hk
    obtain ⟨cj, ej, hcj⟩ := c0 f hf
    obtain ⟨cm, em, hcm⟩ := cf k hk
    obtain ⟨_, _, _, bk⟩ := hq.at (i := 0) (by omega) hk
    obtain ⟨_, _, _, bf⟩ := hq.at (i := 0) (by omega) hf
    walk_at "go"
    refine g_ixL sa (at_of (j := 0) rfl e0) ?_
    walk_at "go"
    refine g_ixL s0 (at_of rfl ek) ?_
    walk_at "go"
    refine g_ixL sa (at_of (j := 0) rfl e0) ?_
    walk_at "go"
    refine g_ixL s0 (at_of rfl ej) ?_
    walk_at "go"
    refine ⟨ck, cj, _, _, rfl, hck, hcj, bk.mono (by decide), bf.mono (by decide), fun p H1 s1 hp => ?_⟩
    walk_at "go"
    refine g_ixL (sqL_same s1 sa) (at_of rfl ef) ?_
    walk_at "go"
    refine g_ixL (sqL_same s1 sf) (at_of rfl em) ?_
    refine g_eqF hp (sqT_same s1 hcm) ?_
    walk_at "go"
    refine ifD (fun h => ?_) (fun h => ?_)
    · walk_at "go"
      exact q ck H1 s1 (by rw [if_pos h]; exact sqT_same s1 hck)
    · walk_at "go"
      refine ⟨ck, _, rfl, sqT_same s1 hck, fun r nr => ?_⟩
      exact q r _ (s1.trans (same_new nr)) (by rw [if_neg h]; exact sqT_at)
def sp_places (K : PySem.W.Frag) : Sp := fun vs H Q _ => ∃ (T : V) (t : List (List Rat)) (n : Nat), vs = [T] ∧ Dp K H T (TD t) ∧ Sqr 1000 n t ∧ 1 ≤ n ∧ n ≤ 1000 ∧
  (fitsR t → ∀ L vs H', H L = none → Same H H' → H' L = some (.lst vs) → Frs K H' vs ((List.range n).map (placeR t)) → Q (.ref L) H') ∧ (¬ fitsR t → ∀ H', Same H H' → Q .non H')
theorem ok_places_of {f : Addr} {fd : FuncData} (F : Fun K "places_of" "places_of" s_places_of f fd) (T : Tx K mg) (c_distance_of : Cal P w K mg base 4 "distance_of" (sp_dist K) []) (c_place_beside : Cal P w K mg base 5 "place_beside" (sp_beside K) []) :
    FnOk P w K mg base CX0 6 f fd P_places_of (sp_places K) := by
  obtain ⟨a_NOUGHT, g_NOUGHT, t_NOUGHT⟩ := T.c_NOUGHT
  refine F.ok sc_places_of (fun vs H Q E h => ?_) (fun cdv A outer s H vs Q E hr h => ?_)
  · obtain ⟨Tv, t, n, rfl, _⟩ := h
    rfl
  · obtain ⟨Tv, t, n, rfl, hT, hq, hn1, hn2, qY, qN⟩ := h
    refine ⟨_, (pss_cons (ps_set (i := 1) sc_places_of.nd rfl (Or.inl rfl) (pe_callB (k_len (K := K)) (by rfl) T.len_ (by decide +kernel) (pa_cons (pv 0) pa_nil)))
  (pss_cons (ps_set (i := 2) sc_places_of.nd rfl (Or.inr rfl) (pe_lc (own := [("point", 3)]) (g := gName 3) rfl sc_places_of.nd (pi_range1 (by rfl) T.range_ (pa_cons (pv 1) pa_nil)) (blkOk_by (own := [("point", 3)]) (N := N_places_of) (sc := defScope s_places_of) (by decide +kernel)) (fun _ _ _ _ _ => (pg_name (i := 3) sc_places_of.nd rfl (Or.inl rfl))) (fun _ _ _ _ _ => (pts_one (pt_cmpR (k_neD (K := K) hr.units) (pe_ix (k_ixL (K := K)) (pe_ix (k_ixL (K := K)) (pv 0) pe_int (fun _ _ => rfl)) (pv 3) (fun _ _ => rfl)) (pe_glob (v := .ref a_NOUGHT) rfl g_NOUGHT rfl) (nomark _)))) (fun _ _ _ _ _ => (pv 3))))
  (pss_cons (ps_setLc (i := 4) (own := [("point", 3)]) (g := gName 3) (tt := tYes) rfl sc_places_of.nd rfl rfl (sw_true rfl rfl rfl (by decide +kernel)) (pi_range1 (by rfl) T.range_ (pa_cons (pv 1) pa_nil)) (blkOk_by (own := [("point", 3)]) (N := N_places_of) (sc := defScope s_places_of) (by decide +kernel)) (fun _ _ _ _ _ => (pg_name (i := 3) sc_places_of.nd rfl (Or.inl rfl))) (fun _ _ _ _ _ => pts_nil) (fun _ _ _ _ _ => (pe_glob (v := .ref a_NOUGHT) rfl g_NOUGHT rfl)))
  (C8.pss_cut (ps_if (pt_cmpR (k_neD (K := K) hr.units) (pv 2) (pe_lst pa_nil) (nomark _))
  (pss_one (ps_setLc (i := 4) (own := [("point", 3)]) (g := gName 3) (tt := tYes) rfl sc_places_of.nd rfl rfl (sw_true rfl rfl rfl (by decide +kernel)) (pi_range1 (by rfl) T.range_ (pa_cons (pv 1) pa_nil)) (blkOk_by (own := [("point", 3)]) (N := N_places_of) (sc := defScope s_places_of) (by decide +kernel)) (fun _ _ _ _ _ => (pg_name (i := 3) sc_places_of.nd rfl (Or.inl rfl))) (fun _ _ _ _ _ => pts_nil) (fun _ _ _ _ _ => (pe_c c_place_beside hr (by decide) rfl (pa_cons (pv 0) (pa_cons (pe_ix (k_ixL (K := K)) (pv 2) pe_int (fun _ _ => rfl)) (pa_cons (pv 3) pa_nil)))))))
  pss_nil)
  (pss_cons (ps_for PassesOwn.never rfl (pi_range1 (by rfl) T.range_ (pa_cons (pv 1) pa_nil)) (pg_name (i := 5) sc_places_of.nd rfl (Or.inl rfl))
  (pss_one (ps_for PassesOwn.never rfl (pi_range1 (by rfl) T.range_ (pa_cons (pv 5) pa_nil)) (pg_name (i := 6) sc_places_of.nd rfl (Or.inl rfl))
  (pss_one (ps_if (pt_cmpR (k_neD (K := K) hr.units) (pe_c c_distance_of hr (by decide) rfl (pa_cons (pe_ix (k_ixL (K := K)) (pv 4) (pv 5) (fun _ _ => rfl)) (pa_cons (pe_ix (k_ixL (K := K)) (pv 4) (pv 6) (fun _ _ => rfl)) pa_nil))) (pe_ix (k_ixL (K := K)) (pe_ix (k_ixL (K := K)) (pv 0) (pv 5) (fun _ _ => rfl)) (pv 6) (fun _ _ => rfl)) (nomark _))
  (pss_one (ps_ret pe_non))
  pss_nil)))))
  (pss_one (ps_ret (pv 4)))))))), ?_⟩
    have z0 : ∀ H, Fr K H a_NOUGHT 0 := t_NOUGHT
    obtain ⟨a, xs, rfl, sa, la, rows⟩ := td_at hT hq
    obtain ⟨r0, v0, e0, s0, l0, c0⟩ := rows 0 (by omega)
    walk_at "go"
    refine g_lenL sa ?_
    rw [la]
    walk_at "go"
    refine g_rng1 (by omega) ?_
    intro L1 n1
    refine lcl_range (fun i H' => H' L1 = some (.lst ((toI (awayL t i)).map V.int)) ∧ Same H H' ∧ (awayL t i).length ≤ i) ⟨upd_same, same_new n1, Nat.le_refl _⟩ ?_ ?_
    · rintro i H1 hi ⟨e1, s1, l1⟩
      have hi : i < n := by omega
      obtain ⟨c, ec, hc⟩ := c0 i hi
      walk_at "go"
      refine ⟨rfl, ?_⟩
      walk_at "go"
      refine g_ixL (sqL_same s1 sa) (at_of (j := 0) rfl e0) ?_
      walk_at "go"
      refine g_ixL (sqL_same s1 s0) (at_of (j := i) (by omega) ec) ?_
      walk_at "go"
      refine g_neF (sqT_same s1 hc) (z0 _) ?_
      walk_at "go"
      refine ifND (fun h => ?_) (fun h => ?_)
      · walk_at "go"
        have ea : awayL t (i + 1) = awayL t i ++ [i] := by show _ ++ _ = _; rw [if_neg h]
        refine ⟨_, e1, sz_lt (by rw [List.length_map]; unfold toI; rw [List.length_map]; omega), ?_, same_mut s1 n1, by rw [ea, List.length_append]; simp; exact l1⟩
        rw [upd_same, ea]
        unfold toI
        rw [List.map_append, List.map_append, Int.zero_add]
        rfl
      · have ea : awayL t (i + 1) = awayL t i := by show _ ++ _ = _; rw [if_pos h, List.append_nil]
        rw [ea]
        exact ⟨e1, s1, by omega⟩
    rintro H1 ⟨e1, s1, l1⟩
    have e1 : H1 L1 = some (.lst ((toI (awayL t n)).map V.int)) := e1
    walk_at "go"
    refine g_rng1 (by omega) ?_
    intro L2 n2
    refine lcl_range (fun i H' => H' L2 = some (.lst (List.replicate i (.ref a_NOUGHT))) ∧ Same H1 H') ⟨upd_same, same_new n2⟩ ?_ ?_
    · rintro i H2 hi ⟨e2, s2⟩
      walk_at "go"
      refine ⟨rfl, ?_⟩
      walk_at "go"
      exact ⟨_, e2, sz_lt (by rw [List.length_replicate]; omega), by rw [upd_same, List.replicate_succ'], same_mut s2 n2⟩
    rintro H2 ⟨e2, s2⟩
    have e2 : H2 L2 = some (.lst (List.replicate n (.ref a_NOUGHT))) := e2
    have s02 : Same H H2 := s1.trans s2
    walk_at "go"
    refine g_cut (fun σ H' => ∃ vs L, σ = [some (.ref a), some (.int n), some (.ref L1), none, some (.ref L), none, none] ∧ Same H H' ∧ H L = none ∧ H' L = some (.lst vs) ∧ Frs K H' vs ((List.range n).map (placeR t))) ?_ ?_
    · walk_at "go"
      refine ⟨Nat.zero_le _, fun p np => ?_⟩
      refine g_neE (SqL.of (same_new np _ _ (s2 _ _ e1))) il_dp (Sh.il) sqL_at ?_
      walk_at "go"
      have e1p := same_new (o := .lst []) np _ _ (s2 _ _ e1)
      have s03 := s02.trans (same_new (o := .lst []) np)
      cases hA : awayL t n with
      | nil =>
        refine ifND (fun h => absurd rfl h) (fun _ => ?_)
        walk_at "go"
        refine ⟨_, L2, rfl, s03, (s1.free n2), same_new np _ _ e2, ?_⟩
        have : (List.range n).map (placeR t) = List.replicate n 0 := by
          rw [List.eq_replicate_iff]
          refine ⟨by simp, fun b hb => ?_⟩
          obtain ⟨k, _, rfl⟩ := List.mem_map.mp hb
          unfold placeR
          rw [hq.len, hA]
        rw [this]
        exact frs_rep (z0 _) n
      | cons f0 rest =>
        refine ifND (fun _ => ?_) (fun h => by cases h)
        have hf : f0 < n := (awayL_lt t (k := n) (by rw [hA]; exact List.mem_cons_self)).1
        rw [hA] at e1p
        walk_at "go"
        refine g_rng1 (by omega) ?_
        intro L3 n3
        refine lcl_range (fun i H' => ∃ vs, H' L3 = some (.lst vs) ∧ Same (upd H2 p (.lst [])) H' ∧ Frs K H' vs ((List.range i).map (placeR t))) ⟨[], upd_same, same_new n3, True.intro⟩ ?_ ?_
        · rintro i H3 hi ⟨vs, e3, s3, fr⟩
          walk_at "go"
          refine ⟨rfl, ?_⟩
          walk_at "go"
          refine g_ixL (SqL.of (s3 _ _ e1p)) (at_of (j := 0) rfl rfl) ?_
          walk_at "go"
          refine ⟨.ref a, t, n, f0, i, by rw [Int.zero_add]; rfl, Dp.sm hT (s03.trans s3), hq, hf, by omega, fun c H4 s4 hc => ?_⟩
          refine ⟨vs, s4 _ _ e3, sz_lt (by rw [fr.len]; simp; omega), vs ++ [.ref c], upd_same, same_mut (s3.trans s4) n3, ?_⟩
          rw [range_snoc]
          refine Frs.ts (ts_mut (s4 _ _ e3)) (Frs.snoc ?_ (Frs.ts (Same.ts s4) fr))
          have : placeR t i = if ab (at2 t 0 i - at2 t 0 f0) = at2 t f0 i then at2 t 0 i else -(at2 t 0 i) := by
            unfold placeR
            rw [hq.len, hA]
          rw [this]
          exact hc
        · rintro H3 ⟨vs, e3, s3, fr⟩
          walk_at "go"
          exact ⟨vs, L3, rfl, s03.trans s3, s03.free n3, e3, fr⟩
    · rintro σ H3 ⟨vs, L, rfl, s3, nL, eL, fr⟩
      walk_at "go"
      refine g_rng1 (by omega) ?_
      refine loop_range (fun i σ H4 => ∃ y5 y6, σ = [some (.ref a), some (.int n), some (.ref L1), none, some (.ref L), y5, y6] ∧ Same H3 H4 ∧ ∀ i', i' < i → ∀ j, j < i' → ab (placeR t i' - placeR t j) = at2 t i' j) ⟨none, none, rfl, Same.refl _, fun _ h => absurd h (Nat.not_lt_zero _)⟩ ?_ ?_
      · rintro i σ H4 hi ⟨y5, y6, rfl, s4, hI⟩
        have hi : i < n := by omega
        walk_at "go"
        refine g_rng1 (by omega) ?_
        refine loop_range (fun j σ H5 => ∃ y6, σ = [some (.ref a), some (.int n), some (.ref L1), none, some (.ref L), some (.int (0 + i)), y6] ∧ Same H3 H5 ∧ ∀ j', j' < j → ab (placeR t i - placeR t j') = at2 t i j') ⟨y6, rfl, s4, fun _ h => absurd h (Nat.not_lt_zero _)⟩ ?_ ?_
        · rintro j σ H5 hj ⟨y6, rfl, s5, hJ⟩
          have hj : j < i := by omega
          have s05 := s3.trans s5
          have fr5 := Frs.ts (Same.ts (K := K) s5) fr
          have eL5 := SqL.of (K := K) (s5 _ _ eL)
          obtain ⟨ci, eci, hci⟩ := fr5.at (i := i) (x := placeR t i) (by rw [List.getElem?_map, List.getElem?_range hi]; rfl)
          obtain ⟨cj, ecj, hcj⟩ := fr5.at (i := j) (x := placeR t j) (by rw [List.getElem?_map, List.getElem?_range (by omega)]; rfl)
          obtain ⟨ri, vi, ei, si, li, cc⟩ := rows i hi
          obtain ⟨cm, em, hcm⟩ := cc j (by omega)
          walk_at "go"
          refine g_ixL eL5 (at_of (j := i) (by omega) eci) ?_
          walk_at "go"
          refine g_ixL eL5 (at_of (j := j) (by omega) ecj) ?_
          walk_at "go"
          refine ⟨ci, cj, _, _, rfl, hci, hcj, (placeR_bd hq (by decide) i hi).mono (by decide), (placeR_bd hq (by decide) j (by omega)).mono (by decide), fun c H6 s6 hc => ?_⟩
          walk_at "go"
          refine g_ixL (sqL_same (s05.trans s6) sa) (at_of (j := i) (by omega) ei) ?_
          walk_at "go"
          refine g_ixL (sqL_same (s05.trans s6) si) (at_of (j := j) (by omega) em) ?_
          refine g_neF hc (sqT_same (s05.trans s6) hcm) ?_
          walk_at "go"
          refine ifND (fun h => ?_) (fun h => ?_)
          · walk_at "go"
            refine qN (fun z => h (z i (by rw [hq.len]; exact hi) j hj)) _ (s05.trans s6)
          · walk_at "go"
            refine ⟨_, rfl, s5.trans s6, fun j' hj' => ?_⟩
            by_cases e : j' = j
            · rw [e]; exact h
            · exact hJ j' (by omega)
        · rintro σ H5 ⟨y6, rfl, s5, hJ⟩
          refine ⟨_, _, rfl, s5, fun i' hi' j hj => ?_⟩
          by_cases e : i' = i
          · subst e
            exact hJ j (by omega)
          · exact hI i' (by omega) j hj
      · rintro σ H4 ⟨y5, y6, rfl, s4, hI⟩
        walk_at "go"
        refine qY (fun i hi j hj => hI i (by rw [hq.len] at hi; omega) j hj) L vs H4 nL (s3.trans s4) (s4 _ _ eL) (Frs.ts (Same.ts s4) fr)
end
section
variable {P : Program} {w : World} {K : PySem.W.Frag} {mg : Str → Option Value} {base : Heap}
/-- the answer of a line's table -/
def sp_line (K : PySem.W.Frag) : Sp := fun vs H Q _ => ∃ (T : V) (t : List (List Rat)) (n : Nat), vs = [T] ∧ Dp K H T (TD t) ∧ Sqr 1000 n t ∧ 1 ≤ n ∧ n ≤ 1000 ∧ fitsR t ∧
  ∀ L p vs H', H L = none → Same H H' → H' L = some (.lst vs) → Frs K H' vs ((List.range n).map (placeR t)) → H' p = some (.tup [.str "line", .ref L]) → Q (.ref p) H'
theorem ok_line_told {f : Addr} {fd : FuncData} (F : Fun K "line_told" "line_told" s_line_told f fd) (T : Tx K mg) (c_part_of : Cal P w K mg base 1 "part_of" spNever []) (c_places_of : Cal P w K mg base 6 "places_of" (sp_places K) []) (c_rising_tuples : Cal P w K mg base 2 "rising_tuples" spNever []) :
    FnOk P w K mg base CX0 7 f fd P_line_told (sp_line K) := by
  refine F.ok sc_line_told (fun vs H Q E h => ?_) (fun cdv A outer s H vs Q E hr h => ?_)
  · obtain ⟨Tv, t, n, rfl, _⟩ := h
    rfl
  · obtain ⟨Tv, t, n, rfl, hT, hq, hn1, hn2, hf, q⟩ := h
    refine ⟨_, (pss_cons (ps_set (i := 1) sc_line_told.nd rfl (Or.inl rfl) (pe_c c_places_of hr (by decide) rfl (pa_cons (pv 0) pa_nil)))
  (pss_cons (ps_if (pt_cmpR op_notN1 (pv 1) pe_non (nomark _))
  (pss_one (ps_ret (pe_tup (pa_cons pe_str (pa_cons (pv 1) pa_nil)))))
  pss_nil)
  (pss_cons (ps_set (i := 2) sc_line_told.nd rfl (Or.inl rfl) (pe_op op_add (pe_c c_rising_tuples hr (by decide) rfl (pa_cons (pe_callB (k_len (K := K)) (by rfl) T.len_ (by decide +kernel) (pa_cons (pv 0) pa_nil)) (pa_cons pe_int pa_nil))) (pe_c c_rising_tuples hr (by decide) rfl (pa_cons (pe_callB (k_len (K := K)) (by rfl) T.len_ (by decide +kernel) (pa_cons (pv 0) pa_nil)) (pa_cons pe_int pa_nil)))))
  (pss_one (ps_ret (pe_tup (pa_cons pe_str (pa_cons (pe_ix (k_ixL (K := K)) (pe_lc (own := [("points", 3)]) (g := gName 3) rfl sc_line_told.nd (k_piL (K := K) (pv 2)) (blkOk_by (own := [("points", 3)]) (N := N_line_told) (sc := defScope s_line_told) (by decide +kernel)) (fun _ _ _ _ _ => (pg_name (i := 3) sc_line_told.nd rfl (Or.inl rfl))) (fun _ _ _ _ _ => (pts_one (pt_cmpR op_isN1 (pe_c c_places_of hr (by decide) rfl (pa_cons (pe_c c_part_of hr (by decide) rfl (pa_cons (pv 0) (pa_cons (pe_callTy (k_list (K := K)) (by rfl) T.list_ (by decide +kernel) (pa_cons (pv 3) pa_nil)) pa_nil))) pa_nil)) pe_non (nomark _)))) (fun _ _ _ _ _ => (pv 3))) pe_int (fun _ _ => rfl)) pa_nil)))))))), ?_⟩
    walk_at "go"
    refine ⟨Tv, t, n, rfl, hT, hq, hn1, hn2, fun _ L vs H1 nL s1 eL fr => ?_, fun z => absurd hf z⟩
    walk_at "go"
    refine ⟨two_le, fun p np => ?_⟩
    exact q L p vs _ nL (s1.trans (same_new np)) (same_new np _ _ eL) (Frs.ts (ts_new np) fr) upd_same
def sp_lfrac : Sp := fun vs H Q _ => ∃ t b : Int, vs = [.int t, .int b] ∧ 0 < b ∧ IB 8500 b ∧ ∀ p, H p = none → Q (.ref p) (upd H p (.tup (FV (Rat.divInt t b))))
theorem ok_l_fraction {f : Addr} {fd : FuncData} (F : Fun K "_law_fraction" "_law_fraction" s_l_fraction f fd) (T : Tx K mg) : FnOk P w K mg base CX0 1 f fd P_l_fraction sp_lfrac := by
  refine F.ok sc_l_fraction (fun vs H Q E h => ?_) (fun cdv A outer s H vs Q E hr h => ?_)
  · obtain ⟨t, b, rfl, _⟩ := h
    rfl
  · obtain ⟨t, b, rfl, hb, hl, q⟩ := h
    refine ⟨_, (pss_cons (ps_set (i := 2) sc_l_fraction.nd rfl (Or.inl rfl) (pe_callB cr_abs (by rfl) T.abs_ (by decide +kernel) (pa_cons (pv 0) pa_nil)))
  (pss_cons (ps_set (i := 3) sc_l_fraction.nd rfl (Or.inl rfl) (pv 1))
  (pss_cons (ps_while PassesOwn.never (pt_cmpR op_ne (pv 3) pe_int (nomark _))
  (pss_cons (ps_set (i := 4) sc_l_fraction.nd rfl (Or.inl rfl) (pe_op op_modN (pv 2) (pv 3)))
  (pss_cons (ps_set (i := 2) sc_l_fraction.nd rfl (Or.inl rfl) (pv 3))
  (pss_one (ps_set (i := 3) sc_l_fraction.nd rfl (Or.inl rfl) (pv 4))))))
  (pss_one (ps_ret (pe_tup (pa_cons (pe_op op_fdivV (pv 0) (pv 2)) (pa_cons (pe_op op_fdivV (pv 1) (pv 2)) pa_nil)))))))), ?_⟩
    have hb0 : b ≠ 0 := by omega
    have hg := gcd_lt (t := t) hb0 hl
    have hp := gcd_pos' (t := t) hb0
    walk_at "go"
    refine while_by (fun σ H' => ∃ (x y : Int) (z : Option V), σ = [some (.int t), some (.int b), some (.int x), some (.int y), z] ∧ H' = H ∧ Int.gcd x y = Int.gcd t b ∧ 0 ≤ x ∧ 0 ≤ y) (fun σ _ => match σ with | [_, _, _, some (.int y), _] => y.natAbs | _ => 0)
      ⟨_, _, none, rfl, rfl, by have := gcd_abs t b; rw [if_neg (show ¬ b < 0 by omega)] at this; exact this, by split <;> omega, by omega⟩ ?_ ?_
    · rintro σ H' ⟨x, y, z, rfl, rfl, e, x0, y0⟩
      walk_at "go"
      refine ifND (fun h => ?_) (fun h => ?_)
      · walk_at "go"
        refine g_modN h ?_
        walk_at "go"
        exact ⟨⟨y, x.fmod y, _, rfl, rfl, (gcd_fmod x y).trans e, y0, Int.fmod_nonneg x0 y0⟩, fmod_small x y h⟩
      · subst h
        have e0 : x = (Int.gcd t b : Int) := by rw [← e, Int.gcd_zero_right]; omega
        subst e0
        walk_at "go"
        refine g_divV (divV 8500 (by omega) (by omega)) ?_
        walk_at "go"
        refine g_divV (divV 8500 (by omega) (by omega)) ?_
        walk_at "go"
        refine ⟨two_le, fun p np => ?_⟩
        have := q p np
        unfold FV at this
        rw [divInt_num t b hb0, divInt_den t b hb0, if_neg (show ¬ b < 0 by omega), if_neg (show ¬ b < 0 by omega)] at this
        exact this
    · intro σ H Q Q' h t
      obtain ⟨v, e1, i, k, e3, q⟩ := t
      exact ⟨v, e1, i, k, e3, h _ _ q⟩
/-- rows of ints over a bottom -/
def ZD (ts : List (List Int)) : PyData := .list (ts.map IL)
def sp_ltable (K : PySem.W.Frag) : Sp := fun vs H Q _ => ∃ (R : V) (ts : List (List Int)) (b : Int), vs = [R, .int b] ∧ Dp K H R (ZD ts) ∧ 0 < b ∧ IB 8500 b ∧ ts.length ≤ 1000 ∧ (∀ r ∈ ts, r.length ≤ 1000) ∧
  ∀ p H', Same H H' → Dp K H' (.ref p) (TD (overB b ts)) → Q (.ref p) H'
theorem ok_l_table {f : Addr} {fd : FuncData} (F : Fun K "_law_table" "_law_table" s_l_table f fd) (T : Tx K mg) (c_l_fraction : Cal P w K mg base 1 "_law_fraction" sp_lfrac []) : FnOk P w K mg base CX0 2 f fd P_l_table (sp_ltable K) := by
  refine F.ok sc_l_table (fun vs H Q E h => ?_) (fun cdv A outer s H vs Q E hr h => ?_)
  · obtain ⟨R, ts, b, rfl, _⟩ := h
    rfl
  · obtain ⟨R, ts, b, rfl, hR, hb, hl, h1, h2, q⟩ := h
    refine ⟨_, (pss_one (ps_ret (pe_lc (own := [("row", 2)]) (g := gName 2) (tt := tYes) rfl sc_l_table.nd (k_piL (K := K) (pv 0)) (blkOk_by (own := [("row", 2)]) (N := N_l_table) (sc := defScope s_l_table) (by decide +kernel)) (fun _ _ _ _ _ => (pg_name (i := 2) sc_l_table.nd rfl (Or.inl rfl))) (fun _ _ _ _ _ => pts_nil) (fun _ _ _ _ _ => (pe_lc (own := [("number", 3)]) (g := gName 3) (tt := tYes) rfl sc_l_table.nd (k_piL (K := K) (pv 2)) (blkOk_by (own := [("number", 3)]) (by rfl)) (fun _ _ _ _ _ => (pg_name (i := 3) sc_l_table.nd rfl (Or.inl rfl))) (fun _ _ _ _ _ => pts_nil) (fun _ _ _ _ _ => (pe_c c_l_fraction hr (by decide) rfl (pa_cons (pv 3) (pa_cons (pv 1) pa_nil))))))))), ?_⟩
    obtain ⟨a, xs, rfl, sa, hd⟩ := Dp.lstI hR
    walk_at "go"
    refine g_ilR sa ?_
    intro L nL
    refine lcd_list (K := K) (fun i => FL ((ts.getD i []).map fun i => Rat.divInt i b)) sa nL (by rw [DpAll.len hd, List.length_map]; omega) ?_ ?_
    · intro i x H1 R hx s1 eL done
      obtain ⟨acc, eL⟩ := eL
      obtain ⟨d, hd1, hdx⟩ := DpAll.got hd hx
      rw [List.getElem?_map] at hd1
      obtain ⟨row, hrow, rfl⟩ := Option.map_eq_some_iff.mp hd1
      obtain ⟨r, vs, rfl, sr, hv⟩ := Dp.lstI hdx
      have ev := int_dp hv
      subst ev
      have e0 : ts.getD i [] = row := by rw [List.getD_eq_getElem?_getD, hrow]; rfl
      have hrl := h2 row (List.mem_of_getElem? hrow)
      rw [e0] at done
      walk_at "go"
      refine ⟨rfl, ?_⟩
      walk_at "go"
      refine g_ilR (sqL_same s1 sr) ?_
      intro M nM
      have nML : M ≠ L := fun z => by rw [z, eL] at nM; cases nM
      refine lcd_list (K := K) (fun i => FD (Rat.divInt (row.getD i 0) b)) (sqL_same s1 sr) nM (by rw [List.length_map]; omega) ?_ ?_
      · intro j y H2 R2 hy s2 eM done2
        obtain ⟨acc2, eM⟩ := eM
        rw [List.getElem?_map] at hy
        obtain ⟨z, hz, rfl⟩ := Option.map_eq_some_iff.mp hy
        have e1 : row.getD j 0 = z := by rw [List.getD_eq_getElem?_getD, hz]; rfl
        rw [e1] at done2
        walk_at "go"
        refine ⟨rfl, ?_⟩
        walk_at "go"
        refine ⟨z, b, rfl, hb, hl, fun c nc => ?_⟩
        exact done2 _ _ (same_new nc) (FD_dp (ts_del (same_new nc _ _ eM) _ _ sqT_at))
      · intro ws H2 e2 s2 d2
        rw [List.length_map, range_at (fun i => FD (Rat.divInt i b)) row 0] at d2
        refine done (.ref M) H2 s2 ?_
        have : DpAll K H2 ws ((row.map fun i => Rat.divInt i b).map FD) := by
          rw [List.map_map]
          exact DpAll.sm d2 same_del
        exact fl_del (s2 _ _ eL) e2 nML (frs_dp this)
    · intro ws H1 e1 s1 d1
      refine q L H1 s1 (.lst (SqL.of e1) (DpAll.sm ?_ (same_del (L := L))))
      have : (overB b ts).map FL = (List.range xs.length).map fun i => FL ((ts.getD i []).map fun i => Rat.divInt i b) := by
        rw [DpAll.len hd, List.length_map]
        unfold overB
        rw [List.map_map]
        exact (range_at (fun r => FL (r.map fun i => Rat.divInt i b)) ts []).symm
      rw [this]
      exact d1
def sp_zplaces (K : PySem.W.Frag) : Sp := fun vs H Q _ => ∃ (p : Addr) (n : Nat), vs = [.ref p, .int n] ∧ Deck H p ∧ n ≤ 100 ∧
  ∀ L ns H', H L = none → But p H H' → Deck H' p → H' L = some (.lst (List.map V.int ns)) → ns.length = n → (∀ z ∈ ns, IB 70 z) → Q (.ref L) H'
theorem ok_l_places {f : Addr} {fd : FuncData} (F : Fun K "_law_places" "_law_places" s_l_places f fd) (T : Tx K mg) (c_l_take : Cal P w K mg base 1 "_law_take" (sp_dtake K) []) : FnOk P w K mg base CX0 2 f fd P_l_places (sp_zplaces K) := by
  refine F.ok sc_l_places (fun vs H Q E h => ?_) (fun cdv A outer s H vs Q E hr h => ?_)
  · obtain ⟨p, n, rfl, _⟩ := h
    rfl
  · obtain ⟨p, n, rfl, hp, hn, q⟩ := h
    refine ⟨_, (pss_cons (ps_set (i := 2) sc_l_places.nd rfl (Or.inr rfl) (pe_ix (k_ixL (K := K)) (pe_lst (pa_cons pe_int (pa_cons pe_int (pa_cons (pe_op op_pow pe_int pe_int) pa_nil)))) (pe_c c_l_take hr (by decide) rfl (pa_cons (pv 0) (pa_cons pe_int pa_nil))) (fun _ _ => rfl)))
  (pss_one (ps_ret (pe_lc (own := [("point", 3)]) (g := gName 3) (tt := tYes) rfl sc_l_places.nd (pi_range1 (by rfl) T.range_ (pa_cons (pv 1) pa_nil)) (blkOk_by (own := [("point", 3)]) (N := N_l_places) (sc := defScope s_l_places) (by decide +kernel)) (fun _ _ _ _ _ => (pg_name (i := 3) sc_l_places.nd rfl (Or.inl rfl))) (fun _ _ _ _ _ => pts_nil) (fun _ _ _ _ _ => (pe_op op_sub (pe_c c_l_take hr (by decide) rfl (pa_cons (pv 0) (pa_cons (pe_op op_add (pe_op op_mulW pe_int (pv 2)) pe_int) pa_nil))) (pv 2))))))), ?_⟩
    walk_at "go"
    refine ⟨by show 3 ≤ sizeLine; decide, fun l nl => ?_⟩
    walk_at "go"
    refine ⟨p, 3, rfl, hp.new nl, by decide, by decide, fun r H1 r0 r1 b1 hp1 => ?_⟩
    have hl : H1 l = some (.lst ([4, 9, 100000000000000000000].map V.int)) := b1 _ _ (deck_ne hp nl) upd_same
    obtain ⟨z, hz, z1, z2⟩ := atI_of (ns := [4, 9, 100000000000000000000]) (fun z => 4 ≤ z ∧ z ≤ 100000000000000000000) r0 (by show r < 3; omega) (by decide)
    refine g_ixL (SqL.of hl) hz ?_
    walk_at "go"
    refine g_rng1 (by omega) ?_
    intro L nL
    have nLp : L ≠ p := deck_ne hp1 nL
    have b01 : But p H H1 := (But.new nl).trans b1
    refine lcl_range (fun i H' => ∃ ns, H' L = some (.lst (List.map V.int ns)) ∧ ns.length = i ∧ (∀ z ∈ ns, IB 70 z) ∧ But p H H' ∧ Deck H' p) ⟨[], upd_same, rfl, (fun _ h => by cases h), b01.newp nL, hp1.new nL⟩ ?_ ?_
    · rintro i H2 hi ⟨ns, e2, ln, ib, b2, hp2⟩
      have hi : i < n := by omega
      walk_at "go"
      refine ⟨rfl, ?_⟩
      walk_at "go"
      refine g_mul (mulW 64 70 (by decide) (by omega)) ?_
      walk_at "go"
      refine ⟨p, 2 * z + 1, rfl, hp2, by omega, Nat.lt_of_lt_of_le (show (2 * z + 1).natAbs < 2 ^ 70 by omega) (Nat.pow_le_pow_right (by decide) (by decide)), fun x H3 x0 x1 b3 hp3 => ?_⟩
      walk_at "go"
      refine ⟨_, b3 _ _ nLp e2, sz_lt (by rw [List.length_map]; omega), ns ++ [x - z], by rw [upd_same, List.map_append]; rfl, by rw [List.length_append, ln]; rfl, ?_, ?_, ?_⟩
      · intro y hy
        rcases List.mem_append.mp hy with h | h
        · exact ib y h
        · rw [List.mem_singleton.mp h]; unfold IB; omega
      · intro b o nb e
        have nbL : b ≠ L := fun y => by
          rw [y] at e
          have z := free_but b01 nLp nL
          rw [e] at z; cases z
        rw [upd_ne nbL]
        exact b3 _ _ nb (b2 _ _ nb e)
      · obtain ⟨d, ed⟩ := hp3
        exact ⟨d, by rw [upd_ne nLp.symm]; exact ed⟩
    · rintro H2 ⟨ns, e2, ln, ib, b2, hp2⟩
      exact q L ns H2 (free_but b01 nLp nL) b2 hp2 e2 (by rw [ln]; omega) ib
def sp_lined (K : PySem.W.Frag) : Sp := fun vs H Q _ => ∃ (a : Addr) (ns : List Int), vs = [.ref a] ∧ SqL K H a (ns.map V.int) ∧ ns.length ≤ 1000 ∧ ∀ R H', Same H H' → Dp K H' (.ref R) (ZD (linedZ ns)) → Q (.ref R) H'
theorem int_at {ns : List Int} {i : Nat} {x : V} (h : (ns.map V.int)[i]? = some x) : x = .int (zAt ns i) ∧ i < ns.length := by
  rw [List.getElem?_map] at h
  obtain ⟨z, hz, rfl⟩ := Option.map_eq_some_iff.mp h
  refine ⟨?_, (List.getElem?_eq_some_iff.mp hz).1⟩
  unfold zAt
  rw [List.getD_eq_getElem?_getD, hz]; rfl
theorem il_del {H : Hp} {L M : Addr} {ns : List Int} {ws : List V} (h : H M = some (.lst ws)) (d : DpAll K H ws (ns.map PyData.int)) (n : M ≠ L) : Dp K (delH H L) (.ref M) (IL ns) := by
  have e := int_dp d
  subst e
  exact IL_dp (sql_del h n)
theorem ok_l_lined {f : Addr} {fd : FuncData} (F : Fun K "_law_lined" "_law_lined" s_l_lined f fd) (T : Tx K mg) : FnOk P w K mg base CX0 1 f fd P_l_lined (sp_lined K) := by
  refine F.ok sc_l_lined (fun vs H Q E h => ?_) (fun cdv A outer s H vs Q E hr h => ?_)
  · obtain ⟨a, ns, rfl, _⟩ := h
    rfl
  · obtain ⟨a, ns, rfl, sa, hn, q⟩ := h
    refine ⟨_, (pss_one (ps_ret (pe_lc (own := [("one", 1)]) (g := gName 1) (tt := tYes) rfl sc_l_lined.nd (k_piL (K := K) (pv 0)) (blkOk_by (own := [("one", 1)]) (N := N_l_lined) (sc := defScope s_l_lined) (by decide +kernel)) (fun _ _ _ _ _ => (pg_name (i := 1) sc_l_lined.nd rfl (Or.inr rfl))) (fun _ _ _ _ _ => pts_nil) (fun _ _ _ _ _ => (pe_lc (own := [("other", 2)]) (g := gName 2) (tt := tYes) rfl sc_l_lined.nd (k_piL (K := K) (pv 0)) (blkOk_by (own := [("other", 2)]) (by rfl)) (fun _ _ _ _ _ => (pg_name (i := 2) sc_l_lined.nd rfl (Or.inl rfl))) (fun _ _ _ _ _ => pts_nil) (fun _ _ _ _ _ => (pe_callB cr_abs (by rfl) T.abs_ (by decide +kernel) (pa_cons (pe_op op_sub (pv 1) (pv 2)) pa_nil)))))))), ?_⟩
    walk_at "go"
    refine g_ilR sa ?_
    intro L nL
    refine lcd_list (K := K) (fun i => IL (ns.map fun c => absI (zAt ns i - c))) sa nL (by rw [List.length_map]; omega) ?_ ?_
    · intro i x H1 R hx s1 eL done
      obtain ⟨acc, eL⟩ := eL
      obtain ⟨rfl, hi⟩ := int_at hx
      walk_at "go"
      refine ⟨rfl, ?_⟩
      walk_at "go"
      refine g_ilR (sqL_same s1 sa) ?_
      intro M nM
      have nML : M ≠ L := fun z => by rw [z, eL] at nM; cases nM
      refine lcd_list (K := K) (fun j => .int (absI (zAt ns i - zAt ns j))) (sqL_same s1 sa) nM (by rw [List.length_map]; omega) ?_ ?_
      · intro j y H2 R2 hy s2 eM done2
        obtain ⟨rfl, hj⟩ := int_at hy
        walk_at "go"
        refine ⟨rfl, ?_⟩
        walk_at "go"
        exact done2 _ _ (Same.refl _) (.int _)
      · intro ws H2 e2 s2 d2
        rw [List.length_map, show (fun j => PyData.int (absI (zAt ns i - zAt ns j))) = (fun j => (fun c => PyData.int (absI (zAt ns i - c))) (ns.getD j 0)) from rfl, range_at (fun c => PyData.int (absI (zAt ns i - c))) ns 0] at d2
        refine done (.ref M) H2 s2 (il_del e2 (DpAll.sm ?_ (same_del (L := M))) nML)
        rw [List.map_map]
        exact d2
    · intro ws H1 e1 s1 d1
      refine q L H1 s1 (.lst (SqL.of e1) (DpAll.sm ?_ (same_del (L := L))))
      rw [List.length_map, show (fun i => IL (ns.map fun c => absI (zAt ns i - c))) = (fun i => (fun a => IL (ns.map fun c => absI (a - c))) (ns.getD i 0)) from rfl, range_at (fun a => IL (ns.map fun c => absI (a - c))) ns 0] at d1
      unfold linedZ
      rw [List.map_map]
      exact d1
def sp_told (K : PySem.W.Frag) : Sp := fun vs H Q _ => ∃ (a : Addr) (ns : List Int), vs = [.ref a] ∧ SqL K H a (ns.map V.int) ∧ 1 ≤ ns.length ∧ ns.length ≤ 1000 ∧ ∀ R H', Same H H' → H' R = some (.lst (((List.range ns.length).map (toldZ ns)).map V.int)) → Q (.ref R) H'
theorem awayZ_len (ns : List Int) : ∀ k, (awayZ ns k).length ≤ k
  | 0 => Nat.le_refl _
  | k + 1 => by
    unfold awayZ
    rw [List.length_append]
    have := awayZ_len ns k
    split <;> simp <;> omega
theorem ok_l_told_form {f : Addr} {fd : FuncData} (F : Fun K "_law_told_form" "_law_told_form" s_l_told_form f fd) (T : Tx K mg) : FnOk P w K mg base CX0 1 f fd P_l_told_form (sp_told K) := by
  refine F.ok sc_l_told_form (fun vs H Q E h => ?_) (fun cdv A outer s H vs Q E hr h => ?_)
  · obtain ⟨a, ns, rfl, _⟩ := h
    rfl
  · obtain ⟨a, ns, rfl, sa, hn1, hn, q⟩ := h
    refine ⟨_, (pss_cons (ps_setLc (i := 1) (own := [("place", 2)]) (g := gName 2) (tt := tYes) rfl sc_l_told_form.nd rfl rfl (sw_true rfl rfl rfl (by decide +kernel)) (k_piL (K := K) (pv 0)) (blkOk_by (own := [("place", 2)]) (N := N_l_told_form) (sc := defScope s_l_told_form) (by decide +kernel)) (fun _ _ _ _ _ => (pg_name (i := 2) sc_l_told_form.nd rfl (Or.inl rfl))) (fun _ _ _ _ _ => pts_nil) (fun _ _ _ _ _ => (pe_op op_sub (pv 2) (pe_ix (k_ixL (K := K)) (pv 0) pe_int (fun _ _ => rfl)))))
  (pss_cons (ps_setLc (i := 3) (own := [("place", 2)]) (g := gName 2) rfl sc_l_told_form.nd rfl rfl (sw_true rfl rfl rfl (by decide +kernel)) (k_piL (K := K) (pv 1)) (blkOk_by (own := [("place", 2)]) (N := N_l_told_form) (sc := defScope s_l_told_form) (by decide +kernel)) (fun _ _ _ _ _ => (pg_name (i := 2) sc_l_told_form.nd rfl (Or.inl rfl))) (fun _ _ _ _ _ => (pts_one (pt_cmpR op_ne (pv 2) pe_int (nomark _)))) (fun _ _ _ _ _ => (pv 2)))
  (pss_cons (ps_if (PW.pt (pw_and (pt_cmpR (k_neD (K := K) hr.units) (pv 3) (pe_lst pa_nil) (nomark _)) (pw_and1 (pt_cmpR op_lt (pe_ix (k_ixL (K := K)) (pv 3) pe_int (fun _ _ => rfl)) pe_int (nomark _)))))
  (pss_one (ps_setLc (i := 1) (own := [("place", 2)]) (g := gName 2) (tt := tYes) rfl sc_l_told_form.nd rfl rfl (sw_true rfl rfl rfl (by decide +kernel)) (k_piL (K := K) (pv 1)) (blkOk_by (own := [("place", 2)]) (N := N_l_told_form) (sc := defScope s_l_told_form) (by decide +kernel)) (fun _ _ _ _ _ => (pg_name (i := 2) sc_l_told_form.nd rfl (Or.inl rfl))) (fun _ _ _ _ _ => pts_nil) (fun _ _ _ _ _ => (pe_op op_sub pe_int (pv 2)))))
  pss_nil)
  (pss_one (ps_ret (pv 1)))))), ?_⟩
    have at0 : (ns.map V.int)[0]? = some (.int (zAt ns 0)) := by
      rw [List.getElem?_map, List.getElem?_eq_getElem (show 0 < ns.length by omega)]
      unfold zAt
      rw [List.getD_eq_getElem?_getD, List.getElem?_eq_getElem (show 0 < ns.length by omega)]; rfl
    walk_at "go"
    refine g_ilR sa ?_
    intro L nL
    refine lcd_list (K := K) (fun i => .int (dz ns i)) sa nL (by rw [List.length_map]; omega) ?_ ?_
    · intro i x H1 R hx s1 eL done
      obtain ⟨rfl, hi⟩ := int_at hx
      walk_at "go"
      refine ⟨rfl, ?_⟩
      walk_at "go"
      refine g_ixL (sqL_same s1 sa) (at_of (j := 0) rfl at0) ?_
      walk_at "go"
      exact done _ _ (Same.refl _) (.int _)
    · intro ws H1 e1 s1 d1
      have ew := int_dp (ns := (List.range ns.length).map (dz ns)) (by rw [List.map_map]; rw [List.length_map] at d1; exact d1)
      subst ew
      generalize hds : (List.range ns.length).map (dz ns) = ds at e1
      have lds : ds.length = ns.length := by rw [← hds]; simp
      have dat : ∀ i, i < ns.length → zAt ds i = dz ns i := fun i hi => by
        unfold zAt
        rw [← hds, List.getD_eq_getElem?_getD, List.getElem?_map, List.getElem?_range hi]; rfl
      walk_at "go"
      refine g_ilR (SqL.of e1) ?_
      intro L2 n2
      refine lcl_list (K := K) (a := L) (xs := ds.map V.int) (fun i H' => H' L2 = some (.lst (((awayZ ns i).map (dz ns)).map V.int)) ∧ Same H1 H') ⟨upd_same, same_new n2⟩ (fun i H' _ ⟨_, s2⟩ => SqL.of (s2 _ _ e1)) ?_ ?_
      · rintro i x H2 hx ⟨e2, s2⟩
        obtain ⟨rfl, hi⟩ := int_at hx
        rw [lds] at hi
        rw [dat i hi]
        walk_at "go"
        refine ⟨rfl, ?_⟩
        walk_at "go"
        refine ifND (fun h => ?_) (fun h => ?_)
        · walk_at "go"
          have ea : awayZ ns (i + 1) = awayZ ns i ++ [i] := by show _ ++ _ = _; rw [if_neg h]
          refine ⟨_, e2, sz_lt (by rw [List.length_map, List.length_map]; have := awayZ_len ns i; omega), ?_, same_mut s2 n2⟩
          rw [upd_same, ea, List.map_append, List.map_append]
          rfl
        · have ea : awayZ ns (i + 1) = awayZ ns i := by show _ ++ _ = _; rw [if_pos h, List.append_nil]
          rw [ea]
          exact ⟨e2, s2⟩
      · rintro H2 ⟨e2, s2⟩
        rw [List.length_map, lds] at e2
        walk_at "go"
        refine ⟨Nat.zero_le _, fun p np => ?_⟩
        refine g_neE (SqL.of (same_new np _ _ e2)) il_dp Sh.il sqL_at ?_
        walk_at "go"
        have s12 := s1.trans (s2.trans (same_new (o := .lst []) np))
        have eL2 := same_new (o := .lst []) np _ _ (s2 _ _ e1)
        have e2' := same_new (o := .lst []) np _ _ e2
        have fin : sgZ ns = 1 → ds = (List.range ns.length).map (toldZ ns) := fun h => by
          rw [← hds]
          congr 1
          funext i
          unfold toldZ
          rw [if_pos h]
        cases hA : awayZ ns ns.length with
        | nil =>
          refine ifND (fun h => absurd rfl h) (fun _ => ?_)
          walk_at "go"
          rw [fin (by unfold sgZ; rw [hA])] at eL2
          exact q L _ s12 eL2
        | cons f0 rest =>
          rw [hA] at e2'
          refine ifND (fun _ => ?_) (fun h => by cases h)
          walk_at "go"
          refine g_ixL (SqL.of e2') (at_of (j := 0) rfl rfl) ?_
          walk_at "go"
          refine ifD (fun h => ?_) (fun h => ?_)
          · walk_at "go"
            refine g_ilR (SqL.of eL2) ?_
            intro L3 n3
            refine lcd_list (K := K) (fun i => .int (toldZ ns i)) (SqL.of eL2) n3 (by rw [List.length_map]; omega) ?_ ?_
            · intro i x H3 R hx s3 eL done
              obtain ⟨rfl, hi⟩ := int_at hx
              rw [lds] at hi
              rw [dat i hi]
              walk_at "go"
              refine ⟨rfl, ?_⟩
              walk_at "go"
              have : toldZ ns i = 0 - dz ns i := by unfold toldZ sgZ; rw [hA]; simp [h]
              rw [← this]
              exact done _ _ (Same.refl _) (.int _)
            · intro ws H3 e3 s3 d3
              walk_at "go"
              have ew := int_dp (ns := (List.range ns.length).map (toldZ ns)) (by rw [List.map_map]; rw [List.length_map, lds] at d3; exact d3)
              subst ew
              exact q L3 _ (s12.trans s3) e3
          · walk_at "go"
            rw [fin (by unfold sgZ; rw [hA]; simp [h])] at eL2
            exact q L _ s12 eL2
end
section
variable {P : Program} {w : World} {K : PySem.W.Frag} {mg : Str → Option Value} {base : Heap}
def sp_law (K : PySem.W.Frag) : Sp := fun vs H Q _ => ∃ (a : Addr) (ns : List Int), vs = [.ref a] ∧ SqL K H a (ns.map V.int) ∧ ns.length ≤ 63 ∧ ∀ H', Q (.bl true) H'
theorem ok_law {f : Addr} {fd : FuncData} (F : Fun K "law" "law" s_law f fd) (T : Tx K mg) (c_line_told : Cal P w K mg base 7 "line_told" (sp_line K) []) (c_l_deck : Cal P w K mg base 2 "_law_deck" (sp_deck K) []) (c_l_take : Cal P w K mg base 1 "_law_take" (sp_dtake K) []) (c_l_fraction : Cal P w K mg base 1 "_law_fraction" sp_lfrac [])
    (c_l_table : Cal P w K mg base 2 "_law_table" (sp_ltable K) []) (c_l_places : Cal P w K mg base 2 "_law_places" (sp_zplaces K) []) (c_l_lined : Cal P w K mg base 1 "_law_lined" (sp_lined K) []) (c_l_told_form : Cal P w K mg base 1 "_law_told_form" (sp_told K) []) :
    FnOk P w K mg base CX0 8 f fd P_law (sp_law K) := by
  refine F.ok sc_law (fun vs H Q E h => ?_) (fun cdv A outer s H vs Q E hr h => ?_)
  · obtain ⟨a, ns, rfl, _⟩ := h
    rfl
  · obtain ⟨a, ns, rfl, hS, hn, q⟩ := h
    refine ⟨_, (pss_cons (ps_for PassesOwn.never rfl (k_piL (K := K) (pe_op op_cat (pe_lst (pa_cons (pe_op op_pow pe_int pe_int) pa_nil)) (pe_slice (k_slL (K := K)) (pv 0) po_none (po_some pe_int)))) (pg_name (i := 1) sc_law.nd rfl (Or.inl rfl))
  (pss_cons (ps_set (i := 2) sc_law.nd rfl (Or.inl rfl) (pe_c c_l_deck hr (by decide) rfl (pa_cons (pv 1) pa_nil)))
  (pss_cons (ps_set (i := 3) sc_law.nd rfl (Or.inl rfl) (pe_op op_add pe_int (pe_c c_l_take hr (by decide) rfl (pa_cons (pv 2) (pa_cons pe_int pa_nil)))))
  (pss_cons (ps_set (i := 4) sc_law.nd rfl (Or.inl rfl) (pe_c c_l_places hr (by decide) rfl (pa_cons (pv 2) (pa_cons (pv 3) pa_nil))))
  (pss_cons (ps_set (i := 5) sc_law.nd rfl (Or.inr rfl) (pe_op op_add pe_int (pe_c c_l_take hr (by decide) rfl (pa_cons (pv 2) (pa_cons (pe_ix (k_ixL (K := K)) (pe_lst (pa_cons pe_int (pa_cons pe_int (pa_cons (pe_op op_pow pe_int pe_int) pa_nil)))) (pe_c c_l_take hr (by decide) rfl (pa_cons (pv 2) (pa_cons pe_int pa_nil))) (fun _ _ => rfl)) pa_nil)))))
  (pss_cons (ps_set (i := 6) sc_law.nd rfl (Or.inl rfl) (pe_c c_l_table hr (by decide) rfl (pa_cons (pe_c c_l_lined hr (by decide) rfl (pa_cons (pv 4) pa_nil)) (pa_cons (pv 5) pa_nil))))
  (pss_cons (ps_set (i := 7) sc_law.nd rfl (Or.inl rfl) (pe_tup (pa_cons pe_str (pa_cons (pe_lc (own := [("place", 8)]) (g := gName 8) (tt := tYes) rfl sc_law.nd (k_piL (K := K) (pe_c c_l_told_form hr (by decide) rfl (pa_cons (pv 4) pa_nil))) (blkOk_by (own := [("place", 8)]) (N := N_law) (sc := defScope s_law) (by decide +kernel)) (fun _ _ _ _ _ => (pg_name (i := 8) sc_law.nd rfl (Or.inl rfl))) (fun _ _ _ _ _ => pts_nil) (fun _ _ _ _ _ => (pe_c c_l_fraction hr (by decide) rfl (pa_cons (pv 8) (pa_cons (pv 5) pa_nil))))) pa_nil))))
  (pss_cons (ps_set (i := 9) sc_law.nd rfl (Or.inl rfl) (pe_c c_l_table hr (by decide) rfl (pa_cons (pe_c c_l_lined hr (by decide) rfl (pa_cons (pv 4) pa_nil)) (pa_cons (pv 5) pa_nil))))
  (pss_one (ps_for PassesOwn.never rfl (pi_range1 (by rfl) T.range_ (pa_cons pe_int pa_nil)) (pg_name (i := 10) sc_law.nd rfl (Or.inl rfl))
  (pss_cons (ps_set (i := 11) sc_law.nd rfl (Or.inl rfl) (pe_c c_line_told hr (by decide) rfl (pa_cons (pv 9) pa_nil)))
  (pss_cons (ps_if (PW.pt (pw_or (pt_not (pt_val (pe_callB (k_isi (K := K)) (by rfl) T.isinstance_ (by decide +kernel) (pa_cons (pv 11) (pa_cons (pe_bltn (v := .ty "tuple") (by rfl) T.tuple_ (by decide +kernel) rfl) pa_nil))))) (pw_or (pt_cmpR op_ne (pe_callB (k_len (K := K)) (by rfl) T.len_ (by decide +kernel) (pa_cons (pv 11) pa_nil)) pe_int (nomark _)) (pw_or1 (pt_not (pt_val (pe_callB (k_isi (K := K)) (by rfl) T.isinstance_ (by decide +kernel) (pa_cons (pe_ix (k_ixT (K := K)) (pv 11) pe_int (fun _ _ => rfl)) (pa_cons (pe_bltn (v := .ty "list") (by rfl) T.list_ (by decide +kernel) rfl) pa_nil)))))))))
  (pss_one (ps_ret pe_bl))
  pss_nil)
  (pss_cons (ps_if (PW.pt (pw_or (pt_cmpR (k_neD (K := K) hr.units) (pv 11) (pv 7) (nomark _)) (pw_or (pt_cmpR (k_neD (K := K) hr.units) (pv 9) (pv 6) (nomark _)) (pw_or1 (pt_cmpR (k_neD (K := K) hr.units) (pe_lc (own := [("one", 12)]) (g := gName 12) rfl sc_law.nd (k_piL (K := K) (pe_ix (k_ixT (K := K)) (pv 11) pe_int (fun _ _ => rfl))) (blkOk_by (own := [("one", 12)]) (N := N_law) (sc := defScope s_law) (by decide +kernel)) (fun _ _ _ _ _ => (pg_name (i := 12) sc_law.nd rfl (Or.inl rfl))) (fun _ _ _ _ _ => (pts_one (pt_not (pt_val (pe_callB (k_isi (K := K)) (by rfl) T.isinstance_ (by decide +kernel) (pa_cons (pv 12) (pa_cons (pe_bltn (v := .ty "tuple") (by rfl) T.tuple_ (by decide +kernel) rfl) pa_nil))))))) (fun _ _ _ _ _ => (pv 12))) (pe_lst pa_nil) (nomark _))))))
  (pss_one (ps_ret pe_bl))
  pss_nil)
  (pss_one (ps_expr (pe_bm PySem.F.plainAttrs_list PySem.F.slot_list_append PySem.F.type_list_append mt_append (pe_ix (k_ixT (K := K)) (pv 11) pe_int (fun _ _ => rfl)) (pa_cons (pe_tup (pa_cons pe_int (pa_cons pe_int pa_nil))) pa_nil)))))))))))))))))
  (pss_one (ps_ret pe_bl))), ?_⟩
    walk_at "go"
    refine ⟨by show 1 ≤ sizeLine; decide, fun l1 nl1 => ?_⟩
    walk_at "go"
    refine ⟨.ref a, rfl, 10, rfl, a, _, rfl, sqL_new nl1 hS, fun l2 nl2 => ?_⟩
    obtain ⟨ms, em, lm⟩ := cutV_int ns none (some 10)
    rw [em]
    refine ⟨l1, l2, [V.int 1000000000000000000], ms.map V.int, rfl, rfl, same_new nl2 _ _ upd_same, upd_same, sz_le (by rw [List.length_map]; show 1 + _ ≤ _; omega), fun l nl => ?_⟩
    have s0 : Same H (upd (upd (upd H l1 (.lst [.int 1000000000000000000])) l2 (.lst (ms.map V.int))) l (.lst ([V.int 1000000000000000000] ++ ms.map V.int))) := ((same_new nl1).trans (same_new nl2)).trans (same_new nl)
    have el : (upd (upd (upd H l1 (.lst [.int 1000000000000000000])) l2 (.lst (ms.map V.int))) l (.lst ([V.int 1000000000000000000] ++ ms.map V.int))) l = some (.lst ((1000000000000000000 :: ms).map V.int)) := upd_same
    generalize (upd (upd (upd H l1 (.lst [.int 1000000000000000000])) l2 (.lst (ms.map V.int))) l (.lst ([V.int 1000000000000000000] ++ ms.map V.int))) = H0 at s0 el
    refine g_ilR (SqL.of el) ?_
    refine loop_list (K := K) (a := l) (xs := (1000000000000000000 :: ms).map V.int) (fun i σ H' => (∃ y1 y2 y3 y4 y5 y6 y7 y8 y9 y10 y11 y12, σ = [some (.ref a), y1, y2, y3, y4, y5, y6, y7, y8, y9, y10, y11, y12]) ∧ Same H0 H') ⟨⟨_, _, _, _, _, _, _, _, _, _, _, _, rfl⟩, Same.refl _⟩ (fun i σ H' _ ⟨_, s1⟩ => SqL.of (s1 _ _ el)) ?_ ?_
    · rintro i x σ H1 hx ⟨⟨y1, y2, y3, y4, y5, y6, y7, y8, y9, y10, y11, y12, rfl⟩, s1⟩
      obtain ⟨rfl, _⟩ := int_at hx
      walk_at "go"
      refine ⟨_, rfl, fun p H2 np s2 hp => ?_⟩
      walk_at "go"
      refine ⟨p, 10, rfl, hp, by decide, by decide, fun r H3 r0 r1 b3 hp3 => ?_⟩
      walk_at "go"
      refine ⟨p, (1 + r).toNat, by rw [Int.toNat_of_nonneg (by omega)]; rfl, hp3, by omega, fun L zs H4 nL b4 hp4 eL ln ib => ?_⟩
      walk_at "go"
      have nLp : L ≠ p := deck_ne hp3 nL
      have hnz : 1 ≤ zs.length := by omega
      have hnz2 : zs.length ≤ 100 := by omega
      refine ⟨by show 3 ≤ sizeLine; decide, fun l5 n5 => ?_⟩
      walk_at "go"
      refine ⟨p, 3, rfl, hp4.new n5, by decide, by decide, fun r5 H5 r50 r51 b5 hp5 => ?_⟩
      have e5 : H5 l5 = some (.lst ([1, 12, 1000000000].map V.int)) := b5 _ _ (deck_ne hp4 n5) upd_same
      obtain ⟨z, hz, z1, z2⟩ := atI_of (ns := [1, 12, 1000000000]) (fun z => 1 ≤ z ∧ z ≤ 1000000000) r50 (by show r5 < 3; omega) (by decide)
      refine g_ixL (SqL.of e5) hz ?_
      walk_at "go"
      refine ⟨p, z, rfl, hp5, by omega, Nat.lt_of_lt_of_le (show z.natAbs < 2 ^ 31 by omega) (Nat.pow_le_pow_right (by decide) (by decide)), fun r6 H6 r60 r61 b6 hp6 => ?_⟩
      walk_at "go"
      generalize hB : 1 + r6 = B
      have hB1 : 0 < B := by omega
      have hB2 : IB 71 B := by unfold IB; omega
      have eL6 : H6 L = some (.lst (List.map V.int zs)) := b6 _ _ nLp (b5 _ _ nLp (same_new n5 _ _ eL))
      have s6 : Same H1 H6 := same_of_but ((((But.same s2).trans b3).trans b4).trans (((But.new n5).trans b5).trans b6)) np
      refine ⟨L, zs, rfl, SqL.of eL6, by omega, fun R H7 s7 d7 => ?_⟩
      have hz1 : (linedZ zs).length ≤ 1000 := by unfold linedZ; rw [List.length_map]; omega
      have hz2 : ∀ r ∈ linedZ zs, r.length ≤ 1000 := fun r h => by
        unfold linedZ at h
        obtain ⟨b, _, rfl⟩ := List.mem_map.mp h
        rw [List.length_map]; omega
      walk_at "go"
      refine ⟨.ref R, linedZ zs, B, rfl, d7, hB1, hB2.mono (by decide), hz1, hz2, fun Tb H8 s8 d8 => ?_⟩
      walk_at "go"
      refine ⟨L, zs, rfl, SqL.of (s8 _ _ (s7 _ _ eL6)), hnz, by omega, fun R9 H9 s9 e9 => ?_⟩
      refine g_ilR (SqL.of e9) ?_
      intro L10 n10
      refine lcd_list (K := K) (fun i => FD (Rat.divInt (toldZ zs i) B)) (SqL.of e9) n10 (by simp; omega) ?_ ?_
      · intro i x H10 R10 hx s10 eL10 done
        obtain ⟨acc, eL10⟩ := eL10
        obtain ⟨rfl, hi⟩ := int_at hx
        have hi : i < zs.length := by simpa using hi
        have : zAt ((List.range zs.length).map (toldZ zs)) i = toldZ zs i := by
          unfold zAt
          rw [List.getD_eq_getElem?_getD, List.getElem?_map, List.getElem?_range hi]; rfl
        rw [this]
        walk_at "go"
        refine ⟨rfl, ?_⟩
        walk_at "go"
        refine ⟨_, B, rfl, hB1, hB2.mono (by decide), fun c nc => ?_⟩
        exact done _ _ (same_new nc) (FD_dp (ts_del (same_new nc _ _ eL10) _ _ sqT_at))
      · intro ws H10 e10 s10 d10
        have d10' : Dp K H10 (.ref L10) (FL ((List.range zs.length).map fun i => Rat.divInt (toldZ zs i) B)) := by
          refine .lst (SqL.of e10) (DpAll.sm ?_ (same_del (L := L10)))
          rw [List.length_map, List.length_map, List.length_range] at d10
          rw [List.map_map]
          exact d10
        walk_at "go"
        refine ⟨two_le, fun pd nd => ?_⟩
        have ddue : Dp K (upd H10 pd (.tup [.str "line", .ref L10])) (.ref pd) (.tuple [.str "line", FL ((List.range zs.length).map fun i => Rat.divInt (toldZ zs i) B)]) :=
          .tup sqT_at (.cons (.str _) (.cons (Dp.sm d10' (same_new nd)) .nil))
        have s11 : Same H8 (upd H10 pd (.tup [.str "line", .ref L10])) := (s9.trans s10).trans (same_new nd)
        generalize (upd H10 pd (.tup [.str "line", .ref L10])) = H11 at ddue s11
        walk_at "go"
        refine ⟨L, zs, rfl, SqL.of (s11 _ _ (s8 _ _ (s7 _ _ eL6))), by omega, fun R12 H12 s12 d12 => ?_⟩
        walk_at "go"
        refine ⟨.ref R12, linedZ zs, B, rfl, d12, hB1, hB2.mono (by decide), hz1, hz2, fun Th H13 s13 d13 => ?_⟩
        walk_at "go"
        refine g_rng1 (by decide) ?_
        have d8' := Dp.sm d8 (s11.trans (s12.trans s13))
        have ddue' := Dp.sm ddue (s12.trans s13)
        have s113 : Same H1 H13 := (s6.trans (s7.trans s8)).trans (s11.trans (s12.trans s13))
        have sq : Sqr 1000 zs.length (overB B (linedZ zs)) := by
          have := lined_sqr zs B hB1 ib (m := 70) hB2
          exact ⟨this.len, this.row, fun r h x hx => (this.bd r h x hx).mono (by decide)⟩
        have sh : Sh 3 (.tuple [.str "line", FL ((List.range zs.length).map fun i => Rat.divInt (toldZ zs i) B)]) := Sh.tup (n := 2) fun d hd => by
          simp only [List.mem_cons, List.not_mem_nil, or_false] at hd
          rcases hd with rfl | rfl
          · exact ⟨by decide +kernel, by decide +kernel⟩
          · exact Sh.fl
        have e13 : ((List.range zs.length).map (placeR (overB B (linedZ zs)))) = (List.range zs.length).map fun i => Rat.divInt (toldZ zs i) B := by
          apply List.map_congr_left
          intro i hi
          exact place_told zs hB1 (List.mem_range.mp hi)
        refine loop_range (fun j σ H' => (∃ v1 v2 v3 v4 v5 v8 v10 v11 v12, σ = [some (.ref a), v1, v2, v3, v4, v5, some (.ref Tb), some (.ref pd), v8, some (.ref Th), v10, v11, v12]) ∧ Same H13 H') ⟨⟨_, _, _, _, _, _, _, _, _, rfl⟩, Same.refl _⟩ ?_ ?_
        · rintro j σ H14 hj ⟨⟨v1, v2, v3, v4, v5, v8, v10, v11, v12, rfl⟩, s14⟩
          walk_at "go"
          refine ⟨.ref Th, _, zs.length, rfl, Dp.sm d13 s14, sq, hnz, by omega, told_fits zs hB1, fun LF pf ws15 H15 nLF s15 eLF fr15 ep => ?_⟩
          have S15 := SqT.of (K := K) ep
          rw [e13] at fr15
          have df : Dp K H15 (.ref pf) (.tuple [.str "line", FL ((List.range zs.length).map fun i => Rat.divInt (toldZ zs i) B)]) := .tup S15 (.cons (.str _) (.cons (.lst (SqL.of eLF) (Frs.dp fr15)) .nil))
          have sA := s14.trans s15
          walk_at "go"
          refine ifND (fun h => absurd rfl h) (fun _ => ?_)
          walk_at "go"
          refine g_isiL (SqL.of eLF) ?_
          walk_at "go"
          refine g_neSame df (Dp.sm ddue' sA) sh ?_
          walk_at "go"
          refine g_neSame (Dp.sm d13 sA) (Dp.sm d8' sA) Sh.td ?_
          walk_at "go"
          refine g_ilR (SqL.of eLF) ?_
          intro L16 n16
          refine lcl_list (K := K) (a := LF) (xs := ws15) (fun i H' => H' L16 = some (.lst []) ∧ Same H15 H') ⟨upd_same, same_new n16⟩ (fun i H' _ ⟨_, s16⟩ => SqL.of (s16 _ _ eLF)) ?_ ?_
          · rintro i x H16 hx ⟨e16, s16⟩
            obtain ⟨c, y, rfl, _, hc⟩ := fr15.get hx
            walk_at "go"
            refine ⟨rfl, ?_⟩
            walk_at "go"
            exact ⟨e16, s16⟩
          · rintro H16 ⟨e16, s16⟩
            walk_at "go"
            refine ⟨Nat.zero_le _, fun q1 nq1 => ?_⟩
            refine g_neNil (SqL.of (same_new nq1 _ _ e16)) sqL_at ?_
            walk_at "go"
            have eLF' := same_new (o := .lst []) nq1 _ _ (s16 _ _ eLF)
            have S17 := SqT.of (K := K) (same_new (o := .lst []) nq1 _ _ (s16 _ _ ep))
            refine ⟨ty_l eLF', ?_⟩
            walk_at "go"
            refine ⟨two_le, fun q2 nq2 => ?_⟩
            walk_at "go"
            have eLF2 := same_new (o := .tup [.int 0, .int 1]) nq2 _ _ eLF'
            have ln2 : ws15.length ≤ 100 := by rw [fr15.len]; simp; omega
            refine ⟨LF, _, _, rfl, rfl, eLF2, sz_lt (by omega), ?_⟩
            refine ⟨⟨_, _, _, _, _, _, _, _, _, rfl⟩, ?_⟩
            have nLF0 : H13 LF = none := s14.free nLF
            exact same_mut (((sA.trans s16).trans (same_new nq1)).trans (same_new nq2)) nLF0
        · rintro σ H14 ⟨⟨v1, v2, v3, v4, v5, v8, v10, v11, v12, rfl⟩, s14⟩
          exact ⟨⟨_, _, _, _, _, _, _, _, _, _, _, _, rfl⟩, s1.trans (s113.trans s14)⟩
    · rintro σ H1 ⟨_, s1⟩
      walk_at "go"
      exact q _
end

theorem all_mk {l : PySem.W.OpenLaw} {w : World} {K : PySem.W.Frag} {h : Heap} {mg : Str → Option Value} {fa : Addr} (X : K.In h) (G : h.Ns mainGlobals mg) (hfa : mg "law" = some (.ref fa))
    {f0 : Addr} {od0 an0 : Option Addr} {sl0 : Array (Option Value)} {oc0 kV0 dc0 pm0 cd0 ct0 : Value}
    (a0 : PySem.W.nsIn K mainGlobals "common_of" = some (some (.ref f0))) (l0 : K.lookup f0 = some ⟨oc0, od0, .func (PySem.W.fnOf "common_of" "common_of" (defArgs s_common_of) (defBody s_common_of) (defScope s_common_of) .none kV0 dc0 pm0 an0 cd0 ct0), sl0⟩) (c0 : PySem.W.codeIn K cd0 "common_of" = true) (k0 : PySem.W.keepIn K (.ref f0) = true)
    {f1 : Addr} {od1 an1 : Option Addr} {sl1 : Array (Option Value)} {oc1 kV1 dc1 pm1 cd1 ct1 : Value}
    (a1 : PySem.W.nsIn K mainGlobals "fraction" = some (some (.ref f1))) (l1 : K.lookup f1 = some ⟨oc1, od1, .func (PySem.W.fnOf "fraction" "fraction" (defArgs s_fraction) (defBody s_fraction) (defScope s_fraction) .none kV1 dc1 pm1 an1 cd1 ct1), sl1⟩) (c1 : PySem.W.codeIn K cd1 "fraction" = true) (k1 : PySem.W.keepIn K (.ref f1) = true)
    {f2 : Addr} {od2 an2 : Option Addr} {sl2 : Array (Option Value)} {oc2 kV2 dc2 pm2 cd2 ct2 : Value}
    (a2 : PySem.W.nsIn K mainGlobals "minus" = some (some (.ref f2))) (l2 : K.lookup f2 = some ⟨oc2, od2, .func (PySem.W.fnOf "minus" "minus" (defArgs s_minus) (defBody s_minus) (defScope s_minus) .none kV2 dc2 pm2 an2 cd2 ct2), sl2⟩) (c2 : PySem.W.codeIn K cd2 "minus" = true) (k2 : PySem.W.keepIn K (.ref f2) = true)
    {f3 : Addr} {od3 an3 : Option Addr} {sl3 : Array (Option Value)} {oc3 kV3 dc3 pm3 cd3 ct3 : Value}
    (a3 : PySem.W.nsIn K mainGlobals "part_of" = some (some (.ref f3))) (l3 : K.lookup f3 = some ⟨oc3, od3, .func (PySem.W.fnOf "part_of" "part_of" (defArgs s_part_of) (defBody s_part_of) (defScope s_part_of) .none kV3 dc3 pm3 an3 cd3 ct3), sl3⟩) (c3 : PySem.W.codeIn K cd3 "part_of" = true) (k3 : PySem.W.keepIn K (.ref f3) = true)
    {f4 : Addr} {od4 an4 : Option Addr} {sl4 : Array (Option Value)} {oc4 kV4 dc4 pm4 cd4 ct4 : Value}
    (a4 : PySem.W.nsIn K mainGlobals "other_side_of" = some (some (.ref f4))) (l4 : K.lookup f4 = some ⟨oc4, od4, .func (PySem.W.fnOf "other_side_of" "other_side_of" (defArgs s_other_side_of) (defBody s_other_side_of) (defScope s_other_side_of) .none kV4 dc4 pm4 an4 cd4 ct4), sl4⟩) (c4 : PySem.W.codeIn K cd4 "other_side_of" = true) (k4 : PySem.W.keepIn K (.ref f4) = true)
    {f5 : Addr} {od5 an5 : Option Addr} {sl5 : Array (Option Value)} {oc5 kV5 dc5 pm5 cd5 ct5 : Value}
    (a5 : PySem.W.nsIn K mainGlobals "distance_of" = some (some (.ref f5))) (l5 : K.lookup f5 = some ⟨oc5, od5, .func (PySem.W.fnOf "distance_of" "distance_of" (defArgs s_distance_of) (defBody s_distance_of) (defScope s_distance_of) .none kV5 dc5 pm5 an5 cd5 ct5), sl5⟩) (c5 : PySem.W.codeIn K cd5 "distance_of" = true) (k5 : PySem.W.keepIn K (.ref f5) = true)
    {f6 : Addr} {od6 an6 : Option Addr} {sl6 : Array (Option Value)} {oc6 kV6 dc6 pm6 cd6 ct6 : Value}
    (a6 : PySem.W.nsIn K mainGlobals "place_beside" = some (some (.ref f6))) (l6 : K.lookup f6 = some ⟨oc6, od6, .func (PySem.W.fnOf "place_beside" "place_beside" (defArgs s_place_beside) (defBody s_place_beside) (defScope s_place_beside) .none kV6 dc6 pm6 an6 cd6 ct6), sl6⟩) (c6 : PySem.W.codeIn K cd6 "place_beside" = true) (k6 : PySem.W.keepIn K (.ref f6) = true)
    {f7 : Addr} {od7 an7 : Option Addr} {sl7 : Array (Option Value)} {oc7 kV7 dc7 pm7 cd7 ct7 : Value}
    (a7 : PySem.W.nsIn K mainGlobals "places_of" = some (some (.ref f7))) (l7 : K.lookup f7 = some ⟨oc7, od7, .func (PySem.W.fnOf "places_of" "places_of" (defArgs s_places_of) (defBody s_places_of) (defScope s_places_of) .none kV7 dc7 pm7 an7 cd7 ct7), sl7⟩) (c7 : PySem.W.codeIn K cd7 "places_of" = true) (k7 : PySem.W.keepIn K (.ref f7) = true)
    {f8 : Addr} {od8 an8 : Option Addr} {sl8 : Array (Option Value)} {oc8 kV8 dc8 pm8 cd8 ct8 : Value}
    (a8 : PySem.W.nsIn K mainGlobals "rising_tuples" = some (some (.ref f8))) (l8 : K.lookup f8 = some ⟨oc8, od8, .func (PySem.W.fnOf "rising_tuples" "rising_tuples" (defArgs s_rising_tuples) (defBody s_rising_tuples) (defScope s_rising_tuples) .none kV8 dc8 pm8 an8 cd8 ct8), sl8⟩) (c8 : PySem.W.codeIn K cd8 "rising_tuples" = true) (k8 : PySem.W.keepIn K (.ref f8) = true)
    {f9 : Addr} {od9 an9 : Option Addr} {sl9 : Array (Option Value)} {oc9 kV9 dc9 pm9 cd9 ct9 : Value}
    (a9 : PySem.W.nsIn K mainGlobals "longer_ones" = some (some (.ref f9))) (l9 : K.lookup f9 = some ⟨oc9, od9, .func (PySem.W.fnOf "longer_ones" "longer_ones" (defArgs s_longer_ones) (defBody s_longer_ones) (defScope s_longer_ones) .none kV9 dc9 pm9 an9 cd9 ct9), sl9⟩) (c9 : PySem.W.codeIn K cd9 "longer_ones" = true) (k9 : PySem.W.keepIn K (.ref f9) = true)
    {f10 : Addr} {od10 an10 : Option Addr} {sl10 : Array (Option Value)} {oc10 kV10 dc10 pm10 cd10 ct10 : Value}
    (a10 : PySem.W.nsIn K mainGlobals "line_told" = some (some (.ref f10))) (l10 : K.lookup f10 = some ⟨oc10, od10, .func (PySem.W.fnOf "line_told" "line_told" (defArgs s_line_told) (defBody s_line_told) (defScope s_line_told) .none kV10 dc10 pm10 an10 cd10 ct10), sl10⟩) (c10 : PySem.W.codeIn K cd10 "line_told" = true) (k10 : PySem.W.keepIn K (.ref f10) = true)
    {f11 : Addr} {od11 an11 : Option Addr} {sl11 : Array (Option Value)} {oc11 kV11 dc11 pm11 cd11 ct11 : Value}
    (a11 : PySem.W.nsIn K mainGlobals "_law_stir" = some (some (.ref f11))) (l11 : K.lookup f11 = some ⟨oc11, od11, .func (PySem.W.fnOf "_law_stir" "_law_stir" (defArgs s_l_stir) (defBody s_l_stir) (defScope s_l_stir) .none kV11 dc11 pm11 an11 cd11 ct11), sl11⟩) (c11 : PySem.W.codeIn K cd11 "_law_stir" = true) (k11 : PySem.W.keepIn K (.ref f11) = true)
    {f12 : Addr} {od12 an12 : Option Addr} {sl12 : Array (Option Value)} {oc12 kV12 dc12 pm12 cd12 ct12 : Value}
    (a12 : PySem.W.nsIn K mainGlobals "_law_deck" = some (some (.ref f12))) (l12 : K.lookup f12 = some ⟨oc12, od12, .func (PySem.W.fnOf "_law_deck" "_law_deck" (defArgs s_l_deck) (defBody s_l_deck) (defScope s_l_deck) .none kV12 dc12 pm12 an12 cd12 ct12), sl12⟩) (c12 : PySem.W.codeIn K cd12 "_law_deck" = true) (k12 : PySem.W.keepIn K (.ref f12) = true)
    {f13 : Addr} {od13 an13 : Option Addr} {sl13 : Array (Option Value)} {oc13 kV13 dc13 pm13 cd13 ct13 : Value}
    (a13 : PySem.W.nsIn K mainGlobals "_law_take" = some (some (.ref f13))) (l13 : K.lookup f13 = some ⟨oc13, od13, .func (PySem.W.fnOf "_law_take" "_law_take" (defArgs s_l_take) (defBody s_l_take) (defScope s_l_take) .none kV13 dc13 pm13 an13 cd13 ct13), sl13⟩) (c13 : PySem.W.codeIn K cd13 "_law_take" = true) (k13 : PySem.W.keepIn K (.ref f13) = true)
    {f14 : Addr} {od14 an14 : Option Addr} {sl14 : Array (Option Value)} {oc14 kV14 dc14 pm14 cd14 ct14 : Value}
    (a14 : PySem.W.nsIn K mainGlobals "_law_fraction" = some (some (.ref f14))) (l14 : K.lookup f14 = some ⟨oc14, od14, .func (PySem.W.fnOf "_law_fraction" "_law_fraction" (defArgs s_l_fraction) (defBody s_l_fraction) (defScope s_l_fraction) .none kV14 dc14 pm14 an14 cd14 ct14), sl14⟩) (c14 : PySem.W.codeIn K cd14 "_law_fraction" = true) (k14 : PySem.W.keepIn K (.ref f14) = true)
    {f15 : Addr} {od15 an15 : Option Addr} {sl15 : Array (Option Value)} {oc15 kV15 dc15 pm15 cd15 ct15 : Value}
    (a15 : PySem.W.nsIn K mainGlobals "_law_table" = some (some (.ref f15))) (l15 : K.lookup f15 = some ⟨oc15, od15, .func (PySem.W.fnOf "_law_table" "_law_table" (defArgs s_l_table) (defBody s_l_table) (defScope s_l_table) .none kV15 dc15 pm15 an15 cd15 ct15), sl15⟩) (c15 : PySem.W.codeIn K cd15 "_law_table" = true) (k15 : PySem.W.keepIn K (.ref f15) = true)
    {f16 : Addr} {od16 an16 : Option Addr} {sl16 : Array (Option Value)} {oc16 kV16 dc16 pm16 cd16 ct16 : Value}
    (a16 : PySem.W.nsIn K mainGlobals "_law_places" = some (some (.ref f16))) (l16 : K.lookup f16 = some ⟨oc16, od16, .func (PySem.W.fnOf "_law_places" "_law_places" (defArgs s_l_places) (defBody s_l_places) (defScope s_l_places) .none kV16 dc16 pm16 an16 cd16 ct16), sl16⟩) (c16 : PySem.W.codeIn K cd16 "_law_places" = true) (k16 : PySem.W.keepIn K (.ref f16) = true)
    {f17 : Addr} {od17 an17 : Option Addr} {sl17 : Array (Option Value)} {oc17 kV17 dc17 pm17 cd17 ct17 : Value}
    (a17 : PySem.W.nsIn K mainGlobals "_law_lined" = some (some (.ref f17))) (l17 : K.lookup f17 = some ⟨oc17, od17, .func (PySem.W.fnOf "_law_lined" "_law_lined" (defArgs s_l_lined) (defBody s_l_lined) (defScope s_l_lined) .none kV17 dc17 pm17 an17 cd17 ct17), sl17⟩) (c17 : PySem.W.codeIn K cd17 "_law_lined" = true) (k17 : PySem.W.keepIn K (.ref f17) = true)
    {f18 : Addr} {od18 an18 : Option Addr} {sl18 : Array (Option Value)} {oc18 kV18 dc18 pm18 cd18 ct18 : Value}
    (a18 : PySem.W.nsIn K mainGlobals "_law_told_form" = some (some (.ref f18))) (l18 : K.lookup f18 = some ⟨oc18, od18, .func (PySem.W.fnOf "_law_told_form" "_law_told_form" (defArgs s_l_told_form) (defBody s_l_told_form) (defScope s_l_told_form) .none kV18 dc18 pm18 an18 cd18 ct18), sl18⟩) (c18 : PySem.W.codeIn K cd18 "_law_told_form" = true) (k18 : PySem.W.keepIn K (.ref f18) = true)
    {f19 : Addr} {od19 an19 : Option Addr} {sl19 : Array (Option Value)} {oc19 kV19 dc19 pm19 cd19 ct19 : Value}
    (a19 : PySem.W.nsIn K mainGlobals "law" = some (some (.ref f19))) (l19 : K.lookup f19 = some ⟨oc19, od19, .func (PySem.W.fnOf "law" "law" (defArgs s_law) (defBody s_law) (defScope s_law) .none kV19 dc19 pm19 an19 cd19 ct19), sl19⟩) (c19 : PySem.W.codeIn K cd19 "law" = true) (k19 : PySem.W.keepIn K (.ref f19) = true)
    {q0 : Addr} {dd0 : Option Addr} {nn0 : Nat} {qs0 : Array (Option Value)} {t0_0 t0_1 : Tok}
    (qa0 : PySem.W.nsIn K mainGlobals "NOUGHT" = some (some (.ref q0))) (ql0 : K.lookup q0 = some ⟨.type "tuple", dd0, .seq #[.int 0 t0_0, .int 1 t0_1] nn0, qs0⟩)
    (z_abs : PySem.W.nsIn K mainGlobals "abs" = some none)
    (z_isinstance : PySem.W.nsIn K mainGlobals "isinstance" = some none)
    (z_len : PySem.W.nsIn K mainGlobals "len" = some none)
    (z_list : PySem.W.nsIn K mainGlobals "list" = some none)
    (z_range : PySem.W.nsIn K mainGlobals "range" = some none)
    (z_set : PySem.W.nsIn K mainGlobals "set" = some none)
    (z_tuple : PySem.W.nsIn K mainGlobals "tuple" = some none)
    : ∃ fd : FuncData, (∀ (s : Shared) (v : Value), BindsTo s fd ⟨[v], []⟩ [("script", v)]) ∧ ∀ base : Heap, K.In base → base.Ns mainGlobals mg → FnOk l.prog w K mg base CX0 8 fa fd ["script"] (sp_law K) := by
  have e := hfa.symm.trans (PySem.W.mg_of X G a19)
  cases e
  have T : Tx K mg := ⟨PySem.W.mg_none_of X G z_abs, PySem.W.mg_none_of X G z_isinstance, PySem.W.mg_none_of X G z_len, PySem.W.mg_none_of X G z_list, PySem.W.mg_none_of X G z_range, PySem.W.mg_none_of X G z_set, PySem.W.mg_none_of X G z_tuple, ⟨q0, PySem.W.mg_of X G qa0, fun H => .inr ⟨_, _, _, ql0, rfl, rfl, (by show 2 ≤ sizeLine; decide), .cons ⟨_, rfl⟩ (.cons ⟨_, rfl⟩ (.nil))⟩⟩⟩
  have F0 := fun_mk (st := s_common_of) l0 c0 k0
  have b0 := F0.binds (ps := ["one", "other"]) fun _ _ _ _ _ _ us hl => match us, hl with | [_, _], _ => rfl
  have F1 := fun_mk (st := s_fraction) l1 c1 k1
  have b1 := F1.binds (ps := ["top", "bottom"]) fun _ _ _ _ _ _ us hl => match us, hl with | [_, _], _ => rfl
  have F2 := fun_mk (st := s_minus) l2 c2 k2
  have b2 := F2.binds (ps := ["q", "r"]) fun _ _ _ _ _ _ us hl => match us, hl with | [_, _], _ => rfl
  have F3 := fun_mk (st := s_part_of) l3 c3 k3
  have b3 := F3.binds (ps := ["table", "points"]) fun _ _ _ _ _ _ us hl => match us, hl with | [_, _], _ => rfl
  have F4 := fun_mk (st := s_other_side_of) l4 c4 k4
  have b4 := F4.binds (ps := ["q"]) fun _ _ _ _ _ _ us hl => match us, hl with | [_], _ => rfl
  have F5 := fun_mk (st := s_distance_of) l5 c5 k5
  have b5 := F5.binds (ps := ["q", "r"]) fun _ _ _ _ _ _ us hl => match us, hl with | [_, _], _ => rfl
  have F6 := fun_mk (st := s_place_beside) l6 c6 k6
  have b6 := F6.binds (ps := ["table", "first", "point"]) fun _ _ _ _ _ _ us hl => match us, hl with | [_, _, _], _ => rfl
  have F7 := fun_mk (st := s_places_of) l7 c7 k7
  have b7 := F7.binds (ps := ["table"]) fun _ _ _ _ _ _ us hl => match us, hl with | [_], _ => rfl
  have F8 := fun_mk (st := s_rising_tuples) l8 c8 k8
  have b8 := F8.binds (ps := ["n", "many"]) fun _ _ _ _ _ _ us hl => match us, hl with | [_, _], _ => rfl
  have F9 := fun_mk (st := s_longer_ones) l9 c9 k9
  have b9 := F9.binds (ps := ["n", "rows"]) fun _ _ _ _ _ _ us hl => match us, hl with | [_, _], _ => rfl
  have F10 := fun_mk (st := s_line_told) l10 c10 k10
  have b10 := F10.binds (ps := ["table"]) fun _ _ _ _ _ _ us hl => match us, hl with | [_], _ => rfl
  have F11 := fun_mk (st := s_l_stir) l11 c11 k11
  have b11 := F11.binds (ps := ["cell", "k"]) fun _ _ _ _ _ _ us hl => match us, hl with | [_, _], _ => rfl
  have F12 := fun_mk (st := s_l_deck) l12 c12 k12
  have b12 := F12.binds (ps := ["cell"]) fun _ _ _ _ _ _ us hl => match us, hl with | [_], _ => rfl
  have F13 := fun_mk (st := s_l_take) l13 c13 k13
  have b13 := F13.binds (ps := ["deck", "many"]) fun _ _ _ _ _ _ us hl => match us, hl with | [_, _], _ => rfl
  have F14 := fun_mk (st := s_l_fraction) l14 c14 k14
  have b14 := F14.binds (ps := ["top", "bottom"]) fun _ _ _ _ _ _ us hl => match us, hl with | [_, _], _ => rfl
  have F15 := fun_mk (st := s_l_table) l15 c15 k15
  have b15 := F15.binds (ps := ["rows", "bottom"]) fun _ _ _ _ _ _ us hl => match us, hl with | [_, _], _ => rfl
  have F16 := fun_mk (st := s_l_places) l16 c16 k16
  have b16 := F16.binds (ps := ["deck", "n"]) fun _ _ _ _ _ _ us hl => match us, hl with | [_, _], _ => rfl
  have F17 := fun_mk (st := s_l_lined) l17 c17 k17
  have b17 := F17.binds (ps := ["places"]) fun _ _ _ _ _ _ us hl => match us, hl with | [_], _ => rfl
  have F18 := fun_mk (st := s_l_told_form) l18 c18 k18
  have b18 := F18.binds (ps := ["places"]) fun _ _ _ _ _ _ us hl => match us, hl with | [_], _ => rfl
  have F19 := fun_mk (st := s_law) l19 c19 k19
  have b19 := F19.binds (ps := ["script"]) fun _ _ _ _ _ _ us hl => match us, hl with | [_], _ => rfl
  refine ⟨PySem.W.fnOf "law" "law" (defArgs s_law) (defBody s_law) (defScope s_law) .none kV19 dc19 pm19 an19 cd19 ct19, fun s v => .of_eq rfl, fun base _ _ => ?_⟩
  have c_common_of := cal_of (ok_common_of (P := l.prog) (w := w) (base := base) F0 T ) F0 b0 (PySem.W.mg_of X G a0)
  have c_part_of : C8.Cal l.prog w K mg base 1 "part_of" spNever [] := cal_of never_ok F3 b3 (PySem.W.mg_of X G a3)
  have c_other_side_of := cal_of (ok_other_side_of (P := l.prog) (w := w) (base := base) F4 T ) F4 b4 (PySem.W.mg_of X G a4)
  have c_longer_ones : C8.Cal l.prog w K mg base 1 "longer_ones" spNever [] := cal_of never_ok F9 b9 (PySem.W.mg_of X G a9)
  have c_l_stir := cal_of (ok_l_stir (P := l.prog) (w := w) (base := base) F11 T ) F11 b11 (PySem.W.mg_of X G a11)
  have c_l_take := cal_of (ok_l_take (P := l.prog) (w := w) (base := base) F13 T ) F13 b13 (PySem.W.mg_of X G a13)
  have c_l_fraction := cal_of (ok_l_fraction (P := l.prog) (w := w) (base := base) F14 T ) F14 b14 (PySem.W.mg_of X G a14)
  have c_l_lined := cal_of (ok_l_lined (P := l.prog) (w := w) (base := base) F17 T ) F17 b17 (PySem.W.mg_of X G a17)
  have c_l_told_form := cal_of (ok_l_told_form (P := l.prog) (w := w) (base := base) F18 T ) F18 b18 (PySem.W.mg_of X G a18)
  have c_fraction := cal_of (ok_fraction (P := l.prog) (w := w) (base := base) F1 T c_common_of) F1 b1 (PySem.W.mg_of X G a1)
  have c_rising_tuples : C8.Cal l.prog w K mg base 2 "rising_tuples" spNever [] := cal_of never_ok F8 b8 (PySem.W.mg_of X G a8)
  have c_l_deck := cal_of (ok_l_deck (P := l.prog) (w := w) (base := base) F12 T c_l_stir) F12 b12 (PySem.W.mg_of X G a12)
  have c_l_table := cal_of (ok_l_table (P := l.prog) (w := w) (base := base) F15 T c_l_fraction) F15 b15 (PySem.W.mg_of X G a15)
  have c_l_places := cal_of (ok_l_places (P := l.prog) (w := w) (base := base) F16 T c_l_take) F16 b16 (PySem.W.mg_of X G a16)
  have c_minus := cal_of (ok_minus (P := l.prog) (w := w) (base := base) F2 T c_fraction) F2 b2 (PySem.W.mg_of X G a2)
  have c_distance_of := cal_of (ok_distance_of (P := l.prog) (w := w) (base := base) F5 T c_minus c_other_side_of) F5 b5 (PySem.W.mg_of X G a5)
  have c_place_beside := cal_of (ok_place_beside (P := l.prog) (w := w) (base := base) F6 T c_other_side_of c_distance_of) F6 b6 (PySem.W.mg_of X G a6)
  have c_places_of := cal_of (ok_places_of (P := l.prog) (w := w) (base := base) F7 T c_distance_of c_place_beside) F7 b7 (PySem.W.mg_of X G a7)
  have c_line_told := cal_of (ok_line_told (P := l.prog) (w := w) (base := base) F10 T c_part_of c_places_of c_rising_tuples) F10 b10 (PySem.W.mg_of X G a10)
  exact ok_law F19 T c_line_told c_l_deck c_l_take c_l_fraction c_l_table c_l_places c_l_lined c_l_told_form
end Fc
open PySem PySem.W PyProof.Rows
set_option maxRecDepth 100000 in
set_option maxHeartbeats 0 in
theorem PySem.Challenge.cw_farcuts_k53_lines_told_holds : PySem.Challenge.rw_farcuts_k53_lines_told.Holds := by
  w_on; o_law; k_head; (case hw => w_witness2)
  k_fill
  refine L2.walk_of (l := PySem.Challenge.rw_farcuts_k53_lines_told) (n := 63) (k := 8) (x := "script") (CX := fun _ => L2.CX0) (sp := fun w => Fc.sp_law _) rfl (by decide) rfl ⟨rfl, by decide, by decide⟩ (fun w h Y => PySem.W.kIn_of Y) ?F (fun _ _ a ns hl _ hS => ⟨a, ns, rfl, hS, hl, fun _ => rfl⟩) (fun _ _ _ _ _ h => h)
  case F =>
    intro w mg fa h KX G hmg
    refine' Fc.all_mk KX G hmg ?a0 ?l0 ?c0 ?k0 ?a1 ?l1 ?c1 ?k1 ?a2 ?l2 ?c2 ?k2 ?a3 ?l3 ?c3 ?k3 ?a4 ?l4 ?c4 ?k4 ?a5 ?l5 ?c5 ?k5 ?a6 ?l6 ?c6 ?k6 ?a7 ?l7 ?c7 ?k7 ?a8 ?l8 ?c8 ?k8 ?a9 ?l9 ?c9 ?k9 ?a10 ?l10 ?c10 ?k10 ?a11 ?l11 ?c11 ?k11 ?a12 ?l12 ?c12 ?k12 ?a13 ?l13 ?c13 ?k13 ?a14 ?l14 ?c14 ?k14 ?a15 ?l15 ?c15 ?k15 ?a16 ?l16 ?c16 ?k16 ?a17 ?l17 ?c17 ?k17 ?a18 ?l18 ?c18 ?k18 ?a19 ?l19 ?c19 ?k19 ?qa0 ?ql0 ?z_abs ?z_isinstance ?z_len ?z_list ?z_range ?z_set ?z_tuple
    (case a0 => k_is)
    (case l0 => k_is)
    (case c0 => k_is)
    (case k0 => k_is)
    (case a1 => k_is)
    (case l1 => k_is)
    (case c1 => k_is)
    (case k1 => k_is)
    (case a2 => k_is)
    (case l2 => k_is)
    (case c2 => k_is)
    (case k2 => k_is)
    (case a3 => k_is)
    (case l3 => k_is)
    (case c3 => k_is)
    (case k3 => k_is)
    (case a4 => k_is)
    (case l4 => k_is)
    (case c4 => k_is)
    (case k4 => k_is)
    (case a5 => k_is)
    (case l5 => k_is)
    (case c5 => k_is)
    (case k5 => k_is)
    (case a6 => k_is)
    (case l6 => k_is)
    (case c6 => k_is)
    (case k6 => k_is)
    (case a7 => k_is)
    (case l7 => k_is)
    (case c7 => k_is)
    (case k7 => k_is)
    (case a8 => k_is)
    (case l8 => k_is)
    (case c8 => k_is)
    (case k8 => k_is)
    (case a9 => k_is)
    (case l9 => k_is)
    (case c9 => k_is)
    (case k9 => k_is)
    (case a10 => k_is)
    (case l10 => k_is)
    (case c10 => k_is)
    (case k10 => k_is)
    (case a11 => k_is)
    (case l11 => k_is)
    (case c11 => k_is)
    (case k11 => k_is)
    (case a12 => k_is)
    (case l12 => k_is)
    (case c12 => k_is)
    (case k12 => k_is)
    (case a13 => k_is)
    (case l13 => k_is)
    (case c13 => k_is)
    (case k13 => k_is)
    (case a14 => k_is)
    (case l14 => k_is)
    (case c14 => k_is)
    (case k14 => k_is)
    (case a15 => k_is)
    (case l15 => k_is)
    (case c15 => k_is)
    (case k15 => k_is)
    (case a16 => k_is)
    (case l16 => k_is)
    (case c16 => k_is)
    (case k16 => k_is)
    (case a17 => k_is)
    (case l17 => k_is)
    (case c17 => k_is)
    (case k17 => k_is)
    (case a18 => k_is)
    (case l18 => k_is)
    (case c18 => k_is)
    (case k18 => k_is)
    (case a19 => k_is)
    (case l19 => k_is)
    (case c19 => k_is)
    (case k19 => k_is)
    (case qa0 => k_is)
    (case ql0 => k_is)
    (case z_abs => k_is)
    (case z_isinstance => k_is)
    (case z_len => k_is)
    (case z_list => k_is)
    (case z_range => k_is)
    (case z_set => k_is)
    (case z_tuple => k_is)
