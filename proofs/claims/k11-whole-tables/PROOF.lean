import PyProof.Rows.All
import Wide.All
import OpenK.AllK
import Wide.FinOn
import PySem.Challenge.RW_farcuts_k11_whole_tables_in_parts
import HandS.ForMost
import HandS.ForExc
import HandS.Wide
import HandS.IsInst
import HandS.SortInts
import HandS.Deep
import HandS.Steps
import HandS.TupAny
import HandS.Codes
import HandS.NoneIn
import HandS.ExcIs
import HandS.ExcValue
import HandS.Conv
import KE.SortData
import HandS.SetFor
import KE.KSetDisp
import HandS.SetIn
import HandS.WordsExc
import HandS.Style
import KE.KExcMore
import PyProof.CallStr
import HandS.Flt
set_option Elab.async false
set_option linter.all false
set_option maxRecDepth 100000
set_option maxHeartbeats 4000000
namespace Fc
open PySem PySem.Spec PyProof.Rows L2
open C8 (Cal pe_c)
/-! ### readings by names -/
def rAddS : R2 := fun x y H Q => ∃ i j, x = .str i ∧ y = .str j ∧ i.length + j.length ≤ sizeLine ∧ Q (.str (i ++ j)) H
theorem op_addS {X : Cx} : OpR X (binaryOp .Add) rAddS := op_add_str
def rLenSeq (K : PySem.W.Frag) : List V → Hp → VK → Prop := fun xs H Q => ∃ p ys, xs = [.ref p] ∧ (SqL K H p ys ∨ SqT K H p ys) ∧ Q (.int ys.length) H
theorem cr_lenSeq {X : Cx} : CallR X (.builtin "len") (rLenSeq X.K) := call_len_seq
def rLenStr : List V → Hp → VK → Prop := fun xs H Q => ∃ z, xs = [.str z] ∧ z.length ≤ sizeLine ∧ Q (.int z.length) H
theorem cr_lenStr {X : Cx} : CallR X (.builtin "len") rLenStr := call_len_str
def rAbs : List V → Hp → VK → Prop := fun xs H Q => ∃ i, xs = [.int i] ∧ Q (.int (if i < 0 then -i else i)) H
theorem cr_abs {X : Cx} : CallR X (.builtin "abs") rAbs := call_abs
def rMax2 : List V → Hp → VK → Prop := fun xs H Q => ∃ i j, xs = [.int i, .int j] ∧ Q (.int (if j > i then j else i)) H
theorem cr_max2 {X : Cx} (h : X.calm = true) : CallR X (.builtin "max") rMax2 := call_max2 h
def rMin2 : List V → Hp → VK → Prop := fun xs H Q => ∃ i j, xs = [.int i, .int j] ∧ Q (.int (if j < i then j else i)) H
theorem cr_min2 {X : Cx} (h : X.calm = true) : CallR X (.builtin "min") rMin2 := call_min2 h
def rInt1 : List V → Hp → VK → Prop := fun xs H Q => (∃ i, xs = [.int i] ∧ Q (.int i) H) ∨ ∃ k, xs = [.bl k] ∧ Q (.int (if k then 1 else 0)) H
theorem cr_int1 {X : Cx} : CallR X (.type "int") rInt1 := call_int1
def rStrI : List V → Hp → VK → Prop := fun xs H Q => ∃ i, xs = [.int i] ∧ i.natAbs.log2 < 1920 ∧ Q (.str (toString i)) H
theorem cr_strI {X : Cx} : CallR X (.type "str") rStrI := call_str_int
def rListOf (K : PySem.W.Frag) : List V → Hp → VK → Prop := fun xs H Q => ∃ p ys, xs = [.ref p] ∧ (SqL K H p ys ∨ SqT K H p ys) ∧ ∀ l, H l = none → Q (.ref l) (upd H l (.lst ys))
theorem cr_listOf {X : Cx} : CallR X (.type "list") (rListOf X.K) := call_list_of
theorem room_u {k : Nat} {A : Around} (hr : Room k A) : A.units + 64 < cLine := by have := hr.un; omega
theorem room_u65 {k : Nat} {A : Around} (hr : Room k A) : A.units + 65 < cLine := by have := hr.un; omega
theorem _root_.L2.Room.units65 {k : Nat} {A : Around} (hr : Room k A) : A.units + 65 < cLine := room_u65 hr
section
variable {P : Program} {w : World} {K : PySem.W.Frag} {mg : Str → Option Value} {base : Heap}
theorem cal_of {x qual : Str} {st : Stmt} {f : Addr} {fd : FuncData} {ps : List Str} {k : Nat} {sp : Sp} (h : FnOk P w K mg base CX0 k f fd ps sp) (F : Fun K x qual st f fd) (b : Binds K fd ps []) (g : mg x = some (.ref f)) : Cal P w K mg base k x sp [] :=
  ⟨⟨f, fd, ps, [], h, g, F.kp, b, .nil⟩⟩
end
/-! ### stepping through a reading -/
section
variable {K : PySem.W.Frag} {σ : L2.St} {H : Hp} {Q : VK} {D : Ends} {x y v : V} {ta tb te : TE} {t u : TS} {i j : Int}
theorem g_var {n : Nat} (h : σ[n]? = some (some v)) (q : Q v H) : tVar n σ H Q := ⟨v, h, q⟩
theorem g_c (q : Q v H) : tC v σ H Q := q
theorem g_op {r : R2} (q : ta σ H fun x H1 => tb σ H1 fun y H2 => r x y H2 Q) : tOp r ta tb σ H Q := q
theorem g_un {r : V → Hp → VK → Prop} (q : ta σ H fun x H1 => r x H1 Q) : tUn r ta σ H Q := q
theorem g_neg (q : Q (.int (-i)) H) : rU (fun i => .int (-i)) (.int i) H Q := ⟨i, rfl, q⟩
theorem g_I0 {g : Int → Int → V} (q : Q (g i j) H) : rI0 g (.int i) (.int j) H Q := ⟨i, j, rfl, rfl, q⟩
theorem g_mod (c : 0 < j) (q : Q (.int (i % j)) H) : rI (fun _ j => 0 < j) (fun i j => .int (i % j)) (.int i) (.int j) H Q := ⟨i, j, rfl, rfl, c, q⟩
theorem g_mul (c : CMulW i j) (q : Q (.int (i * j)) H) : rI CMulW (fun i j => .int (i * j)) (.int i) (.int j) H Q := ⟨i, j, rfl, rfl, c, q⟩
theorem g_div (c : CDivW i j) (q : Q (.int (i / j)) H) : rI CDivW (fun i j => .int (i / j)) (.int i) (.int j) H Q := ⟨i, j, rfl, rfl, c, q⟩
theorem g_pow (c : CPow i j) (q : Q (.int (i ^ j.toNat)) H) : rI CPow (fun i j => .int (i ^ j.toNat)) (.int i) (.int j) H Q := ⟨i, j, rfl, rfl, c, q⟩
theorem g_eq (c : scal x y = true) (q : Q (.bl (decide (x = y))) H) : rEq x y H Q := ⟨c, q⟩
theorem g_ne (c : scal x y = true) (q : Q (.bl (!decide (x = y))) H) : rNe x y H Q := ⟨c, q⟩
theorem g_eqI (q : Q (.bl (decide (i = j))) H) : rEq (.int i) (.int j) H Q := ⟨rfl, by
  have e : decide (V.int i = V.int j) = decide (i = j) := by simp
  rw [e]; exact q⟩
theorem g_neI (q : Q (.bl (!decide (i = j))) H) : rNe (.int i) (.int j) H Q := ⟨rfl, by
  have e : decide (V.int i = V.int j) = decide (i = j) := by simp
  rw [e]; exact q⟩
theorem g_eqB {a b : Bool} (q : Q (.bl (decide (a = b))) H) : rEq (.bl a) (.bl b) H Q := ⟨rfl, by
  have e : decide (V.bl a = V.bl b) = decide (a = b) := by simp
  rw [e]; exact q⟩
theorem g_neB {a b : Bool} (q : Q (.bl (!decide (a = b))) H) : rNe (.bl a) (.bl b) H Q := ⟨rfl, by
  have e : decide (V.bl a = V.bl b) = decide (a = b) := by simp
  rw [e]; exact q⟩
theorem g_ixT {p : Addr} {xs : List V} (h : SqT K H p xs) (a : atI xs i = some v) (q : Q v H) : rIxT K (.ref p) (.int i) H Q := ⟨p, xs, i, v, rfl, rfl, h, a, q⟩
theorem g_ixL {p : Addr} {xs : List V} (h : SqL K H p xs) (a : atI xs i = some v) (q : Q v H) : rIxL K (.ref p) (.int i) H Q := ⟨p, xs, i, v, rfl, rfl, h, a, q⟩
theorem g_tcons {tr : TA} {Q : List V → Hp → Prop} (q : ta σ H fun x H1 => tr σ H1 fun xs H2 => Q (x :: xs) H2) : tCons ta tr σ H Q := q
theorem g_tnil {Q : List V → Hp → Prop} (q : Q [] H) : tNil σ H Q := q
theorem g_cb {r : List V → Hp → VK → Prop} {t : TA} (q : t σ H fun vs H1 => r vs H1 Q) : tCB r t σ H Q := q
theorem g_call {sp : Sp} {dvs : List V} {E : XK} {t : TA} (q : t σ H fun vs H1 => sp (vs ++ dvs) H1 Q E) : tCall sp dvs E t σ H Q := q
theorem g_tup {t : TA} (q : t σ H fun xs H1 => xs.length ≤ sizeLine ∧ ∀ p, H1 p = none → Q (.ref p) (upd H1 p (.tup xs))) : tTup t σ H Q := q
theorem g_lst {t : TA} (q : t σ H fun xs H1 => xs.length ≤ sizeLine ∧ ∀ p, H1 p = none → Q (.ref p) (upd H1 p (.lst xs))) : tLst t σ H Q := q
theorem g_if {c : TT} (q : c σ H fun b H1 => if b = true then t D σ H1 else u D σ H1) : tIfS c t u D σ H := q
theorem g_test {Q : Bool → Hp → Prop} (q : te σ H fun x H' => ∃ k, x = .bl k ∧ Q k H') : tTest te σ H Q := q
theorem g_tB {Q : Bool → Hp → Prop} (q : te σ H fun x H' => ∃ k, x = .bl k ∧ Q k H') : tB te σ H Q := q
theorem g_bl {b : Bool} {Q : Bool → Hp → Prop} (q : Q b H) : ∃ k, V.bl b = .bl k ∧ Q k H := ⟨b, rfl, q⟩
theorem g_blV {b : Bool} {Q : Bool → Prop} (q : Q b) : ∃ k, V.bl b = .bl k ∧ Q k := ⟨b, rfl, q⟩
theorem g_not {c : TT} {Q : Bool → Hp → Prop} (q : c σ H fun c H1 => Q (!c) H1) : tNot c σ H Q := q
theorem g_and {c d : TT} {Q : Bool → Hp → Prop} (q : c σ H fun c H1 => if c = true then d σ H1 Q else Q false H1) : tAnd c d σ H Q := q
theorem g_or {c d : TT} {Q : Bool → Hp → Prop} (q : c σ H fun c H1 => if c = true then Q true H1 else d σ H1 Q) : tOr c d σ H Q := q
theorem g_andV (q : ta σ H fun x H1 => ∃ c, x = .bl c ∧ if c = true then tb σ H1 Q else Q (.bl false) H1) : tAndV ta tb σ H Q := q
theorem g_orV (q : ta σ H fun x H1 => ∃ c, x = .bl c ∧ if c = true then Q (.bl true) H1 else tb σ H1 Q) : tOrV ta tb σ H Q := q
theorem g_notV (q : ta σ H fun x H1 => ∃ c, x = .bl c ∧ Q (.bl (!c)) H1) : tNotV ta σ H Q := q
theorem g_seq (q : t { D with nx := u D } σ H) : tSeq t u D σ H := q
theorem g_cut (Mid : L2.St → Hp → Prop) (h : t { D with nx := Mid } σ H) (q : ∀ σ' H', Mid σ' H' → u D σ' H') : C8.tCut t u D σ H := ⟨Mid, h, q⟩
theorem g_next (q : D.nx σ H) : tNext D σ H := q
theorem g_asg {g : TG} (q : te σ H fun x H1 => g x σ H1 D.nx) : tAsg te g D σ H := q
theorem g_name {n : Nat} {Q : L2.St → Hp → Prop} (q : Q (σ.set n (some v)) H) : gName n v σ H Q := q
theorem g_ret (q : te σ H D.rt) : tRet te D σ H := q
theorem g_drop (q : te σ H fun _ H1 => D.nx σ H1) : tDrop te D σ H := q
theorem g_par {a b : Nat} {ta : TA} (q : ta σ H fun vs H1 => ∃ v w, vs = [v, w] ∧ D.nx ((σ.set a (some v)).set b (some w)) H1) : tPar a b ta D σ H := q
theorem g_two {x y : V} {Q : V → V → Prop} (q : Q x y) : ∃ v w, [x, y] = [v, w] ∧ Q v w := ⟨x, y, rfl, q⟩
theorem g_aug {n : Nat} {ti : R2} (h : σ[n]? = some (some x)) (q : te σ H fun y H1 => ti x y H1 fun z H2 => D.nx (σ.set n (some z)) H2) : tAug n te ti D σ H := ⟨x, h, q⟩
theorem g_ipI {g : Int → Int → Int} (q : Q (.int (g i j)) H) : ipI g (.int i) (.int j) H Q := ⟨i, j, rfl, rfl, q⟩
theorem g_sub {o ix : TE} {s : V → V → V → Hp → (Hp → Prop) → Prop} {Q : L2.St → Hp → Prop} (q : o σ H fun o H1 => ix σ H1 fun i H2 => s o i v H2 fun H3 => Q σ H3) : gSub o ix s v σ H Q := q
theorem g_setL {p : Addr} {xs : List V} {k : Nat} {Q : Hp → Prop} (h : H p = some (.lst xs)) (e : ixN xs.length i = some k) (q : Q (upd H p (.lst (xs.set k v)))) : rSetL (.ref p) (.int i) v H Q := ⟨p, xs, i, k, rfl, rfl, h, e, q⟩
theorem g_abs (q : Q (.int (if i < 0 then -i else i)) H) : rAbs [.int i] H Q := ⟨i, rfl, q⟩
theorem g_max2 (q : Q (.int (if j > i then j else i)) H) : rMax2 [.int i, .int j] H Q := ⟨i, j, rfl, q⟩
theorem g_min2 (q : Q (.int (if j < i then j else i)) H) : rMin2 [.int i, .int j] H Q := ⟨i, j, rfl, q⟩
theorem g_intI (q : Q (.int i) H) : rInt1 [.int i] H Q := .inl ⟨i, rfl, q⟩
theorem g_intB {k : Bool} (q : Q (.int (if k then 1 else 0)) H) : rInt1 [.bl k] H Q := .inr ⟨k, rfl, q⟩
theorem g_lenL {p : Addr} {xs : List V} (h : SqL K H p xs) (q : Q (.int xs.length) H) : rLenSeq K [.ref p] H Q := ⟨p, xs, rfl, .inl h, q⟩
theorem g_lenT {p : Addr} {xs : List V} (h : SqT K H p xs) (q : Q (.int xs.length) H) : rLenSeq K [.ref p] H Q := ⟨p, xs, rfl, .inr h, q⟩
theorem g_inL {p : Addr} {xs : List V} {neg : Bool} (h : SqL K H p xs) (a : flatV x = true) (b : xs.all flatV = true) (q : Q (.bl (if neg then !inV x xs else inV x xs)) H) : rIn K neg x (.ref p) H Q := ⟨p, xs, rfl, .inl h, a, b, q⟩
theorem g_isi {c : V} {t u : Value} {b : Bool} (h1 : ClsV c u) (h2 : TyX K H x t) (h3 : PySem.W.kitOne K t u = some b) (q : Q (.bl b) H) : rIsi K [x, c] H Q := ⟨x, c, t, u, b, rfl, h1, h2, h3, q⟩
theorem ifD {p : Prop} [Decidable p] {A B : Prop} (h1 : p → A) (h2 : ¬ p → B) : if decide p = true then A else B := by
  by_cases h : p
  · simp only [h, decide_true, if_true]; exact h1 h
  · simp only [h, decide_false]; exact h2 h
theorem ifND {p : Prop} [Decidable p] {A B : Prop} (h1 : ¬ p → A) (h2 : p → B) : if (!decide p) = true then A else B := by
  by_cases h : p
  · simp only [h, decide_true]; exact h2 h
  · simp only [h, decide_false]; exact h1 h
theorem ifB {b : Bool} {A B : Prop} (h1 : b = true → A) (h2 : b = false → B) : if b = true then A else B := by
  cases b
  · exact h2 rfl
  · exact h1 rfl
end
/-! ### heaps -/
section
variable {K : PySem.W.Frag} {H H' : Hp} {a p : Addr} {xs ys : List V} {o : HO}
theorem same_new (h : H p = none) : Same H (upd H p o) := fun b u e => by rw [upd_ne (ne_of_none e h)]; exact e
theorem same_to {H1 : Hp} (e : Same H H') (h : H' p = none) : Same H (upd H' p o) := e.trans (same_new h)
theorem sqT_same (e : Same H H') (h : SqT K H a xs) : SqT K H' a xs := by
  rcases h with (h | ⟨o, h⟩) | h
  · exact .inl (.inl (e _ _ h))
  · exact .inl (.inr ⟨o, e _ _ h⟩)
  · exact .inr h
theorem sqL_same (e : Same H H') (h : SqL K H a xs) : SqL K H' a xs := e.seq h
theorem sqT_new (e : H p = none) (h : SqT K H a xs) : SqT K (upd H p o) a xs := sqT_same (same_new e) h
theorem sqL_new (e : H p = none) (h : SqL K H a xs) : SqL K (upd H p o) a xs := sqL_same (same_new e) h
theorem sqT_at : SqT K (upd H p (.tup xs)) p xs := .inl (.inl upd_same)
theorem sqL_at : SqL K (upd H p (.lst xs)) p xs := .inl (.inl upd_same)
theorem sqT_mut (e : H p = some (.lst ys)) (h : SqT K H a xs) : SqT K (upd H p o) a xs := by
  rcases h with (h | ⟨u, h⟩) | h
  · have n : a ≠ p := ne_of h e (by intro z; cases z)
    exact .inl (.inl (by rw [upd_ne n]; exact h))
  · have n : a ≠ p := ne_of h e (by intro z; cases z)
    exact .inl (.inr ⟨u, by rw [upd_ne n]; exact h⟩)
  · exact .inr h
/-- all but the object at p stands as it stood -/
def But (p : Addr) (H H' : Hp) : Prop := ∀ b o, b ≠ p → H b = some o → H' b = some o
theorem But.refl (p : Addr) (H : Hp) : But p H H := fun _ _ _ h => h
theorem But.trans {H1 H2 : Hp} (a : But p H H1) (b : But p H1 H2) : But p H H2 := fun c o n h => b c o n (a c o n h)
theorem But.same (e : Same H H') : But p H H' := fun b o _ h => e b o h
theorem But.mut : But p H (upd H p o) := fun b u n h => by rw [upd_ne n]; exact h
theorem But.new {q : Addr} (h : H q = none) : But p H (upd H q o) := But.same (same_new h)
theorem sqT_but (b : But p H H') (e : H p = some (.lst ys)) (h : SqT K H a xs) : SqT K H' a xs := by
  rcases h with (h | ⟨u, h⟩) | h
  · exact .inl (.inl (b _ _ (ne_of h e (by intro z; cases z)) h))
  · exact .inl (.inr ⟨u, b _ _ (ne_of h e (by intro z; cases z)) h⟩)
  · exact .inr h
theorem sqL_but (b : But p H H') (e : H p = none) (h : SqL K H a xs) : SqL K H' a xs := by
  rcases h with (h | ⟨u, h⟩) | h
  · exact .inl (.inl (b _ _ (ne_of_none h e) h))
  · exact .inl (.inr ⟨u, b _ _ (ne_of_none h e) h⟩)
  · exact .inr h
theorem new_of (n : H' p = none) (e : Same H H') : H p = none := e.free n
end
/-! ### words -/

/-! ### loops -/
section
variable {K : PySem.W.Frag} {σ : L2.St} {H : Hp} {Q : VK} {D : Ends} {x y v : V} {ta tb te : TE} {t u : TS} {i j : Int}
/-- what a for's loop asks, walked by J -/
def LoopF (J : It) (g : TG) (tb : TS) (D : Ends) (σ : L2.St) (H : Hp) : Prop := ∃ W : Nat → Nat → L2.St → Hp → Prop, (∃ m, W 0 m σ H) ∧ ∀ i m σ H, W i m σ H →
  (J.stop i H ∧ D.nx σ H) ∨ (J.go i H ∧ ∃ N : L2.St → Hp → Prop, (∀ σ' H', N σ' H' → ∃ m', m' < m ∧ W (i + 1) m' σ' H') ∧ ∀ x H', J.yld i H x H' → g x σ H' fun σ2 H2 => tb { D with nx := N, ct := N, bk := D.nx } σ2 H2)
theorem g_for {wi : TI} {g : TG} {tb : TS} (q : wi σ H fun J H1 => LoopF J g tb D σ H1) : tFor wi g tb D σ H := q
theorem loop_range {lo : Int} {n : Nat} {g : TG} {tb : TS} (Pv : Nat → L2.St → Hp → Prop) (h0 : Pv 0 σ H)
    (hs : ∀ i σ H, i < n → Pv i σ H → g (.int (lo + i)) σ H fun σ2 H2 => tb { D with nx := Pv (i + 1), ct := Pv (i + 1), bk := D.nx } σ2 H2) (hd : ∀ σ H, Pv n σ H → D.nx σ H) : LoopF (Itr lo n) g tb D σ H := for_range Pv h0 hs hd
theorem loop_list {a : Addr} {xs : List V} {g : TG} {tb : TS} (Pv : Nat → L2.St → Hp → Prop) (h0 : Pv 0 σ H) (hl : ∀ i σ H, i ≤ xs.length → Pv i σ H → SqL K H a xs)
    (hs : ∀ i x σ H, xs[i]? = some x → Pv i σ H → g x σ H fun σ2 H2 => tb { D with nx := Pv (i + 1), ct := Pv (i + 1), bk := D.nx } σ2 H2) (hd : ∀ σ H, Pv xs.length σ H → D.nx σ H) : LoopF (Itl K a) g tb D σ H := for_list Pv h0 hl hs hd
theorem loop_tup {a : Addr} {xs : List V} {g : TG} {tb : TS} (Pv : Nat → L2.St → Hp → Prop) (h0 : Pv 0 σ H) (hl : ∀ i σ H, i ≤ xs.length → Pv i σ H → SqT K H a xs)
    (hs : ∀ i x σ H, xs[i]? = some x → Pv i σ H → g x σ H fun σ2 H2 => tb { D with nx := Pv (i + 1), ct := Pv (i + 1), bk := D.nx } σ2 H2) (hd : ∀ σ H, Pv xs.length σ H → D.nx σ H) : LoopF (Itt K a) g tb D σ H := for_tup Pv h0 hl hs hd
def rng1 (R : It → Hp → Prop) (vs : List V) (H : Hp) : Prop := ∃ j : Int, vs = [.int j] ∧ -(2 ^ 62) ≤ j ∧ j < 2 ^ 62 ∧ R (Itr 0 j.toNat) H
def rng2 (R : It → Hp → Prop) (vs : List V) (H : Hp) : Prop := ∃ i j : Int, vs = [.int i, .int j] ∧ (-(2 ^ 62) ≤ i ∧ i < 2 ^ 62 ∧ -(2 ^ 62) ≤ j ∧ j < 2 ^ 62) ∧ R (Itr i (j - i).toNat) H
theorem g_irng1 {ta : TA} {R : It → Hp → Prop} (q : ta σ H (rng1 R)) : iRng1 ta σ H R := q
theorem g_irng2 {ta : TA} {R : It → Hp → Prop} (q : ta σ H (rng2 R)) : iRng2 ta σ H R := q
theorem g_rng1 {R : It → Hp → Prop} (h : -(2 ^ 62) ≤ j ∧ j < 2 ^ 62) (q : R (Itr 0 j.toNat) H) : rng1 R [.int j] H := ⟨j, rfl, h.1, h.2, q⟩
theorem g_rng2 {R : It → Hp → Prop} (h : -(2 ^ 62) ≤ i ∧ i < 2 ^ 62 ∧ -(2 ^ 62) ≤ j ∧ j < 2 ^ 62) (q : R (Itr i (j - i).toNat) H) : rng2 R [.int i, .int j] H := ⟨i, j, rfl, h, q⟩
def ilR (K : PySem.W.Frag) (R : It → Hp → Prop) : VK := fun x H1 => ∃ a, x = .ref a ∧ (∃ xs, SqL K H1 a xs) ∧ R (Itl K a) H1
def itR (K : PySem.W.Frag) (R : It → Hp → Prop) : VK := fun x H1 => ∃ a, x = .ref a ∧ (∃ xs, SqT K H1 a xs) ∧ R (Itt K a) H1
theorem g_ilist {tl : TE} {R : It → Hp → Prop} (q : tl σ H (ilR K R)) : iList K tl σ H R := q
theorem g_itup {tl : TE} {R : It → Hp → Prop} (q : tl σ H (itR K R)) : iTup K tl σ H R := q
theorem g_ilR {a : Addr} {xs : List V} {R : It → Hp → Prop} (h : SqL K H a xs) (q : R (Itl K a) H) : ilR K R (.ref a) H := ⟨a, rfl, ⟨xs, h⟩, q⟩
theorem g_itR {a : Addr} {xs : List V} {R : It → Hp → Prop} (h : SqT K H a xs) (q : R (Itt K a) H) : itR K R (.ref a) H := ⟨a, rfl, ⟨xs, h⟩, q⟩
/-- what a comprehension asks, walked by J, its list at L -/
def LoopC (J : It) (g : TG) (tt : TT) (te : TE) (vs : List Nat) (L : Addr) (σ : L2.St) (Qd : Hp → Prop) (H1 : Hp) : Prop := ∃ W : Nat → Nat → Hp → Prop, (∃ m, W 0 m (upd H1 L (.lst []))) ∧ ∀ i m H, W i m H →
  (J.stop i H ∧ Qd H) ∨ (J.go i H ∧ ∃ Nx : Hp → Prop, (∀ H', Nx H' → ∃ m', m' < m ∧ W (i + 1) m' H') ∧ ∀ x H', J.yld i H x H' → g x (wipe σ vs) H' fun σ2 H2 => wipe σ2 vs = wipe σ vs ∧ tt σ2 H2 fun b H3 =>
    if b = true then te σ2 H3 fun y H4 => ∃ acc, H4 L = some (.lst acc) ∧ acc.length < sizeLine ∧ Nx (upd H4 L (.lst (acc ++ [y]))) else Nx H3)
theorem g_lc {wi : TI} {g : TG} {tt : TT} {vs : List Nat} (q : wi σ H fun J H1 => ∀ L, H1 L = none → LoopC J g tt te vs L σ (fun H => Q (.ref L) H) H1) : tLc wi g tt te vs σ H Q := q
theorem lcl_range {lo : Int} {n : Nat} {g : TG} {tt : TT} {te : TE} {vs : List Nat} {L : Addr} {Qd : Hp → Prop} (Pv : Nat → Hp → Prop) (h0 : Pv 0 (upd H L (.lst [])))
    (hs : ∀ i H, i < n → Pv i H → g (.int (lo + i)) (wipe σ vs) H fun σ2 H2 => wipe σ2 vs = wipe σ vs ∧ tt σ2 H2 fun b H3 =>
      if b = true then te σ2 H3 fun y H4 => ∃ acc, H4 L = some (.lst acc) ∧ acc.length < sizeLine ∧ Pv (i + 1) (upd H4 L (.lst (acc ++ [y]))) else Pv (i + 1) H3) (hd : ∀ H, Pv n H → Qd H) : LoopC (Itr lo n) g tt te vs L σ Qd H := lc_range Pv h0 hs hd
theorem lcl_list {a : Addr} {xs : List V} {g : TG} {tt : TT} {te : TE} {vs : List Nat} {L : Addr} {Qd : Hp → Prop} (Pv : Nat → Hp → Prop) (h0 : Pv 0 (upd H L (.lst []))) (hl : ∀ i H, i ≤ xs.length → Pv i H → SqL K H a xs)
    (hs : ∀ i x H, xs[i]? = some x → Pv i H → g x (wipe σ vs) H fun σ2 H2 => wipe σ2 vs = wipe σ vs ∧ tt σ2 H2 fun b H3 =>
      if b = true then te σ2 H3 fun y H4 => ∃ acc, H4 L = some (.lst acc) ∧ acc.length < sizeLine ∧ Pv (i + 1) (upd H4 L (.lst (acc ++ [y]))) else Pv (i + 1) H3) (hd : ∀ H, Pv xs.length H → Qd H) : LoopC (Itl K a) g tt te vs L σ Qd H := lc_list Pv h0 hl hs hd
theorem lcl_tup {a : Addr} {xs : List V} {g : TG} {tt : TT} {te : TE} {vs : List Nat} {L : Addr} {Qd : Hp → Prop} (Pv : Nat → Hp → Prop) (h0 : Pv 0 (upd H L (.lst []))) (hl : ∀ i H, i ≤ xs.length → Pv i H → SqT K H a xs)
    (hs : ∀ i x H, xs[i]? = some x → Pv i H → g x (wipe σ vs) H fun σ2 H2 => wipe σ2 vs = wipe σ vs ∧ tt σ2 H2 fun b H3 =>
      if b = true then te σ2 H3 fun y H4 => ∃ acc, H4 L = some (.lst acc) ∧ acc.length < sizeLine ∧ Pv (i + 1) (upd H4 L (.lst (acc ++ [y]))) else Pv (i + 1) H3) (hd : ∀ H, Pv xs.length H → Qd H) : LoopC (Itt K a) g tt te vs L σ Qd H := lc_tup Pv h0 hl hs hd
theorem g_yes {Q : Bool → Hp → Prop} (q : Q true H) : tYes σ H Q := q
/-- a power of written numbers -/
theorem g_powE {k : Int} (c : CPow i j) (e : i ^ j.toNat = k) (q : Q (.int k) H) : rI CPow (fun i j => .int (i ^ j.toNat)) (.int i) (.int j) H Q := ⟨i, j, rfl, rfl, c, by show Q (.int (i ^ j.toNat)) H; rw [e]; exact q⟩
theorem cpow_ok (h : 0 ≤ j ∧ j ≤ 1000000 ∧ i.natAbs < 2 ^ 64) : CPow i j := h
theorem atI_of {ns : List Int} {k : Int} (p : Int → Prop) (h0 : 0 ≤ k) (h : k < ns.length) (hp : ∀ z ∈ ns, p z) : ∃ z, atI (ns.map V.int) k = some (.int z) ∧ p z := by
  obtain ⟨j, rfl⟩ : ∃ j : Nat, k = j := ⟨k.toNat, by omega⟩
  have hj : j < ns.length := by omega
  exact ⟨ns[j], atI_nat (by rw [List.getElem?_map, List.getElem?_eq_getElem hj]; rfl), hp _ (List.getElem_mem hj)⟩
theorem two_le : ([x, y] : List V).length ≤ sizeLine := by show 2 ≤ sizeLine; decide
theorem sz_le {n : Nat} (h : n ≤ 100000) : n ≤ sizeLine := Nat.le_trans h (by decide)
theorem sz_lt {n : Nat} (h : n < 100000) : n < sizeLine := Nat.lt_of_lt_of_le h (by decide)
theorem tyX_tup {a : Addr} {xs : List V} (h : SqT K H a xs) : TyX K H (.ref a) (.type "tuple") := by
  rcases h with (h | ⟨o, h⟩) | ⟨o, its, n, h, c, _⟩
  · exact .base (.tup h)
  · exact .fTuple h
  · exact .kTuple h c
theorem tyX_lst {a : Addr} {xs : List V} (h : SqL K H a xs) : TyX K H (.ref a) (.type "list") := by
  rcases h with (h | ⟨o, h⟩) | ⟨o, its, n, h, c, _⟩
  · exact .base (.lst h)
  · exact .base (.frz h)
  · exact .kList h c
theorem g_isiT {a : Addr} {xs : List V} (h : SqT K H a xs) (q : Q (.bl true) H) : rIsi K [.ref a, .ty "tuple"] H Q := g_isi (.ty _) (tyX_tup h) (kit_ty (by decide +kernel)) q
theorem g_isiL {a : Addr} {xs : List V} (h : SqL K H a xs) (q : Q (.bl true) H) : rIsi K [.ref a, .ty "list"] H Q := g_isi (.ty _) (tyX_lst h) (kit_ty (by decide +kernel)) q
theorem g_isiTL {a : Addr} {xs : List V} (h : SqT K H a xs) (q : Q (.bl false) H) : rIsi K [.ref a, .ty "list"] H Q := g_isi (.ty _) (tyX_tup h) (kit_ty (by decide +kernel)) q
theorem g_isiLT {a : Addr} {xs : List V} (h : SqL K H a xs) (q : Q (.bl false) H) : rIsi K [.ref a, .ty "tuple"] H Q := g_isi (.ty _) (tyX_lst h) (kit_ty (by decide +kernel)) q
theorem g_isiI (q : Q (.bl true) H) : rIsi K [.int i, .ty "int"] H Q := g_isi (.ty _) (.base (.int i)) (kit_ty (by decide +kernel)) q
theorem g_isiIB (q : Q (.bl false) H) : rIsi K [.int i, .ty "bool"] H Q := g_isi (.ty _) (.base (.int i)) (kit_ty (by decide +kernel)) q
theorem g_isiB {b : Bool} (q : Q (.bl true) H) : rIsi K [.bl b, .ty "bool"] H Q := g_isi (.ty _) (.base (.bl b)) (kit_ty (by decide +kernel)) q
theorem g_isiS {s : Str} (q : Q (.bl true) H) : rIsi K [.str s, .ty "str"] H Q := g_isi (.ty _) (.base (.str s)) (kit_ty (by decide +kernel)) q
end
/-! ### one step of a reading: what stands below it, found by its head -/
class St1 (g : Prop) (n : outParam Prop) : Prop where
  pf : n → g
section
variable {K : PySem.W.Frag} {σ : L2.St} {H : Hp} {Q : VK} {D : Ends} {x y v : V} {ta tb te : TE} {t u : TS} {i j : Int} {n m : Nat} {b : Bool}
instance  : St1 (tC v σ H Q) (Q v H) := ⟨g_c⟩
instance {r : R2} : St1 (tOp r ta tb σ H Q) (ta σ H fun x H1 => tb σ H1 fun y H2 => r x y H2 Q) := ⟨g_op⟩
instance {r : V → Hp → VK → Prop} : St1 (tUn r ta σ H Q) (ta σ H fun x H1 => r x H1 Q) := ⟨g_un⟩
instance  : St1 (rU (fun i => .int (-i)) (.int i) H Q) (Q (.int (-i)) H) := ⟨g_neg⟩
instance {g : Int → Int → V} : St1 (rI0 g (.int i) (.int j) H Q) (Q (g i j) H) := ⟨g_I0⟩
instance  : St1 (rEq (.int i) (.int j) H Q) (Q (.bl (decide (i = j))) H) := ⟨g_eqI⟩
instance  : St1 (rNe (.int i) (.int j) H Q) (Q (.bl (!decide (i = j))) H) := ⟨g_neI⟩
instance {a b : Bool} : St1 (rEq (.bl a) (.bl b) H Q) (Q (.bl (decide (a = b))) H) := ⟨g_eqB⟩
instance {a b : Bool} : St1 (rNe (.bl a) (.bl b) H Q) (Q (.bl (!decide (a = b))) H) := ⟨g_neB⟩
instance {tr : TA} {Q : List V → Hp → Prop} : St1 (tCons ta tr σ H Q) (ta σ H fun x H1 => tr σ H1 fun xs H2 => Q (x :: xs) H2) := ⟨g_tcons⟩
instance {Q : List V → Hp → Prop} : St1 (tNil σ H Q) (Q [] H) := ⟨g_tnil⟩
instance {r : List V → Hp → VK → Prop} {t : TA} : St1 (tCB r t σ H Q) (t σ H fun vs H1 => r vs H1 Q) := ⟨g_cb⟩
instance {sp : Sp} {dvs : List V} {E : XK} {t : TA} : St1 (tCall sp dvs E t σ H Q) (t σ H fun vs H1 => sp (vs ++ dvs) H1 Q E) := ⟨g_call⟩
instance {t : TA} : St1 (tTup t σ H Q) (t σ H fun xs H1 => xs.length ≤ sizeLine ∧ ∀ p, H1 p = none → Q (.ref p) (upd H1 p (.tup xs))) := ⟨g_tup⟩
instance {t : TA} : St1 (tLst t σ H Q) (t σ H fun xs H1 => xs.length ≤ sizeLine ∧ ∀ p, H1 p = none → Q (.ref p) (upd H1 p (.lst xs))) := ⟨g_lst⟩
instance {c : TT} : St1 (tIfS c t u D σ H) (c σ H fun b H1 => if b = true then t D σ H1 else u D σ H1) := ⟨g_if⟩
instance {Q : Bool → Hp → Prop} : St1 (tTest te σ H Q) (te σ H fun x H' => ∃ k, x = .bl k ∧ Q k H') := ⟨g_test⟩
instance {Q : Bool → Hp → Prop} : St1 (tB te σ H Q) (te σ H fun x H' => ∃ k, x = .bl k ∧ Q k H') := ⟨g_tB⟩
instance {c : TT} {Q : Bool → Hp → Prop} : St1 (tNot c σ H Q) (c σ H fun c H1 => Q (!c) H1) := ⟨g_not⟩
instance {c d : TT} {Q : Bool → Hp → Prop} : St1 (tAnd c d σ H Q) (c σ H fun c H1 => if c = true then d σ H1 Q else Q false H1) := ⟨g_and⟩
instance {c d : TT} {Q : Bool → Hp → Prop} : St1 (tOr c d σ H Q) (c σ H fun c H1 => if c = true then Q true H1 else d σ H1 Q) := ⟨g_or⟩
instance  : St1 (tAndV ta tb σ H Q) (ta σ H fun x H1 => ∃ c, x = .bl c ∧ if c = true then tb σ H1 Q else Q (.bl false) H1) := ⟨g_andV⟩
instance  : St1 (tOrV ta tb σ H Q) (ta σ H fun x H1 => ∃ c, x = .bl c ∧ if c = true then Q (.bl true) H1 else tb σ H1 Q) := ⟨g_orV⟩
instance  : St1 (tNotV ta σ H Q) (ta σ H fun x H1 => ∃ c, x = .bl c ∧ Q (.bl (!c)) H1) := ⟨g_notV⟩
instance  : St1 (tSeq t u D σ H) (t { D with nx := u D } σ H) := ⟨g_seq⟩
instance  : St1 (tNext D σ H) (D.nx σ H) := ⟨g_next⟩
instance {g : TG} : St1 (tAsg te g D σ H) (te σ H fun x H1 => g x σ H1 D.nx) := ⟨g_asg⟩
instance {Q : L2.St → Hp → Prop} : St1 (gName n v σ H Q) (Q (σ.set n (some v)) H) := ⟨g_name⟩
instance  : St1 (tRet te D σ H) (te σ H D.rt) := ⟨g_ret⟩
instance  : St1 (tDrop te D σ H) (te σ H fun _ H1 => D.nx σ H1) := ⟨g_drop⟩
instance {ta : TA} : St1 (tPar n m ta D σ H) (ta σ H fun vs H1 => ∃ v w, vs = [v, w] ∧ D.nx ((σ.set n (some v)).set m (some w)) H1) := ⟨g_par⟩
instance {g : Int → Int → Int} : St1 (ipI g (.int i) (.int j) H Q) (Q (.int (g i j)) H) := ⟨g_ipI⟩
instance {o ix : TE} {s : V → V → V → Hp → (Hp → Prop) → Prop} {Q : L2.St → Hp → Prop} : St1 (gSub o ix s v σ H Q) (o σ H fun o H1 => ix σ H1 fun i H2 => s o i v H2 fun H3 => Q σ H3) := ⟨g_sub⟩
instance  : St1 (rAbs [.int i] H Q) (Q (.int (if i < 0 then -i else i)) H) := ⟨g_abs⟩
instance  : St1 (rMax2 [.int i, .int j] H Q) (Q (.int (if j > i then j else i)) H) := ⟨g_max2⟩
instance  : St1 (rMin2 [.int i, .int j] H Q) (Q (.int (if j < i then j else i)) H) := ⟨g_min2⟩
instance  : St1 (rInt1 [.int i] H Q) (Q (.int i) H) := ⟨g_intI⟩
instance  : St1 (rInt1 [.bl b] H Q) (Q (.int (if b then 1 else 0)) H) := ⟨g_intB⟩
instance {wi : TI} {g : TG} {tb : TS} : St1 (tFor wi g tb D σ H) (wi σ H fun J H1 => LoopF J g tb D σ H1) := ⟨g_for⟩
instance {ta : TA} {R : It → Hp → Prop} : St1 (iRng1 ta σ H R) (ta σ H (rng1 R)) := ⟨g_irng1⟩
instance {ta : TA} {R : It → Hp → Prop} : St1 (iRng2 ta σ H R) (ta σ H (rng2 R)) := ⟨g_irng2⟩
instance {tl : TE} {R : It → Hp → Prop} : St1 (iList K tl σ H R) (tl σ H (ilR K R)) := ⟨g_ilist⟩
instance {tl : TE} {R : It → Hp → Prop} : St1 (iTup K tl σ H R) (tl σ H (itR K R)) := ⟨g_itup⟩
instance {wi : TI} {g : TG} {tt : TT} {vs : List Nat} : St1 (tLc wi g tt te vs σ H Q) (wi σ H fun J H1 => ∀ L, H1 L = none → LoopC J g tt te vs L σ (fun H => Q (.ref L) H) H1) := ⟨g_lc⟩
instance {Q : Bool → Hp → Prop} : St1 (tYes σ H Q) (Q true H) := ⟨g_yes⟩
instance  : St1 (rIsi K [.int i, .ty "int"] H Q) (Q (.bl true) H) := ⟨g_isiI⟩
instance  : St1 (rIsi K [.int i, .ty "bool"] H Q) (Q (.bl false) H) := ⟨g_isiIB⟩
instance  : St1 (rIsi K [.bl b, .ty "bool"] H Q) (Q (.bl true) H) := ⟨g_isiB⟩
instance {s : Str} : St1 (rIsi K [.str s, .ty "str"] H Q) (Q (.bl true) H) := ⟨g_isiS⟩
instance {b : Bool} {Q : Bool → Prop} : St1 (∃ k, V.bl b = .bl k ∧ Q k) (Q b) := ⟨fun q => ⟨b, rfl, q⟩⟩
instance {x y : V} {Q : V → V → Prop} : St1 (∃ v w, [x, y] = [v, w] ∧ Q v w) (Q x y) := ⟨fun q => ⟨x, y, rfl, q⟩⟩
instance {A B : Prop} : St1 (if true = true then A else B) A := ⟨iteT⟩
instance {A B : Prop} : St1 (if false = true then A else B) B := ⟨iteF⟩
instance {A B : Prop} : St1 (if (!true) = true then A else B) B := ⟨iteF⟩
instance {A B : Prop} : St1 (if (!false) = true then A else B) A := ⟨iteT⟩
instance {p A B : Prop} [Decidable p] : St1 (if (!!decide p) = true then A else B) (if decide p = true then A else B) := ⟨fun h => by rw [Bool.not_not]; exact h⟩
end

/-! ### the rules that hang on the written part, with K said -/
section
variable {X : Cx} {K : PySem.W.Frag}
theorem k_isi (h : X.K = K := by rfl) : CallR X (.builtin "isinstance") (rIsi K) := by subst h; exact call_isi
theorem k_isiT (h : X.K = K := by rfl) : CallR X (.builtin "isinstance") (rIsiT K) := by subst h; exact call_isiT
theorem k_ixL (h : X.K = K := by rfl) : IxR X (rIxL K) := by subst h; exact ix_list
theorem k_ixT (h : X.K = K := by rfl) : IxR X (rIxT K) := by subst h; exact ix_tup
theorem k_slL (h : X.K = K := by rfl) : SlR X (rSlL K) := by subst h; exact sl_list
theorem k_slT (h : X.K = K := by rfl) : SlR X (rSlA K) := by subst h; exact sl_tupA
theorem k_len (h : X.K = K := by rfl) : CallR X (.builtin "len") (rLenSeq K) := by subst h; exact cr_lenSeq
theorem k_list (h : X.K = K := by rfl) : CallR X (.type "list") (rListOf K) := by subst h; exact cr_listOf
theorem k_sum (hc : X.calm = true := by rfl) (h : X.K = K := by rfl) : CallR X (.builtin "sum") (rSum K) := by subst h; exact cr_sum hc
theorem k_max (hc : X.calm = true := by rfl) (h : X.K = K := by rfl) : CallR X (.builtin "max") (rMax K) := by subst h; exact cr_max hc
theorem k_min (hc : X.calm = true := by rfl) (h : X.K = K := by rfl) : CallR X (.builtin "min") (rMin K) := by subst h; exact cr_min hc
theorem k_all (hc : X.calm = true := by rfl) (h : X.K = K := by rfl) : CallR X (.builtin "all") (rAll K) := by subst h; exact cr_all hc
theorem k_any (hc : X.calm = true := by rfl) (h : X.K = K := by rfl) : CallR X (.builtin "any") (rAny K) := by subst h; exact cr_any hc
theorem k_sortedI (h : X.K = K := by rfl) : CallR X (.builtin "sorted") (rSortedI K) := by subst h; exact cr_sortedI
theorem k_in (h : X.K = K := by rfl) : OpR X (compareOp .In) (rIn K false) := by subst h; exact op_in_seq
theorem k_notIn (h : X.K = K := by rfl) : OpR X (compareOp .NotIn) (rIn K true) := by subst h; exact op_notIn_seq
theorem k_eqD (hu : X.A.units + 64 < cLine) (h : X.K = K := by rfl) : OpR X (compareOp .Eq) (rEqD K) := by subst h; exact op_eqD hu
theorem k_neD (hu : X.A.units + 64 < cLine) (h : X.K = K := by rfl) : OpR X (compareOp .NotEq) (rNeD K) := by subst h; exact op_neD hu
theorem k_inD (hu : X.A.units + 65 < cLine) (h : X.K = K := by rfl) : OpR X (compareOp .In) (rInD K) := by subst h; exact op_inD hu
theorem k_notInD (hu : X.A.units + 65 < cLine) (h : X.K = K := by rfl) : OpR X (compareOp .NotIn) (rNotInD K) := by subst h; exact op_notInD hu
theorem k_catT (h : X.K = K := by rfl) : OpR X (binaryOp .Add) (rCatA K) := by subst h; exact op_catA
end
section
variable {X : Cx} {K : PySem.W.Frag} {tg : Expr}
theorem k_piL {l : Expr} {tl : TE} (hl : PE X l tl) (h : X.K = K := by rfl) : PI X tg l (iList K tl) := by subst h; exact pi_list hl
theorem k_piT {l : Expr} {tl : TE} (hl : PE X l tl) (h : X.K = K := by rfl) : PI X tg l (iTup K tl) := by subst h; exact pi_tup hl
theorem k_enum {e : Expr} {ta : TA} {p pos tpos : Pos} {elts : List Expr} {kk : Nat} (hg : Gl X "enumerate") (hm : X.mg "enumerate" = none) (ha : PA X [e] ta) (hs : starEach [e] X.env = [(false, eval e X.env)] := by rfl) (h : X.K = K := by rfl) :
    PI X (.Tuple elts kk tpos) (.Call (.Name "enumerate" p) [e] [] pos) (iEnum K ta) := by subst h; exact pi_enum hg hm ha hs
theorem k_zip {e e2 : Expr} {ta : TA} {p pos tpos : Pos} {elts : List Expr} {kk : Nat} (hg : Gl X "zip") (hm : X.mg "zip" = none) (ha : PA X [e, e2] ta)
    (hs : starEach [e, e2] X.env = (false, eval e X.env) :: starEach [e2] X.env := by rfl) (hpl : (backTo pos (starEach [e2] X.env)).any (·.1) = false := by rfl) (h : X.K = K := by rfl) :
    PI X (.Tuple elts kk tpos) (.Call (.Name "zip" p) [e, e2] [] pos) (iZip K ta) := by subst h; exact pi_zip hg hm ha hs hpl
theorem k_tup {pos : Pos} {es : List Expr} {k : Nat} {t : TGs} {n : Nat} (hc : X.calm = true) (h : PGs X es t)
    (hn : (assignEach es X.env).length = n := by rfl) (hst : (assignEach es X.env).findIdx? (·.1) = none := by rfl) (h : X.K = K := by rfl) : PG X (.Tuple es k pos) (gTup K n t) := by subst h; exact pg_tup hc (by assumption) hn hst
end

/-! ### fractions: the mathematics -/
theorem divInt_num (t b : Int) (hb : b ≠ 0) : (Rat.divInt t b).num = if b < 0 then t.fdiv (-(Int.gcd t b : Int)) else t.fdiv (Int.gcd t b : Int) := by
  rw [Rat.num_divInt, Int.gcd_comm]
  have hd : ((t.gcd b : Nat) : Int) ∣ t := Int.gcd_dvd_left t b
  by_cases h : b < 0
  · rw [if_pos h, Int.sign_eq_neg_one_of_neg h, Int.fdiv_eq_ediv_of_dvd (Int.neg_dvd.mpr hd), Int.ediv_neg, Int.neg_mul, Int.one_mul, Int.neg_ediv_of_dvd hd]
  · rw [if_neg h, Int.sign_eq_one_of_pos (by omega), Int.one_mul, Int.fdiv_eq_ediv_of_dvd hd]
theorem divInt_den (t b : Int) (hb : b ≠ 0) : ((Rat.divInt t b).den : Int) = if b < 0 then b.fdiv (-(Int.gcd t b : Int)) else b.fdiv (Int.gcd t b : Int) := by
  rw [Rat.den_divInt, if_neg hb, Int.gcd_comm]
  have hd : ((t.gcd b : Nat) : Int) ∣ b := Int.gcd_dvd_right t b
  by_cases h : b < 0
  · rw [if_pos h, Int.fdiv_eq_ediv_of_dvd (Int.neg_dvd.mpr hd), Int.ediv_neg, ← Int.neg_ediv_of_dvd hd, Int.natCast_ediv]
    congr 1; omega
  · rw [if_neg h, Int.fdiv_eq_ediv_of_dvd hd, Int.natCast_ediv]
    congr 1; omega
theorem gcd_fmod (a b : Int) : b.gcd (a.fmod b) = a.gcd b := by
  rw [Int.fmod_def, Int.gcd_sub_mul_left_right, Int.gcd_comm]
theorem fmod_small (a b : Int) (hb : b ≠ 0) : (a.fmod b).natAbs < b.natAbs := by
  by_cases h : 0 < b
  · have h1 := Int.fmod_nonneg_of_pos a h
    have h2 := Int.fmod_lt_of_pos a h
    omega
  · have h0 : 0 < -b := by omega
    have e : a.fmod b = -((-a).fmod (-b)) := by
      rw [Int.fmod_def, Int.fmod_def, Int.neg_fdiv_neg, Int.neg_mul]; omega
    have h1 := Int.fmod_nonneg_of_pos (-a) h0
    have h2 := Int.fmod_lt_of_pos (-a) h0
    omega
theorem gcd_lt {t b : Int} {n : Nat} (hb : b ≠ 0) (h : b.natAbs < 2 ^ n) : (Int.gcd t b : Int).natAbs < 2 ^ n := by
  have : Int.gcd t b ≤ b.natAbs := Nat.le_of_dvd (by omega) (Nat.gcd_dvd_right _ _)
  show Int.gcd t b < 2 ^ n
  omega
theorem gcd_pos' {t b : Int} (hb : b ≠ 0) : 0 < (Int.gcd t b : Int) := by
  have := Int.gcd_pos_iff (a := t) (b := b) |>.mpr (.inr hb)
  omega
theorem gcd_abs (a b : Int) : Int.gcd (if a < 0 then -a else a) (if b < 0 then -b else b) = Int.gcd a b := by
  unfold Int.gcd
  congr 1 <;> split <;> omega
/-- what a fraction's tuple holds -/
def FV (x : Rat) : List V := [.int x.num, .int (x.den : Int)]
/-- small enough -/
def Bd (n : Nat) (x : Rat) : Prop := x.num.natAbs < 2 ^ n ∧ (x.den : Int).natAbs < 2 ^ n
theorem Bd.mono {n m : Nat} {x : Rat} (h : Bd n x) (l : n ≤ m) : Bd m x := ⟨Nat.lt_of_lt_of_le h.1 (Nat.pow_le_pow_right (by decide) l), Nat.lt_of_lt_of_le h.2 (Nat.pow_le_pow_right (by decide) l)⟩
theorem Bd.num {n : Nat} {x : Rat} (h : Bd n x) : x.num.natAbs < 2 ^ n := h.1
theorem Bd.de {n : Nat} {x : Rat} (h : Bd n x) : (x.den : Int).natAbs < 2 ^ n := h.2
theorem den_ne (x : Rat) : (x.den : Int) ≠ 0 := by have := x.den_pos; omega
theorem den_pos' (x : Rat) : (0 : Int) < (x.den : Int) := by have := x.den_pos; omega
theorem mulW {i j : Int} (n m : Nat) (h1 : i.natAbs < 2 ^ n) (h2 : j.natAbs < 2 ^ m) (h0 : 0 < n := by decide) (h3 : 0 < m := by decide) (h : n + m ≤ 1000000 := by decide) : CMulW i j := wide_mul h1 h2 h0 h3 h
theorem plus_eq (x y : Rat) : Rat.divInt (x.num * y.den + y.num * x.den) (x.den * y.den) = x + y := by
  have := Rat.divInt_add_divInt x.num y.num (den_ne x) (den_ne y)
  rw [Rat.num_divInt_den, Rat.num_divInt_den] at this
  exact this.symm
theorem minus_eq (x y : Rat) : Rat.divInt (x.num * y.den - y.num * x.den) (x.den * y.den) = x - y := by
  have := Rat.divInt_sub_divInt x.num y.num (den_ne x) (den_ne y)
  rw [Rat.num_divInt_den, Rat.num_divInt_den] at this
  exact this.symm
theorem times_eq (x y : Rat) : Rat.divInt (x.num * y.num) (x.den * y.den) = x * y := by
  have := Rat.divInt_mul_divInt x.num y.num (d₁ := x.den) (d₂ := y.den)
  rw [Rat.num_divInt_den, Rat.num_divInt_den] at this
  exact this.symm
theorem divided_eq (x y : Rat) : Rat.divInt (x.num * y.den) (x.den * y.num) = x / y := by
  have h := Rat.divInt_mul_divInt x.num y.den (d₁ := x.den) (d₂ := y.num)
  rw [← Rat.inv_divInt y.num y.den, Rat.num_divInt_den, Rat.num_divInt_den] at h
  rw [Rat.div_def]; exact h.symm
theorem lt_eq (x y : Rat) : decide (x.num * (y.den : Int) < y.num * (x.den : Int)) = decide (x < y) := by
  rw [decide_eq_decide]; exact (Rat.lt_iff x y).symm
theorem natAbs_mul_lt {i j : Int} {n m : Nat} (h1 : i.natAbs < 2 ^ n) (h2 : j.natAbs < 2 ^ m) : (i * j).natAbs < 2 ^ (n + m) := wide_lt h1 h2
/-- the floor by a divisor of either sign -/
def CDivV (_ j : Int) : Prop := j ≠ 0 ∧ j.natAbs.log2 < 9000
theorem op_fdivV {X : Cx} : OpR X (binaryOp .FloorDiv) (rI CDivV fun i j => .int (i.fdiv j)) := opI fun i j _ _ _ _ _ hc q =>
  floordiv_int hc.1 q (.inl (PyProof.noPylong_of_log2 hc.2))
theorem divV {i j : Int} (n : Nat) (h : j ≠ 0) (hb : j.natAbs < 2 ^ n) (h0 : 0 < n := by decide) (h9 : n ≤ 9000 := by decide) : CDivV i j := ⟨h, Nat.lt_of_lt_of_le (PySem.Flt.log2_lt_of h0 hb) h9⟩
section
variable {Q : VK} {H : Hp} {i j : Int}
theorem g_divV (c : CDivV i j) (q : Q (.int (i.fdiv j)) H) : rI CDivV (fun i j => .int (i.fdiv j)) (.int i) (.int j) H Q := ⟨i, j, rfl, rfl, c, q⟩
theorem g_modN (c : j ≠ 0) (q : Q (.int (i.fmod j)) H) : rI (fun _ j => j ≠ 0) (fun i j => .int (i.fmod j)) (.int i) (.int j) H Q := ⟨i, j, rfl, rfl, c, q⟩
end
abbrev Fr (K : PySem.W.Frag) (H : Hp) (a : Addr) (x : Rat) : Prop := SqT K H a (FV x)

/-! ### == of data -/
/-- a fraction as a datum -/
abbrev FD (x : Rat) : PyData := .tuple [.int x.num, .int (x.den : Int)]
theorem rat_ext {x y : Rat} : x = y ↔ x.num = y.num ∧ x.den = y.den := ⟨fun e => by subst e; exact ⟨rfl, rfl⟩, fun ⟨a, b⟩ => Rat.ext a b⟩
theorem FD_eqv (x y : Rat) : PyData.eqv (FD x) (FD y) = decide (x = y) := by
  unfold FD
  simp only [PyData.eqv, PyData.eqvAll, Bool.and_true]
  rw [Bool.eq_iff_iff]
  simp only [Bool.and_eq_true, beq_iff_eq, decide_eq_true_eq, rat_ext, Int.natCast_inj]
theorem FD_shaped (x : Rat) : SeqAt.shaped (FD x) = true := rfl
theorem FD_dp {K : PySem.W.Frag} {H : Hp} {a : Addr} {x : Rat} (h : Fr K H a x) : Dp K H (.ref a) (FD x) := .tup h (.cons (.int _) (.cons (.int _) .nil))
theorem g_eqF {K : PySem.W.Frag} {H : Hp} {Q : VK} {a b : Addr} {x y : Rat} (h1 : Fr K H a x) (h2 : Fr K H b y) (q : Q (.bl (decide (x = y))) H) : rEqD K (.ref a) (.ref b) H Q := ⟨_, _, FD_dp h1, FD_dp h2, rfl, rfl, by rw [FD_eqv]; exact q⟩
theorem g_neF {K : PySem.W.Frag} {H : Hp} {Q : VK} {a b : Addr} {x y : Rat} (h1 : Fr K H a x) (h2 : Fr K H b y) (q : Q (.bl (!decide (x = y))) H) : rNeD K (.ref a) (.ref b) H Q := ⟨_, _, FD_dp h1, FD_dp h2, rfl, rfl, by rw [FD_eqv]; exact q⟩
/-- an empty list against a list -/
theorem g_neNil {K : PySem.W.Frag} {H : Hp} {Q : VK} {a b : Addr} (h1 : SqL K H a []) (h2 : SqL K H b []) (q : Q (.bl false) H) : rNeD K (.ref a) (.ref b) H Q := ⟨_, _, .lst h1 .nil, .lst h2 .nil, rfl, rfl, q⟩
theorem g_eqNil {K : PySem.W.Frag} {H : Hp} {Q : VK} {a b : Addr} (h1 : SqL K H a []) (h2 : SqL K H b []) (q : Q (.bl true) H) : rEqD K (.ref a) (.ref b) H Q := ⟨_, _, .lst h1 .nil, .lst h2 .nil, rfl, rfl, q⟩

section
variable {P : Program} {w : World} {K : PySem.W.Frag} {mg : Str → Option Value} {base : Heap}
/-! ### fractions: the walk -/
def sp_common : Sp := fun vs H Q _ => ∃ a b : Int, vs = [.int a, .int b] ∧ Q (.int (Int.gcd a b)) H
theorem abs_gcd0 (a : Int) : (if a < 0 then -a else a) = (Int.gcd a 0 : Int) := by
  rw [Int.gcd_zero_right]; split <;> omega
def sp_fraction : Sp := fun vs H Q _ => ∃ t b : Int, vs = [.int t, .int b] ∧ b ≠ 0 ∧ b.natAbs < 2 ^ 8500 ∧ ∀ p, H p = none → Q (.ref p) (upd H p (.tup (FV (Rat.divInt t b))))
/-- two fractions to one -/
def sp2F (K : PySem.W.Frag) (f : Rat → Rat → Rat) (pre : Rat → Rat → Prop) : Sp := fun vs H Q _ => ∃ (a b : Addr) (x y : Rat), vs = [.ref a, .ref b] ∧ Fr K H a x ∧ Fr K H b y ∧ Bd 4000 x ∧ Bd 4000 y ∧ pre x y ∧
  ∀ p, H p = none → Q (.ref p) (upd H p (.tup (FV (f x y))))
theorem fr_at {H : Hp} {a : Addr} {x : Rat} {o : HO} (h : o = .tup (FV x)) : Fr K (upd H a o) a x := by subst h; exact sqT_at
def sp_below (K : PySem.W.Frag) : Sp := fun vs H Q _ => ∃ (a b : Addr) (x y : Rat), vs = [.ref a, .ref b] ∧ Fr K H a x ∧ Fr K H b y ∧ Bd 4000 x ∧ Bd 4000 y ∧ Q (.bl (decide (x < y))) H
end

/-! ### the law's pool of draws -/
/-- a pool with at most n draws behind it -/
def Pool (n : Nat) (H : Hp) (p : Addr) : Prop := ∃ a b c : Int, H p = some (.lst [.int a, .int b, .int c]) ∧ 0 ≤ c ∧ c ≤ n
theorem Pool.mono {n m : Nat} {H : Hp} {p : Addr} (h : Pool n H p) (l : n ≤ m) : Pool m H p := by
  obtain ⟨a, b, c, e, h0, h1⟩ := h
  exact ⟨a, b, c, e, h0, by omega⟩
theorem Pool.same {n : Nat} {H H' : Hp} {p : Addr} (h : Pool n H p) (s : Same H H') : Pool n H' p := by
  obtain ⟨a, b, c, e, h0, h1⟩ := h
  exact ⟨a, b, c, s _ _ e, h0, h1⟩
theorem Pool.new {n : Nat} {H : Hp} {p q : Addr} {o : HO} (h : Pool n H p) (s : H q = none) : Pool n (upd H q o) p := h.same (same_new s)
theorem Pool.some {n : Nat} {H : Hp} {p : Addr} (h : Pool n H p) : ∃ xs, H p = Option.some (.lst xs) := by
  obtain ⟨a, b, c, e, _⟩ := h
  exact ⟨_, e⟩
theorem sqT_pool {K : PySem.W.Frag} {n : Nat} {H H' : Hp} {p a : Addr} {xs : List V} (b : But p H H') (e : Pool n H p) (h : SqT K H a xs) : SqT K H' a xs := by
  obtain ⟨ys, e⟩ := e.some
  exact sqT_but b e h
theorem same_of_but {p : Addr} {H H' : Hp} (b : But p H H') (n : H p = none) : Same H H' := fun q o e => b q o (ne_of_none e n) e
theorem But.newp {p q : Addr} {H H' : Hp} {o : HO} (b : But p H H') (n : H' q = none) : But p H (upd H' q o) := b.trans (But.new n)
section
variable {P : Program} {w : World} {K : PySem.W.Frag} {mg : Str → Option Value} {base : Heap}
def sp_pool (K : PySem.W.Frag) : Sp := fun vs H Q _ => ∃ (a : Addr) (ns : List Int) (k : Int), vs = [.ref a, .int k] ∧ SqL K H a (ns.map V.int) ∧ 0 ≤ k ∧ k ≤ 1000 ∧
  ∀ p H', H p = none → Same H H' → Pool 23000 H' p → Q (.ref p) H'
theorem atI_int {ns : List Int} {k : Int} (h0 : 0 ≤ k) (h : k < ns.length) : ∃ z, atI (ns.map V.int) k = some (.int z) := by
  obtain ⟨j, rfl⟩ : ∃ j : Nat, k = j := ⟨k.toNat, by omega⟩
  have hj : j < ns.length := by omega
  exact ⟨ns[j], atI_nat (by rw [List.getElem?_map, List.getElem?_eq_getElem hj]; rfl)⟩
def sp_take (K : PySem.W.Frag) : Sp := fun vs H Q _ => ∃ (p : Addr) (n : Nat) (m : Int), vs = [.ref p, .int m] ∧ Pool n H p ∧ n ≤ 2 ^ 60 ∧ 0 < m ∧ m.natAbs < 2 ^ 8500 ∧
  ∀ r H', 0 ≤ r → r < m → But p H H' → Pool (n + 1) H' p → Q (.int r) H'
end

/-! ### the law's own fractions -/
theorem Bd_divInt {t b : Int} {n : Nat} (hb : b ≠ 0) (h1 : t.natAbs < 2 ^ n) (h2 : b.natAbs < 2 ^ n) : Bd n (Rat.divInt t b) := by
  constructor
  · rw [Rat.num_divInt]
    refine Nat.lt_of_le_of_lt ?_ h1
    rw [Int.natAbs_ediv_of_dvd (Int.dvd_mul_of_dvd_right (Int.gcd_dvd_right b t)), Int.natAbs_mul, Int.natAbs_sign_of_ne_zero hb, Nat.one_mul]
    exact Nat.div_le_self _ _
  · rw [Rat.den_divInt, if_neg hb]
    exact Nat.lt_of_le_of_lt (Nat.div_le_self _ _) h2
theorem atI_memV {xs : List V} {k : Int} (p : V → Prop) (h0 : 0 ≤ k) (h : k < xs.length) (hp : ∀ z ∈ xs, p z) : ∃ z, atI xs k = some z ∧ p z := by
  obtain ⟨j, rfl⟩ : ∃ j : Nat, k = j := ⟨k.toNat, by omega⟩
  have hj : j < xs.length := by omega
  exact ⟨xs[j], atI_nat (List.getElem?_eq_getElem hj), hp _ (List.getElem_mem hj)⟩
theorem FV_neg (x : Rat) : FV (-x) = [.int (0 - x.num), .int (x.den : Int)] := by
  unfold FV
  rw [Rat.neg_num, Rat.neg_den, Int.zero_sub]
theorem Bd.neg {n : Nat} {x : Rat} (h : Bd n x) : Bd n (-x) := by
  unfold Bd at *
  rw [Rat.neg_num, Rat.neg_den]
  omega
section
variable {P : Program} {w : World} {K : PySem.W.Frag} {mg : Str → Option Value} {base : Heap}
def sp_figures (K : PySem.W.Frag) : Sp := fun vs H Q _ => ∃ (p : Addr) (n : Nat), vs = [.ref p] ∧ Pool n H p ∧ n ≤ 2 ^ 59 ∧
  ∀ r H', 0 ≤ r → r < 10 ^ 40 → But p H H' → Pool (n + 10) H' p → Q (.int r) H'
/-- a drawn fraction -/
def sp_q (K : PySem.W.Frag) : Sp := fun vs H Q _ => ∃ (p : Addr) (n : Nat), vs = [.ref p] ∧ Pool n H p ∧ n ≤ 2 ^ 58 ∧
  ∀ a x H', H a = none → Bd 134 x → But p H H' → Pool (n + 40) H' p → Fr K H' a x → Q (.ref a) H'
theorem pool_ne {n : Nat} {H : Hp} {p l : Addr} (h : Pool n H p) (e : H l = none) : l ≠ p := fun z => by
  obtain ⟨xs, e2⟩ := h.some
  rw [← z, e] at e2; cases e2
theorem FV_zero : FV 0 = [.int 0, .int 1] := rfl
theorem Bd_zero {n : Nat} (h : 0 < n) : Bd n 0 := ⟨Nat.pow_pos (by decide), Nat.one_lt_two_pow (by omega)⟩
theorem free_but {p a : Addr} {H H' : Hp} (b : But p H H') (n : a ≠ p) (e : H' a = none) : H a = none := by
  cases h : H a with
  | none => rfl
  | some o => rw [b a o n h] at e; cases e
end

section
variable {P : Program} {w : World} {K : PySem.W.Frag} {mg : Str → Option Value} {base : Heap}
/-- found is told to be the fraction t over b -/
def sp_isfr (K : PySem.W.Frag) : Sp := fun vs H Q _ => ∃ (a : Addr) (t b : Int), vs = [.ref a, .int t, .int b] ∧ Fr K H a (Rat.divInt t b) ∧ b ≠ 0 ∧ b.natAbs < 2 ^ 8500 ∧ ∀ H', Same H H' → Q (.bl true) H'
end

/-! ### bounds, and the deeds by one step each -/
def IB (n : Nat) (i : Int) : Prop := i.natAbs < 2 ^ n
theorem IB.mono {n m : Nat} {i : Int} (h : IB n i) (l : n ≤ m) : IB m i := Nat.lt_of_lt_of_le h (Nat.pow_le_pow_right (by decide) l)
theorem IB.num {n : Nat} {x : Rat} (h : Bd n x) : IB n x.num := h.1
theorem IB.den {n : Nat} {x : Rat} (h : Bd n x) : IB n (x.den : Int) := h.2
theorem IB.mul {n m : Nat} {i j : Int} (h : IB n i) (h' : IB m j) : IB (n + m) (i * j) := natAbs_mul_lt h h'
theorem two_pow_max {n m : Nat} {a b : Nat} (h : a < 2 ^ n) (h' : b < 2 ^ m) : a + b < 2 ^ (max n m + 1) := by
  have h1 := Nat.pow_le_pow_right (n := 2) (by decide) (Nat.le_max_left n m)
  have h2 := Nat.pow_le_pow_right (n := 2) (by decide) (Nat.le_max_right n m)
  rw [Nat.pow_succ]
  omega
theorem IB.add {n m : Nat} {i j : Int} (h : IB n i) (h' : IB m j) : IB (max n m + 1) (i + j) := Nat.lt_of_le_of_lt (Int.natAbs_add_le i j) (two_pow_max h h')
theorem IB.sub {n m : Nat} {i j : Int} (h : IB n i) (h' : IB m j) : IB (max n m + 1) (i - j) := by
  refine Nat.lt_of_le_of_lt ?_ (two_pow_max h h')
  omega
theorem IB.neg {n : Nat} {i : Int} (h : IB n i) : IB n (-i) := by unfold IB at *; rw [Int.natAbs_neg]; exact h
theorem IB.lit {i : Int} (h : i.natAbs < 2 ^ 64 := by decide) : IB 64 i := h
theorem IB.mulW {n m : Nat} {i j : Int} (h : IB n i) (h' : IB m j) (l : n + m + 2 ≤ 1000000) : CMulW i j := wide_mul (a := n + 1) (b := m + 1) (h.mono (by omega)) (h'.mono (by omega)) (by omega) (by omega) (by omega)
theorem Bd_add {n m : Nat} {x y : Rat} (h : Bd n x) (h' : Bd m y) : Bd (n + m + 1) (x + y) := by
  rw [← plus_eq]
  refine Bd_divInt (Int.ne_of_gt (Int.mul_pos (den_pos' x) (den_pos' y))) ?_ ?_
  · exact (IB.add (IB.mul (IB.num h) (IB.den h')) (IB.mul (IB.num h') (IB.den h))).mono (by omega)
  · exact (IB.mul (IB.den h) (IB.den h')).mono (by omega)
theorem Bd_sub {n m : Nat} {x y : Rat} (h : Bd n x) (h' : Bd m y) : Bd (n + m + 1) (x - y) := by
  rw [← minus_eq]
  refine Bd_divInt (Int.ne_of_gt (Int.mul_pos (den_pos' x) (den_pos' y))) ?_ ?_
  · exact (IB.sub (IB.mul (IB.num h) (IB.den h')) (IB.mul (IB.num h') (IB.den h))).mono (by omega)
  · exact (IB.mul (IB.den h) (IB.den h')).mono (by omega)
theorem Bd_mul {n m : Nat} {x y : Rat} (h : Bd n x) (h' : Bd m y) : Bd (n + m) (x * y) := by
  rw [← times_eq]
  refine Bd_divInt (Int.ne_of_gt (Int.mul_pos (den_pos' x) (den_pos' y))) ?_ ?_
  · exact IB.mul (IB.num h) (IB.num h')
  · exact IB.mul (IB.den h) (IB.den h')
theorem num_ne {y : Rat} (h : y ≠ 0) : y.num ≠ 0 := fun z => h (Rat.num_eq_zero.mp z)
theorem Bd_div {n m : Nat} {x y : Rat} (h : Bd n x) (h' : Bd m y) (h0 : y ≠ 0) : Bd (n + m) (x / y) := by
  rw [← divided_eq]
  refine Bd_divInt (Int.mul_ne_zero (den_ne x) (num_ne h0)) ?_ ?_
  · exact IB.mul (IB.num h) (IB.den h')
  · exact IB.mul (IB.den h) (IB.num h')
section
variable {K : PySem.W.Frag} {H : Hp} {Q : VK} {E : XK} {a b : Addr} {x y : Rat} {t u : Int}
theorem g_plus (hx : Fr K H a x) (hy : Fr K H b y) (bx : Bd 4000 x) (bu : Bd 4000 y) (q : ∀ p, H p = none → Q (.ref p) (upd H p (.tup (FV (x + y))))) : sp2F K (fun x y => x + y) (fun _ _ => True) ([.ref a, .ref b] ++ []) H Q E := ⟨a, b, x, y, rfl, hx, hy, bx, bu, trivial, q⟩
theorem g_minus (hx : Fr K H a x) (hy : Fr K H b y) (bx : Bd 4000 x) (bu : Bd 4000 y) (q : ∀ p, H p = none → Q (.ref p) (upd H p (.tup (FV (x - y))))) : sp2F K (fun x y => x - y) (fun _ _ => True) ([.ref a, .ref b] ++ []) H Q E := ⟨a, b, x, y, rfl, hx, hy, bx, bu, trivial, q⟩
theorem g_times (hx : Fr K H a x) (hy : Fr K H b y) (bx : Bd 4000 x) (bu : Bd 4000 y) (q : ∀ p, H p = none → Q (.ref p) (upd H p (.tup (FV (x * y))))) : sp2F K (fun x y => x * y) (fun _ _ => True) ([.ref a, .ref b] ++ []) H Q E := ⟨a, b, x, y, rfl, hx, hy, bx, bu, trivial, q⟩
theorem g_divided (hx : Fr K H a x) (hy : Fr K H b y) (bx : Bd 4000 x) (bu : Bd 4000 y) (h0 : y ≠ 0) (q : ∀ p, H p = none → Q (.ref p) (upd H p (.tup (FV (x / y))))) : sp2F K (fun x y => x / y) (fun _ y => y ≠ 0) ([.ref a, .ref b] ++ []) H Q E := ⟨a, b, x, y, rfl, hx, hy, bx, bu, h0, q⟩
theorem g_below (hx : Fr K H a x) (hy : Fr K H b y) (bx : Bd 4000 x) (bu : Bd 4000 y) (q : Q (.bl (decide (x < y))) H) : sp_below K ([.ref a, .ref b] ++ []) H Q E := ⟨a, b, x, y, rfl, hx, hy, bx, bu, q⟩
theorem g_frac (h0 : u ≠ 0) (h : IB 8500 u) (q : ∀ p, H p = none → Q (.ref p) (upd H p (.tup (FV (Rat.divInt t u))))) : sp_fraction ([.int t, .int u] ++ []) H Q E := ⟨t, u, rfl, h0, h, q⟩
theorem ifN_known {p A B : Prop} [Decidable p] (h : p) (q : B) : if (!decide p) = true then A else B := by
  rw [decide_eq_true h]; exact q
theorem ifY_known {p A B : Prop} [Decidable p] (h : p) (q : A) : if decide p = true then A else B := by
  rw [decide_eq_true h]; exact q
theorem fin_eq {p : Prop} [Decidable p] {Q : VK} (h : p) (q : Q (.bl true) H) : Q (.bl (decide p)) H := by rw [decide_eq_true h]; exact q
end

/-! ### lists of fractions -/
def TS (K : PySem.W.Frag) (H H' : Hp) : Prop := ∀ a xs, SqT K H a xs → SqT K H' a xs
theorem TS.refl {K : PySem.W.Frag} (H : Hp) : TS K H H := fun _ _ h => h
theorem TS.trans {K : PySem.W.Frag} {H H1 H2 : Hp} (a : TS K H H1) (b : TS K H1 H2) : TS K H H2 := fun x xs h => b x xs (a x xs h)
theorem Same.ts {K : PySem.W.Frag} {H H' : Hp} (s : Same H H') : TS K H H' := fun _ _ h => sqT_same s h
theorem ts_but {K : PySem.W.Frag} {H H' : Hp} {p : Addr} {ys : List V} (b : But p H H') (e : H p = some (.lst ys)) : TS K H H' := fun _ _ h => sqT_but b e h
theorem ts_pool {K : PySem.W.Frag} {H H' : Hp} {p : Addr} {n : Nat} (b : But p H H') (e : Pool n H p) : TS K H H' := fun _ _ h => sqT_pool b e h
theorem ts_new {K : PySem.W.Frag} {H : Hp} {p : Addr} {o : HO} (e : H p = none) : TS K H (upd H p o) := fun _ _ h => sqT_new e h
theorem ts_mut {K : PySem.W.Frag} {H : Hp} {p : Addr} {o : HO} {ys : List V} (e : H p = some (.lst ys)) : TS K H (upd H p o) := fun _ _ h => sqT_mut e h
def Frs (K : PySem.W.Frag) (H : Hp) : List V → List Rat → Prop
  | [], [] => True
  | v :: vs, x :: xs => (∃ a, v = .ref a ∧ Fr K H a x) ∧ Frs K H vs xs
  | _, _ => False
section
variable {K : PySem.W.Frag} {H H' : Hp}
theorem Frs.ts (t : TS K H H') : ∀ {vs : List V} {xs : List Rat}, Frs K H vs xs → Frs K H' vs xs
  | [], [], _ => True.intro
  | _ :: _, _ :: _, ⟨⟨a, e, h⟩, r⟩ => ⟨⟨a, e, t _ _ h⟩, Frs.ts t r⟩
  | [], _ :: _, h => h.elim
  | _ :: _, [], h => h.elim
theorem Frs.len : ∀ {vs : List V} {xs : List Rat}, Frs K H vs xs → vs.length = xs.length
  | [], [], _ => rfl
  | _ :: _, _ :: _, ⟨_, r⟩ => by rw [List.length_cons, List.length_cons, Frs.len r]
  | [], _ :: _, h => h.elim
  | _ :: _, [], h => h.elim
theorem Frs.snoc {a : Addr} {x : Rat} (h : Fr K H a x) : ∀ {vs : List V} {xs : List Rat}, Frs K H vs xs → Frs K H (vs ++ [.ref a]) (xs ++ [x])
  | [], [], _ => ⟨⟨a, rfl, h⟩, True.intro⟩
  | _ :: _, _ :: _, ⟨e, r⟩ => ⟨e, Frs.snoc h r⟩
  | [], _ :: _, h => h.elim
  | _ :: _, [], h => h.elim
theorem Frs.get : ∀ {vs : List V} {xs : List Rat} {i : Nat} {v : V}, Frs K H vs xs → vs[i]? = some v → ∃ a x, v = .ref a ∧ xs[i]? = some x ∧ Fr K H a x
  | [], [], _, _, _, h => by simp at h
  | _ :: _, x :: _, 0, v, ⟨⟨a, e, h⟩, _⟩, g => ⟨a, x, (Option.some.inj g).symm.trans e, rfl, h⟩
  | _ :: _, _ :: _, i + 1, v, ⟨_, r⟩, g => Frs.get (i := i) r g
  | [], _ :: _, _, _, h, _ => h.elim
  | _ :: _, [], _, _, h, _ => h.elim
theorem Frs.at : ∀ {vs : List V} {xs : List Rat} {i : Nat} {x : Rat}, Frs K H vs xs → xs[i]? = some x → ∃ a, vs[i]? = some (.ref a) ∧ Fr K H a x
  | [], [], _, _, _, h => by simp at h
  | v :: _, x :: _, 0, y, ⟨⟨a, e, h⟩, _⟩, g => by
    obtain rfl : x = y := Option.some.inj g
    exact ⟨a, by rw [e]; rfl, h⟩
  | _ :: _, _ :: _, i + 1, v, ⟨_, r⟩, g => Frs.at (i := i) r g
  | [], _ :: _, _, _, h, _ => h.elim
  | _ :: _, [], _, _, h, _ => h.elim
theorem k_unl {X : Cx} {pos : Pos} {es : List Expr} {k : Nat} {t : TGs} {n : Nat} (hc : X.calm = true) (h : PGs X es t)
    (hn : (assignEach es X.env).length = n := by rfl) (hst : (assignEach es X.env).findIdx? (·.1) = none := by rfl) (h : X.K = K := by rfl) : PG X (.Tuple es k pos) (gUnl K n t) := by subst h; exact pg_unl hc (by assumption) hn hst
end
theorem num_cast (x : Rat) : ((x.num : Int) : Rat) = x * ((x.den : Int) : Rat) := by
  have h := Rat.num_divInt_den x
  rw [Rat.divInt_eq_div] at h
  have h2 : ((x.den : Int) : Rat) ≠ 0 := fun z => den_ne x (by exact_mod_cast z)
  grind
theorem den_cast (x : Rat) : ((x.den : Int) : Rat) ≠ 0 := fun z => den_ne x (by exact_mod_cast z)
theorem fr_one_at {K : PySem.W.Frag} {H : Hp} {a : Addr} : Fr K (upd H a (.tup [.int 1, .int 1])) a 1 := sqT_at (xs := [.int 1, .int 1])
theorem fr_zero_at {K : PySem.W.Frag} {H : Hp} {a : Addr} : Fr K (upd H a (.tup [.int 0, .int 1])) a 0 := sqT_at (xs := [.int 0, .int 1])
theorem fr_int_at {K : PySem.W.Frag} {H : Hp} {a : Addr} {i : Int} : Fr K (upd H a (.tup [.int i, .int 1])) a ((i : Int) : Rat) := sqT_at (xs := [.int i, .int 1])
theorem fr_neg_at {K : PySem.W.Frag} {H : Hp} {a : Addr} {x : Rat} : Fr K (upd H a (.tup [.int (0 - x.num), .int (x.den : Int)])) a (-x) := by
  show SqT _ _ _ _
  rw [FV_neg]
  exact sqT_at
theorem Bd_int {n : Nat} {i : Int} (h : IB n i) : Bd (n + 1) ((i : Int) : Rat) := ⟨IB.mono h (by omega), Nat.one_lt_two_pow (by omega)⟩
theorem Bd_one : Bd 1 (1 : Rat) := ⟨by decide, by decide⟩
theorem ifY_no {p A B : Prop} [Decidable p] (h : ¬p) (q : B) : if decide p = true then A else B := by
  rw [decide_eq_false h]; exact q
theorem ifN_no {p A B : Prop} [Decidable p] (h : ¬p) (q : A) : if (!decide p) = true then A else B := by
  rw [decide_eq_false h]; exact q
theorem neg_ne {i : Int} (h : i ≠ 0) : 0 - i ≠ 0 := by omega
theorem rat_num_pos {x : Rat} : 0 < x.num ↔ 0 < x := by
  rw [Rat.lt_iff]
  show _ ↔ (0 : Int) * (x.den : Int) < x.num * ((1 : Nat) : Int)
  rw [Int.zero_mul, Int.natCast_one, Int.mul_one]
/-- the sum of the first i of some fractions -/
def sumT (xs : List Rat) : Nat → Rat
  | 0 => 0
  | i + 1 => sumT xs i + xs.getD i 0
theorem getD_of {xs : List Rat} {i : Nat} {x : Rat} (h : xs[i]? = some x) : xs.getD i 0 = x := by
  rw [List.getD_eq_getElem?_getD, h]; rfl
theorem mem_of_at {α : Type} {xs : List α} {i : Nat} {x : α} (h : xs[i]? = some x) : x ∈ xs := List.mem_of_getElem? h
section
variable {H : Hp} {Q : VK} {a : Addr} {i : Int} {s : Str} {b : Bool}
instance : St1 (rIsN (.ref a) .non H Q) (Q (.bl false) H) := ⟨fun q => ⟨rfl, q⟩⟩
instance : St1 (rIsN .non .non H Q) (Q (.bl true) H) := ⟨fun q => ⟨rfl, q⟩⟩
instance : St1 (rNotN (.ref a) .non H Q) (Q (.bl true) H) := ⟨fun q => ⟨rfl, q⟩⟩
instance : St1 (rNotN .non .non H Q) (Q (.bl false) H) := ⟨fun q => ⟨rfl, q⟩⟩
instance : St1 (rIsN (.int i) .non H Q) (Q (.bl false) H) := ⟨fun q => ⟨rfl, q⟩⟩
instance : St1 (rNotN (.int i) .non H Q) (Q (.bl true) H) := ⟨fun q => ⟨rfl, q⟩⟩
end
theorem cutV_int (ns : List Int) (lo hi : Option Int) : ∃ ms : List Int, cutV (ns.map V.int) lo hi = ms.map V.int ∧ ms.length ≤ ns.length := by
  unfold cutV
  refine ⟨(ns.drop (HT.sIx (ns.map V.int).length 0 lo)).take (HT.sIx (ns.map V.int).length (ns.map V.int).length hi - HT.sIx (ns.map V.int).length 0 lo), ?_, ?_⟩
  · rw [List.map_take, List.map_drop]
  · rw [List.length_take, List.length_drop]; omega
section
variable {K : PySem.W.Frag} {σ : L2.St} {H : Hp} {Q : VK} {T : String} {to : TE}
instance {r : V → List V → Hp → VK → Prop} {t : TA} : St1 (tBM K T r to t σ H Q) (to σ H fun x H1 => tyV K T x H1 ∧ t σ H1 fun xs H2 => r x xs H2 Q) := ⟨fun h => h⟩
instance {r : V → List V → Hp → VK → Prop} : St1 (tBM0 K T r to σ H Q) (to σ H fun x H1 => tyV K T x H1 ∧ r x [] H1 Q) := ⟨fun h => h⟩
theorem ty_l {a : Addr} {xs : List V} (h : H a = some (.lst xs)) : tyV K "list" (.ref a) H := .inl ⟨rfl, _, SqL.of h⟩
end
/-! ### data of any depth -/
mutual
theorem dp_same {K : PySem.W.Frag} {H H' : Hp} (s : Same H H') : ∀ (d : PyData) (v : V), Dp K H v d → Dp K H' v d
  | .none, _, h => by cases h; exact .non
  | .bool b, _, h => by cases h; exact .bl b
  | .int i, _, h => by cases h; exact .int i
  | .str x, _, h => by cases h; exact .str x
  | .list ds, _, h => by
    cases h with
    | lst h1 h2 => exact .lst (sqL_same s h1) (dpAll_same s ds _ h2)
  | .tuple ds, _, h => by
    cases h with
    | tup h1 h2 => exact .tup (sqT_same s h1) (dpAll_same s ds _ h2)
  | .dict _, _, h => nomatch h
theorem dpAll_same {K : PySem.W.Frag} {H H' : Hp} (s : Same H H') : ∀ (ds : List PyData) (vs : List V), DpAll K H vs ds → DpAll K H' vs ds
  | [], _, h => by cases h; exact .nil
  | d :: ds, _, h => by
    cases h with
    | cons h1 h2 => exact .cons (dp_same s d _ h1) (dpAll_same s ds _ h2)
end
section
variable {K : PySem.W.Frag} {H H' : Hp} {Q : VK} {x y v : V} {d e : PyData} {ds : List PyData} {vs : List V}
theorem Dp.sm (h : Dp K H v d) (s : Same H H') : Dp K H' v d := dp_same s d v h
theorem DpAll.sm (h : DpAll K H vs ds) (s : Same H H') : DpAll K H' vs ds := dpAll_same s ds vs h
theorem Dp.lstI (h : Dp K H v (.list ds)) : ∃ a xs, v = .ref a ∧ SqL K H a xs ∧ DpAll K H xs ds := by
  cases h with
  | lst h1 h2 => exact ⟨_, _, rfl, h1, h2⟩
theorem Dp.tupI (h : Dp K H v (.tuple ds)) : ∃ a xs, v = .ref a ∧ SqT K H a xs ∧ DpAll K H xs ds := by
  cases h with
  | tup h1 h2 => exact ⟨_, _, rfl, h1, h2⟩
theorem DpAll.len : ∀ {vs : List V} {ds : List PyData}, DpAll K H vs ds → vs.length = ds.length
  | _, _, .nil => rfl
  | _, _, .cons _ h => by rw [List.length_cons, List.length_cons, DpAll.len h]
theorem DpAll.get : ∀ {vs : List V} {ds : List PyData} {i : Nat} {d : PyData}, DpAll K H vs ds → ds[i]? = some d → ∃ v, vs[i]? = some v ∧ Dp K H v d
  | _, _, _, _, .nil, h => by simp at h
  | _, _, 0, _, .cons h1 _, h => by cases h; exact ⟨_, rfl, h1⟩
  | _, _, i + 1, _, .cons _ h2, h => DpAll.get (i := i) h2 h
theorem DpAll.got : ∀ {vs : List V} {ds : List PyData} {i : Nat} {v : V}, DpAll K H vs ds → vs[i]? = some v → ∃ d, ds[i]? = some d ∧ Dp K H v d
  | _, _, _, _, .nil, h => by simp at h
  | _, _, 0, _, .cons h1 _, h => by cases h; exact ⟨_, rfl, h1⟩
  | _, _, i + 1, _, .cons _ h2, h => DpAll.got (i := i) h2 h
theorem DpAll.snoc : ∀ {vs : List V} {ds : List PyData}, DpAll K H vs ds → Dp K H v d → DpAll K H (vs ++ [v]) (ds ++ [d])
  | _, _, .nil, h => .cons h .nil
  | _, _, .cons h1 h2, h => .cons h1 (DpAll.snoc h2 h)
theorem FD_fr {a : Addr} {x : Rat} (h : Dp K H (.ref a) (FD x)) : Fr K H a x := by
  cases h with
  | tup h1 h2 =>
    cases h2 with
    | cons h3 h4 =>
      cases h4 with
      | cons h5 h6 =>
        cases h3; cases h5; cases h6
        exact h1
theorem FD_ref {x : Rat} (h : Dp K H v (FD x)) : ∃ a, v = .ref a ∧ Fr K H a x := by
  obtain ⟨a, xs, rfl, _⟩ := Dp.tupI h
  exact ⟨a, rfl, FD_fr h⟩
theorem Frs.dp : ∀ {vs : List V} {xs : List Rat}, Frs K H vs xs → DpAll K H vs (xs.map FD)
  | [], [], _ => .nil
  | _ :: _, _ :: _, ⟨⟨a, e, h⟩, r⟩ => by subst e; exact .cons (FD_dp h) (Frs.dp r)
  | [], _ :: _, h => h.elim
  | _ :: _, [], h => h.elim
theorem frs_dp : ∀ {vs : List V} {xs : List Rat}, DpAll K H vs (xs.map FD) → Frs K H vs xs
  | _, [], h => by cases h; exact True.intro
  | _, x :: xs, h => by
    cases h with
    | cons h1 h2 => exact ⟨FD_ref h1, frs_dp h2⟩
/-- looks that == asks: lying, and no deeper than n -/
def Sh (n : Nat) (d : PyData) : Prop := d.canLay0 = true ∧ d.depth ≤ n
theorem Sh.ok {n : Nat} (h : Sh n d) (l : n ≤ 64 := by decide) : SeqAt.shaped d = true := by
  unfold SeqAt.shaped
  rw [h.1, Bool.true_and]
  exact decide_eq_true (Nat.le_trans h.2 l)
theorem sh_all {n : Nat} : ∀ {ds : List PyData}, (∀ d ∈ ds, Sh n d) → PyData.canLayAll0 ds = true ∧ PyData.depthAll ds ≤ n
  | [], _ => ⟨rfl, Nat.zero_le _⟩
  | d :: ds, h => by
    have h1 := h d List.mem_cons_self
    have h2 := sh_all fun e he => h e (List.mem_cons_of_mem _ he)
    constructor
    · rw [PyData.canLayAll0, h1.1, h2.1]; rfl
    · rw [PyData.depthAll]; exact Nat.max_le.mpr ⟨h1.2, h2.2⟩
theorem Sh.lst {n : Nat} (h : ∀ d ∈ ds, Sh n d) : Sh (n + 1) (.list ds) := by
  have z := sh_all h
  exact ⟨by rw [PyData.canLay0]; exact z.1, by rw [PyData.depth]; exact Nat.add_le_add_right z.2 1⟩
theorem Sh.tup {n : Nat} (h : ∀ d ∈ ds, Sh n d) : Sh (n + 1) (.tuple ds) := by
  have z := sh_all h
  exact ⟨by rw [PyData.canLay0]; exact z.1, by rw [PyData.depth]; exact Nat.add_le_add_right z.2 1⟩
theorem Sh.mono {n m : Nat} (h : Sh n d) (l : n ≤ m) : Sh m d := ⟨h.1, Nat.le_trans h.2 l⟩
theorem Sh.int {i : Int} {n : Nat} : Sh n (.int i) := ⟨rfl, Nat.zero_le _⟩
theorem Sh.fd {x : Rat} : Sh 1 (FD x) := ⟨rfl, Nat.le_refl _⟩
/-- a list of fractions, a table, a list of ints as data -/
abbrev FL (xs : List Rat) : PyData := .list (xs.map FD)
abbrev TD (t : List (List Rat)) : PyData := .list (t.map FL)
abbrev IL (ns : List Int) : PyData := .list (ns.map PyData.int)
theorem Sh.fl {xs : List Rat} : Sh 2 (FL xs) := Sh.lst fun d h => by
  obtain ⟨x, _, rfl⟩ := List.mem_map.mp h
  exact Sh.fd
theorem Sh.td {t : List (List Rat)} : Sh 3 (TD t) := Sh.lst fun d h => by
  obtain ⟨x, _, rfl⟩ := List.mem_map.mp h
  exact Sh.fl
theorem Sh.il {ns : List Int} : Sh 1 (IL ns) := Sh.lst fun d h => by
  obtain ⟨x, _, rfl⟩ := List.mem_map.mp h
  exact Sh.int
theorem il_dp : ∀ {ns : List Int}, DpAll K H (ns.map V.int) (ns.map PyData.int)
  | [] => .nil
  | n :: ns => .cons (.int n) il_dp
theorem IL_dp {a : Addr} {ns : List Int} (h : SqL K H a (ns.map V.int)) : Dp K H (.ref a) (IL ns) := .lst h il_dp
theorem g_neSame {n : Nat} (h1 : Dp K H x d) (h2 : Dp K H y d) (s : Sh n d) (q : Q (.bl false) H) (l : n ≤ 64 := by decide) : rNeD K x y H Q := ⟨d, d, h1, h2, s.ok l, s.ok l, by rw [SeqAt.eqv_refl d s.1]; exact q⟩
theorem g_eqSame {n : Nat} (h1 : Dp K H x d) (h2 : Dp K H y d) (s : Sh n d) (q : Q (.bl true) H) (l : n ≤ 64 := by decide) : rEqD K x y H Q := ⟨d, d, h1, h2, s.ok l, s.ok l, by rw [SeqAt.eqv_refl d s.1]; exact q⟩
/-- a list of ints against a fresh empty list -/
theorem eqv_nil (ds : List PyData) : PyData.eqv (.list ds) (.list []) = decide (ds = []) := by
  cases ds <;> simp [PyData.eqv, PyData.eqvAll]
theorem g_neE {a b : Addr} {n : Nat} {xs : List V} (h : SqL K H a xs) (hd : DpAll K H xs ds) (s : Sh n (.list ds)) (hb : SqL K H b []) (q : Q (.bl (!decide (ds = []))) H) (l : n ≤ 64 := by decide) : rNeD K (.ref a) (.ref b) H Q :=
  ⟨_, _, .lst h hd, .lst hb .nil, s.ok l, rfl, by rw [eqv_nil]; exact q⟩
theorem g_eqE {a b : Addr} {n : Nat} {xs : List V} (h : SqL K H a xs) (hd : DpAll K H xs ds) (s : Sh n (.list ds)) (hb : SqL K H b []) (q : Q (.bl (decide (ds = []))) H) (l : n ≤ 64 := by decide) : rEqD K (.ref a) (.ref b) H Q :=
  ⟨_, _, .lst h hd, .lst hb .nil, s.ok l, rfl, by rw [eqv_nil]; exact q⟩
/-- a cell of a table -/
theorem td_row {T : V} {t : List (List Rat)} {i : Nat} {row : List Rat} (h : Dp K H T (TD t)) (hr : t[i]? = some row) : ∃ a xs r, T = .ref a ∧ SqL K H a xs ∧ xs[i]? = some (.ref r) ∧ ∃ vs, SqL K H r vs ∧ Frs K H vs row := by
  obtain ⟨a, xs, rfl, hs, hd⟩ := Dp.lstI h
  obtain ⟨v, hv, hdv⟩ := DpAll.get hd (i := i) (d := FL row) (by rw [List.getElem?_map, hr]; rfl)
  obtain ⟨r, vs, rfl, hs2, hd2⟩ := Dp.lstI hdv
  exact ⟨a, xs, r, rfl, hs, hv, vs, hs2, frs_dp hd2⟩
/-- what is never called -/
def spNever : Sp := fun _ _ _ _ => False
theorem never_ok {P : Program} {w : World} {mg : Str → Option Value} {base : Heap} {k : Nat} {f : Addr} {fd : FuncData} {ps : List Str} : FnOk P w K mg base CX0 k f fd ps spNever :=
  ⟨fun _ _ _ _ h => h.elim, fun _ _ _ _ _ _ _ _ _ _ _ _ _ h => h.elim⟩
end
theorem same_mut {H H' : Hp} {p : Addr} {o : HO} (e : Same H H') (h : H p = none) : Same H (upd H' p o) := fun b u hb => by
  rw [upd_ne (ne_of_none hb h)]
  exact e b u hb
/-! ### tables by places -/
def at2 (t : List (List Rat)) (i j : Nat) : Rat := (t.getD i []).getD j 0
structure Sqr (b n : Nat) (t : List (List Rat)) : Prop where
  len : t.length = n
  row : ∀ r ∈ t, r.length = n
  bd : ∀ r ∈ t, ∀ x ∈ r, Bd b x
theorem Sqr.at {b n : Nat} {t : List (List Rat)} (s : Sqr b n t) {i j : Nat} (hi : i < n) (hj : j < n) : ∃ r, t[i]? = some r ∧ r[j]? = some (at2 t i j) ∧ Bd b (at2 t i j) := by
  have h1 : i < t.length := by rw [s.len]; exact hi
  have e1 : t[i]? = some t[i] := List.getElem?_eq_getElem h1
  have h2 : j < t[i].length := by rw [s.row _ (List.getElem_mem h1)]; exact hj
  have e2 : t[i][j]? = some t[i][j] := List.getElem?_eq_getElem h2
  have e3 : at2 t i j = t[i][j] := by
    unfold at2
    rw [show t.getD i [] = t[i] by rw [List.getD_eq_getElem?_getD, e1, Option.getD_some], List.getD_eq_getElem?_getD, e2, Option.getD_some]
  exact ⟨t[i], e1, by rw [e3]; exact e2, by rw [e3]; exact s.bd _ (List.getElem_mem h1) _ (List.getElem_mem h2)⟩
/-- a cell's way: the row's place, the cell's place -/
theorem td_at {K : PySem.W.Frag} {H : Hp} {T : V} {b n : Nat} {t : List (List Rat)} (h : Dp K H T (TD t)) (s : Sqr b n t) : ∃ a xs, T = .ref a ∧ SqL K H a xs ∧ xs.length = n ∧
    ∀ i, i < n → ∃ r vs, xs[i]? = some (.ref r) ∧ SqL K H r vs ∧ vs.length = n ∧ ∀ j, j < n → ∃ c, vs[j]? = some (.ref c) ∧ Fr K H c (at2 t i j) := by
  obtain ⟨a, xs, rfl, hs, hd⟩ := Dp.lstI h
  refine ⟨a, xs, rfl, hs, by rw [DpAll.len hd, List.length_map, s.len], fun i hi => ?_⟩
  have h1 : i < t.length := by rw [s.len]; exact hi
  have e1 : t[i]? = some t[i] := List.getElem?_eq_getElem h1
  obtain ⟨v, hv, hdv⟩ := DpAll.get hd (i := i) (d := FL t[i]) (by rw [List.getElem?_map, e1]; rfl)
  obtain ⟨r, vs, rfl, hs2, hd2⟩ := Dp.lstI hdv
  have fr := frs_dp hd2
  refine ⟨r, vs, hv, hs2, by rw [fr.len, s.row _ (List.getElem_mem h1)], fun j hj => ?_⟩
  obtain ⟨r', e2, e3, _⟩ := s.at hi hj
  rw [e1] at e2
  cases e2
  exact fr.at e3
def ab (x : Rat) : Rat := if x < 0 then -x else x
theorem ab_num (x : Rat) : x.num < 0 ↔ x < 0 := by
  rw [Rat.lt_iff]
  show _ ↔ x.num * ((1 : Nat) : Int) < (0 : Int) * (x.den : Int)
  rw [Int.zero_mul, Int.natCast_one, Int.mul_one]
theorem range_snoc {α : Type} (f : Nat → α) (i : Nat) : (List.range (i + 1)).map f = (List.range i).map f ++ [f i] := by
  rw [List.range_succ, List.map_append]; rfl
/-! ### a list under way, and all that does not hang on it -/
section
variable {K : PySem.W.Frag} {H H' : Hp} {L a : Addr} {o : HO} {xs : List V}
theorem same_del : Same (delH H L) H := fun b u e => by
  by_cases z : b = L
  · rw [z, delH_same] at e; cases e
  · rw [delH_ne z] at e; exact e
theorem del_mono (s : Same H H') : Same (delH H L) (delH H' L) := fun b u e => by
  by_cases z : b = L
  · rw [z, delH_same] at e; cases e
  · rw [delH_ne z] at e ⊢; exact s b u e
theorem del_upd : Same (delH H L) (delH (upd H L o) L) := fun b u e => by
  by_cases z : b = L
  · rw [z, delH_same] at e; cases e
  · rw [delH_ne z] at e ⊢; rw [upd_ne z]; exact e
theorem to_del (s : Same H H') (n : H L = none) : Same H (delH H' L) := fun b u e => by
  rw [delH_ne (ne_of_none e n)]; exact s b u e
theorem ts_del (e : H L = some (.lst xs)) : TS K H (delH H L) := fun c ys h => by
  rcases h with (h | ⟨u, h⟩) | h
  · exact .inl (.inl (by rw [delH_ne (ne_of h e (by intro z; cases z))]; exact h))
  · exact .inl (.inr ⟨u, by rw [delH_ne (ne_of h e (by intro z; cases z))]; exact h⟩)
  · exact .inr h
theorem sql_del {ys : List V} (h : H a = some (.lst ys)) (n : a ≠ L) : SqL K (delH H L) a ys := SqL.of (by rw [delH_ne n]; exact h)
/-- a fresh list of fractions, beside L -/
theorem fl_del {ys : List V} {qs : List Rat} (e : H L = some (.lst xs)) (h : H a = some (.lst ys)) (n : a ≠ L) (f : Frs K H ys qs) : Dp K (delH H L) (.ref a) (FL qs) := .lst (sql_del h n) (Frs.dp (Frs.ts (ts_del e) f))
theorem lcd_list {σ : L2.St} {g : TG} {te : TE} {vs : List Nat} {Qd : Hp → Prop} (e : Nat → PyData) (hs : SqL K H a xs) (nL : H L = none) (sz : xs.length < 100000)
    (turn : ∀ i x H' (R : VK), xs[i]? = some x → Same H H' → (∃ acc, H' L = some (.lst acc)) → (∀ y H4, Same H' H4 → Dp K (delH H4 L) y (e i) → R y H4) → g x (wipe σ vs) H' fun σ2 H2 => wipe σ2 vs = wipe σ vs ∧ te σ2 H2 R)
    (done : ∀ ws H', H' L = some (.lst ws) → Same H H' → DpAll K (delH H' L) ws ((List.range xs.length).map e) → Qd H') : LoopC (Itl K a) g tYes te vs L σ Qd H := by
  refine lcl_list (K := K) (a := a) (xs := xs) (fun i H' => ∃ ws, H' L = some (.lst ws) ∧ Same H H' ∧ DpAll K (delH H' L) ws ((List.range i).map e)) ⟨[], upd_same, same_new nL, .nil⟩ (fun i H' _ ⟨_, _, s1, _⟩ => sqL_same s1 hs) ?_ (fun H' ⟨ws, h1, h2, h3⟩ => done ws H' h1 h2 h3)
  rintro i x H' hx ⟨ws, h1, h2, h3⟩
  have hi : i < xs.length := (List.getElem?_eq_some_iff.mp hx).1
  have := turn i x H' (fun y H4 => ∃ acc, H4 L = some (.lst acc) ∧ acc.length < sizeLine ∧ ∃ ws, upd H4 L (.lst (acc ++ [y])) L = some (.lst ws) ∧ Same H (upd H4 L (.lst (acc ++ [y]))) ∧ DpAll K (delH (upd H4 L (.lst (acc ++ [y]))) L) ws ((List.range (i + 1)).map e)) hx h2 ⟨ws, h1⟩ (fun y H4 s4 d4 => by
    refine ⟨ws, s4 _ _ h1, sz_lt (by rw [DpAll.len h3, List.length_map, List.length_range]; omega), ws ++ [y], upd_same, same_mut (h2.trans s4) nL, ?_⟩
    rw [range_snoc]
    exact DpAll.sm (DpAll.snoc (DpAll.sm h3 (del_mono s4)) d4) del_upd)
  exact this
theorem lcd_range {lo : Int} {n : Nat} {σ : L2.St} {g : TG} {te : TE} {vs : List Nat} {Qd : Hp → Prop} (e : Nat → PyData) (nL : H L = none) (sz : n < 100000)
    (turn : ∀ (i : Nat) H' (R : VK), i < n → Same H H' → (∃ acc, H' L = some (.lst acc)) → (∀ y H4, Same H' H4 → Dp K (delH H4 L) y (e i) → R y H4) → g (.int (lo + i)) (wipe σ vs) H' fun σ2 H2 => wipe σ2 vs = wipe σ vs ∧ te σ2 H2 R)
    (done : ∀ ws H', H' L = some (.lst ws) → Same H H' → DpAll K (delH H' L) ws ((List.range n).map e) → Qd H') : LoopC (Itr lo n) g tYes te vs L σ Qd H := by
  refine lcl_range (fun i H' => ∃ ws, H' L = some (.lst ws) ∧ Same H H' ∧ DpAll K (delH H' L) ws ((List.range i).map e)) ⟨[], upd_same, same_new nL, .nil⟩ ?_ (fun H' ⟨ws, h1, h2, h3⟩ => done ws H' h1 h2 h3)
  rintro i H' hi ⟨ws, h1, h2, h3⟩
  have := turn i H' (fun y H4 => ∃ acc, H4 L = some (.lst acc) ∧ acc.length < sizeLine ∧ ∃ ws, upd H4 L (.lst (acc ++ [y])) L = some (.lst ws) ∧ Same H (upd H4 L (.lst (acc ++ [y]))) ∧ DpAll K (delH (upd H4 L (.lst (acc ++ [y]))) L) ws ((List.range (i + 1)).map e)) hi h2 ⟨ws, h1⟩ (fun y H4 s4 d4 => by
    refine ⟨ws, s4 _ _ h1, sz_lt (by rw [DpAll.len h3, List.length_map, List.length_range]; omega), ws ++ [y], upd_same, same_mut (h2.trans s4) nL, ?_⟩
    rw [range_snoc]
    exact DpAll.sm (DpAll.snoc (DpAll.sm h3 (del_mono s4)) d4) del_upd)
  exact this
theorem int_dp : ∀ {vs : List V} {ns : List Int}, DpAll K H vs (ns.map PyData.int) → vs = ns.map V.int
  | _, [], h => by cases h; rfl
  | _, n :: ns, h => by
    cases h with
    | cons h1 h2 => cases h1; rw [int_dp h2]; rfl
theorem range_at {α β : Type} (f : α → β) (xs : List α) (d : α) : (List.range xs.length).map (fun i => f (xs.getD i d)) = xs.map f := by
  apply List.ext_getElem
  · simp
  · intro i h1 h2
    simp only [List.getElem_map, List.getElem_range]
    rw [List.getD_eq_getElem?_getD, List.getElem?_eq_getElem (by simpa using h1)]
    rfl
end
/-! ### a deck -/
/-- a deck: a list of one number -/
def Deck (H : Hp) (p : Addr) : Prop := ∃ a : Int, H p = some (.lst [.int a])
theorem Deck.same {H H' : Hp} {p : Addr} (h : Deck H p) (s : Same H H') : Deck H' p := by
  obtain ⟨a, e⟩ := h
  exact ⟨a, s _ _ e⟩
theorem Deck.new {H : Hp} {p q : Addr} {o : HO} (h : Deck H p) (s : H q = none) : Deck (upd H q o) p := h.same (same_new s)
theorem deck_ne {H : Hp} {p l : Addr} (h : Deck H p) (e : H l = none) : l ≠ p := fun z => by
  obtain ⟨a, e2⟩ := h
  rw [← z, e] at e2; cases e2
theorem sqT_deck {K : PySem.W.Frag} {H H' : Hp} {p a : Addr} {xs : List V} (b : But p H H') (e : Deck H p) (h : SqT K H a xs) : SqT K H' a xs := by
  obtain ⟨z, e⟩ := e
  exact sqT_but b e h
theorem ts_deck {K : PySem.W.Frag} {H H' : Hp} {p : Addr} (b : But p H H') (e : Deck H p) : TS K H H' := fun _ _ h => sqT_deck b e h
def sp_dtake (K : PySem.W.Frag) : Sp := fun vs H Q _ => ∃ (p : Addr) (m : Int), vs = [.ref p, .int m] ∧ Deck H p ∧ 0 < m ∧ m.natAbs < 2 ^ 8500 ∧ ∀ r H', 0 ≤ r → r < m → But p H H' → Deck H' p → Q (.int r) H'
/-! ### sorted of data -/
/-- items with their data, sorted by these, stable -/
def sortD (xs : List V) (ds : List PyData) : List (V × PyData) := (xs.zip ds).mergeSort (PySem.W.dataLe false Prod.snd)
def rSortedD (K : PySem.W.Frag) : List V → Hp → VK → Prop := fun vs H Q => ∃ (a : Addr) (xs : List V) (ds : List PyData), vs = [V.ref a] ∧ SqL K H a xs ∧ DpAll K H xs ds ∧ PySem.W.AllAlike ds ∧ PySem.W.Sortable ds ∧ (∀ d ∈ ds, d.depth ≤ 50) ∧
  ∀ p : Addr, H p = none → Q (.ref p) (upd H p (.lst ((sortD xs ds).map Prod.fst)))
theorem each_in {K : PySem.W.Frag} {H : Hp} : ∀ {xs : List V} {us : List Value} {ds : List PyData}, Vals xs us → DpAll K H xs ds → PySem.W.EachIs (fun u (b : V × PyData) => RelV b.1 u ∧ Dp K H b.1 b.2) us (xs.zip ds)
  | _, _, _, .nil, .nil => .nil
  | _, _, _, .cons r rs, .cons h hs => .cons ⟨r, h⟩ (each_in rs hs)
theorem each_out {K : PySem.W.Frag} {H : Hp} : ∀ {us : List Value} {bs : List (V × PyData)}, PySem.W.EachIs (fun u (b : V × PyData) => RelV b.1 u ∧ Dp K H b.1 b.2) us bs → Vals (bs.map Prod.fst) us
  | _, _, .nil => .nil
  | _, _, .cons ⟨r, _⟩ t => .cons r (each_out t)
theorem each_reads {X : Cx} {pins : List (Addr × Obj)} {σ : L2.St} {H : Hp} {s : Shared} (I : Inv X pins σ H s) : ∀ {us : List Value} {bs : List (V × PyData)}, PySem.W.EachIs (fun u (b : V × PyData) => RelV b.1 u ∧ Dp X.K H b.1 b.2) us bs → PySem.W.EachIs (fun u (b : V × PyData) => ∃ as, Reads s.heap u (Prod.snd b) as) us bs
  | _, _, .nil => .nil
  | _, _, .cons ⟨r, h⟩ t => .cons (Dp.reads I _ _ _ h r) (each_reads I t)
theorem zip_snd {α β : Type} : ∀ {xs : List α} {ds : List β}, xs.length = ds.length → (xs.zip ds).map Prod.snd = ds
  | [], [], _ => rfl
  | _ :: xs, _ :: ds, h => by
    have e := zip_snd (xs := xs) (ds := ds) (by simpa using h)
    rw [List.zip_cons_cons, List.map_cons, e]
theorem zip_fst {α β : Type} : ∀ {xs : List α} {ds : List β}, xs.length = ds.length → (xs.zip ds).map Prod.fst = xs
  | [], [], _ => rfl
  | _ :: xs, _ :: ds, h => by
    have e := zip_fst (xs := xs) (ds := ds) (by simpa using h)
    rw [List.zip_cons_cons, List.map_cons, e]
theorem sortD_perm (xs : List V) (ds : List PyData) : (sortD xs ds).Perm (xs.zip ds) := List.mergeSort_perm _ _
theorem sortD_len {xs : List V} {ds : List PyData} (h : xs.length = ds.length) : (sortD xs ds).length = xs.length := by
  rw [(sortD_perm xs ds).length_eq, List.length_zip, h, Nat.min_self]
theorem cr_sortedD {X : Cx} (hu : X.A.units + 64 < cLine) : CallR X (.builtin "sorted") (rSortedD X.K) := by
  intro pins s σ H vs us Q I r h
  obtain ⟨a, xs, ds, rfl, hs, hd, hal, hk, hdp, q⟩ := h
  obtain ⟨its, rv, hl, hz⟩ := I.list hs
  rw [Vals.ref1 r]
  have e := each_in rv hd
  have ld : xs.length = ds.length := DpAll.len hd
  refine PySem.W.sorted_data (enc := Prod.snd) (bs := xs.zip ds) hl.isList e (each_reads I e) (by rw [zip_snd ld]; exact hal) (by rw [zip_snd ld]; exact hk) (by rw [List.length_zip, ← ld, Nat.min_self]; exact hz) (fun b hm => ?_) fun out hlen ho => ?_
  · have := hdp b.2 (List.of_mem_zip hm).2
    show X.A.units + 2 + b.2.depth < cLine
    omega
  · obtain ⟨ep, he'⟩ := PyProof.Rows.sortedAll_at s.heap its out.toArray
    exact ⟨.ref _, upd H (s.heap.objs.size + 1) (.lst ((sortD xs ds).map Prod.fst)), I.laid (t' := s.toks) (fun _ _ => PyProof.Rows.sortedAll_old) (Nat.le_succ _) ⟨by rw [List.length_map, sortD_len ld]; exact hz, out, ep, each_out ho, he'⟩, rfl, q _ (I.hok.fresh (Nat.le_succ _))⟩
theorem k_sortedD {X : Cx} {K : PySem.W.Frag} (hu : X.A.units + 64 < cLine) (h : X.K = K := by rfl) : CallR X (.builtin "sorted") (rSortedD K) := by subst h; exact cr_sortedD hu
/-- what is sorted stays -/
theorem sortD_id {xs : List V} {ds : List PyData} (h : ds.Pairwise fun a b => PySem.W.dataLe false id a b = true) (l : xs.length = ds.length) : (sortD xs ds).map Prod.fst = xs := by
  unfold sortD
  rw [List.mergeSort_of_pairwise, zip_fst l]
  have : ((xs.zip ds).map Prod.snd).Pairwise fun a b => PySem.W.dataLe false id a b = true := by rw [zip_snd l]; exact h
  exact List.pairwise_map.mp this
/-! ### all cuts, in order -/
def cutsL : Nat → Nat → List (List Int)
  | 0, _ => []
  | k + 1, p => [[(p : Int)]] ++ (cutsL k (p + 1)).map (fun c => (p : Int) :: c) ++ cutsL k (p + 1)
theorem cutsL_head : ∀ {k p : Nat} {c : List Int}, c ∈ cutsL k p → ∃ z r, c = z :: r ∧ (p : Int) ≤ z
  | k + 1, p, c, h => by
    unfold cutsL at h
    rcases List.mem_append.mp h with h | h
    · rcases List.mem_append.mp h with h | h
      · rw [List.mem_singleton.mp h]; exact ⟨_, _, rfl, Int.le_refl _⟩
      · obtain ⟨x, _, rfl⟩ := List.mem_map.mp h
        exact ⟨_, _, rfl, Int.le_refl _⟩
    · obtain ⟨z, r, e, hz⟩ := cutsL_head h
      exact ⟨z, r, e, by omega⟩
theorem cutsL_sorted : ∀ k p : Nat, (cutsL k p).Pairwise (· < ·)
  | 0, _ => .nil
  | k + 1, p => by
    have ih := cutsL_sorted k (p + 1)
    unfold cutsL
    rw [List.pairwise_append]
    refine ⟨?_, ih, fun a ha b hb => ?_⟩
    · rw [List.singleton_append, List.pairwise_cons]
      refine ⟨fun b hb => ?_, ?_⟩
      · obtain ⟨c, hc, rfl⟩ := List.mem_map.mp hb
        obtain ⟨z, r, rfl, _⟩ := cutsL_head hc
        rw [List.cons_lt_cons_iff]
        exact .inr ⟨rfl, List.nil_lt_cons _ _⟩
      · rw [List.pairwise_map]
        exact ih.imp fun h => by rw [List.cons_lt_cons_iff]; exact .inr ⟨rfl, h⟩
    · obtain ⟨z, r, rfl, hz⟩ := cutsL_head hb
      have ha' : ∃ s, a = (p : Int) :: s := by
        rcases List.mem_append.mp ha with h | h
        · rw [List.mem_singleton.mp h]; exact ⟨_, rfl⟩
        · obtain ⟨x, _, rfl⟩ := List.mem_map.mp h
          exact ⟨_, rfl⟩
      obtain ⟨s, rfl⟩ := ha'
      rw [List.cons_lt_cons_iff]
      exact .inl (by omega)
theorem cutsL_len : ∀ k p : Nat, (cutsL k p).length + 1 = 2 ^ k
  | 0, _ => rfl
  | k + 1, p => by
    have := cutsL_len k (p + 1)
    unfold cutsL
    rw [List.length_append, List.length_append, List.length_map, List.length_singleton, Nat.pow_succ]
    omega
theorem dataLe_il {a b : List Int} (h : a < b) : PySem.W.dataLe false id (IL a) (IL b) = true := by
  have := PySem.W.dataLe_rows (fun x : List Int => x)
  have e := congrFun (congrFun this a) b
  show PySem.W.dataLe false (fun x : List Int => PyData.list (x.map PyData.int)) a b = true
  rw [e]
  exact decide_eq_true (List.le_of_lt h)
theorem cuts_sortable {css : List (List Int)} : PySem.W.Sortable (css.map IL) := PySem.W.Sortable.others fun b => ⟨nofun, fun _ => nofun⟩
theorem cuts_alike {css : List (List Int)} : PySem.W.AllAlike (css.map IL) := PySem.W.AllAlike.of fun b b' => by
  show PySem.W.alikeAll _ _ = true
  exact PySem.W.alike_ints b b'
/-- lists of ints, each its own -/
def LLs (H : Hp) : List Addr → List (List Int) → Prop
  | [], [] => True
  | r :: rs, c :: cs => H r = some (.lst (c.map V.int)) ∧ LLs H rs cs
  | _, _ => False
theorem LLs.same {H H' : Hp} (s : Same H H') : ∀ {rs : List Addr} {cs : List (List Int)}, LLs H rs cs → LLs H' rs cs
  | [], [], _ => True.intro
  | _ :: _, _ :: _, ⟨h, t⟩ => ⟨s _ _ h, LLs.same s t⟩
  | [], _ :: _, h => h.elim
  | _ :: _, [], h => h.elim
theorem LLs.upd {H : Hp} {L : Addr} {o : HO} : ∀ {rs : List Addr} {cs : List (List Int)}, L ∉ rs → LLs H rs cs → LLs (upd H L o) rs cs
  | [], [], _, _ => True.intro
  | r :: _, _ :: _, n, ⟨h, t⟩ => ⟨by rw [upd_ne (fun z => n (by rw [← z]; exact List.mem_cons_self))]; exact h, LLs.upd (fun z => n (List.mem_cons_of_mem _ z)) t⟩
  | [], _ :: _, _, h => h.elim
  | _ :: _, [], _, h => h.elim
theorem LLs.app {H : Hp} : ∀ {rs ss : List Addr} {cs ds : List (List Int)}, LLs H rs cs → LLs H ss ds → LLs H (rs ++ ss) (cs ++ ds)
  | [], _, [], _, _, h => h
  | _ :: _, _, _ :: _, _, ⟨h, t⟩, g => ⟨h, LLs.app t g⟩
  | [], _, _ :: _, _, h, _ => h.elim
  | _ :: _, _, [], _, h, _ => h.elim
theorem LLs.len {H : Hp} : ∀ {rs : List Addr} {cs : List (List Int)}, LLs H rs cs → rs.length = cs.length
  | [], [], _ => rfl
  | _ :: _, _ :: _, ⟨_, t⟩ => by rw [List.length_cons, List.length_cons, LLs.len t]
  | [], _ :: _, h => h.elim
  | _ :: _, [], h => h.elim
theorem LLs.get {H : Hp} : ∀ {rs : List Addr} {cs : List (List Int)} {i : Nat} {r : Addr}, LLs H rs cs → rs[i]? = some r → ∃ c, cs[i]? = some c ∧ H r = some (.lst (c.map V.int))
  | [], [], _, _, _, h => by simp at h
  | _ :: _, _ :: _, 0, _, ⟨h, _⟩, e => by cases e; exact ⟨_, rfl, h⟩
  | _ :: _, _ :: _, i + 1, _, ⟨_, t⟩, e => LLs.get (i := i) t e
  | [], _ :: _, _, _, h, _ => h.elim
  | _ :: _, [], _, _, h, _ => h.elim
theorem LLs.dp {K : PySem.W.Frag} {H : Hp} : ∀ {rs : List Addr} {cs : List (List Int)}, LLs H rs cs → DpAll K H (rs.map V.ref) (cs.map IL)
  | [], [], _ => .nil
  | _ :: _, _ :: _, ⟨h, t⟩ => .cons (IL_dp (SqL.of h)) (LLs.dp t)
  | [], _ :: _, h => h.elim
  | _ :: _, [], h => h.elim
theorem loop_rangeC {lo c : Int} {n : Nat} {g : L2.TG} {tb : L2.TS} {D : Ends} {σ : L2.St} {H : Hp} (Pv : Nat → L2.St → Hp → Prop) (h0 : Pv 0 σ H)
    (hs : ∀ i σ H, i < n → Pv i σ H → g (.int (lo + (i : Nat) * c)) σ H fun σ2 H2 => tb { D with nx := Pv (i + 1), ct := Pv (i + 1), bk := D.nx } σ2 H2) (hd : ∀ σ H, Pv n σ H → D.nx σ H) : LoopF (Itc lo c n) g tb D σ H := for_rangeC Pv h0 hs hd
def rng3 (R : It → Hp → Prop) (vs : List V) (H : Hp) : Prop := ∃ (i j c : Int) (n : Nat), vs = [.int i, .int j, .int c] ∧ RgC i j c n ∧ R (Itc i c n) H
instance {σ : L2.St} {H : Hp} {ta : TA} {R : It → Hp → Prop} : St1 (iRng3 ta σ H R) (ta σ H (rng3 R)) := ⟨fun h => h⟩
theorem g_rng3d {H : Hp} {i j : Int} {R : It → Hp → Prop} (h : -(2 ^ 62) ≤ i ∧ i < 2 ^ 62 ∧ -(2 ^ 62) ≤ j ∧ j < 2 ^ 62) (q : R (Itc i (-1) (i - j).toNat) H) : rng3 R [.int i, .int j, .int (-1)] H := ⟨i, j, -1, _, rfl, RgC.neg h.1 h.2.1 h.2.2.1 h.2.2.2, q⟩
theorem nd_app {a b : List Addr} (h1 : a.Nodup) (h2 : b.Nodup) (h : ∀ x ∈ a, x ∉ b) : (a ++ b).Nodup := List.nodup_append.mpr ⟨h1, h2, fun x hx y hy e => h x hx (e ▸ hy)⟩
theorem ll_keep {H H' : Hp} {rs : List Addr} {cs : List (List Int)} (k : ∀ r ∈ rs, ∀ o, H r = some o → H' r = some o) (h : LLs H rs cs) : LLs H' rs cs := by
  induction rs generalizing cs with
  | nil => cases cs <;> exact h
  | cons r rs ih =>
    cases cs with
    | nil => exact h
    | cons c cs => exact ⟨k r List.mem_cons_self _ h.1, ih (fun x hx => k x (List.mem_cons_of_mem _ hx)) h.2⟩
theorem take_snoc {α : Type} {l : List α} {i : Nat} {x : α} (h : l[i]? = some x) : l.take (i + 1) = l.take i ++ [x] := by
  rw [List.take_add_one, h]; rfl
theorem cutsL_el : ∀ {k p : Nat} {c : List Int}, c ∈ cutsL k p → c.length ≤ k
  | k + 1, p, c, h => by
    unfold cutsL at h
    rcases List.mem_append.mp h with h | h
    · rcases List.mem_append.mp h with h | h
      · rw [List.mem_singleton.mp h]; simp
      · obtain ⟨x, hx, rfl⟩ := List.mem_map.mp h
        have := cutsL_el hx
        rw [List.length_cons]; omega
    · have := cutsL_el h
      omega
theorem il_depth {d : PyData} {css : List (List Int)} (h : d ∈ css.map IL) : d.depth ≤ 50 := by
  obtain ⟨c, _, rfl⟩ := List.mem_map.mp h
  exact Nat.le_trans Sh.il.2 (by decide)
theorem cutsL_pair {k p : Nat} : ((cutsL k p).map IL).Pairwise fun a b => PySem.W.dataLe false id a b = true := by
  rw [List.pairwise_map]
  exact (cutsL_sorted k p).imp dataLe_il
/-! a cut and all that begin with it; a pile of such, the top last -/
def lastN (c : List Int) : Nat := (c.getLastD 0).toNat
def begun (n : Nat) (c : List Int) : List (List Int) := [c] ++ (cutsL (n - 1 - lastN c) (lastN c + 1)).map (c ++ ·)
def pileR (n : Nat) (ps : List (List Int)) : List (List Int) := (ps.reverse.map (begun n)).flatten
theorem pileR_snoc (n : Nat) (ps : List (List Int)) (c : List Int) : pileR n (ps ++ [c]) = begun n c ++ pileR n ps := by
  unfold pileR
  rw [List.reverse_append, List.map_append]
  rfl
theorem pileR_app (n : Nat) (ps qs : List (List Int)) : pileR n (ps ++ qs) = pileR n qs ++ pileR n ps := by
  unfold pileR
  rw [List.reverse_append, List.map_append, List.flatten_append]
theorem lastN_snoc (c : List Int) (q : Nat) : lastN (c ++ [(q : Int)]) = q := by
  unfold lastN
  rw [List.getLastD_eq_getLast?, List.getLast?_concat]
  rfl
/-- the longer ones by one point, from the greatest point down, come to all that begin with c and are longer -/
theorem pileR_longer (n : Nat) (c : List Int) : ∀ (k p : Nat), p + k = n → pileR n ((List.range k).map fun i => c ++ [((n - 1 - i : Nat) : Int)]) = (cutsL k p).map (c ++ ·)
  | 0, _, _ => rfl
  | k + 1, p, h => by
    have ih := pileR_longer n c k (p + 1) (by omega)
    rw [range_snoc, pileR_snoc, ih]
    have e : n - 1 - k = p := by omega
    rw [e]
    unfold begun
    rw [lastN_snoc, show n - 1 - p = k by omega, show cutsL (k + 1) p = [[(p : Int)]] ++ (cutsL k (p + 1)).map (fun c => (p : Int) :: c) ++ cutsL k (p + 1) from rfl, List.map_append, List.map_append, List.map_map]
    congr 2
    apply List.map_congr_left
    intro x _
    simp
theorem pileR_first (n : Nat) (h : 1 ≤ n) : pileR n ((List.range (n - 1)).map fun i => [((n - 1 - i : Nat) : Int)]) = cutsL (n - 1) 1 := by
  have := pileR_longer n [] (n - 1) 1 (by omega)
  rw [show (fun x : List Int => [] ++ x) = id from funext fun x => List.nil_append x, List.map_id] at this
  exact this
theorem begun_len (n : Nat) (c : List Int) : 1 ≤ (begun n c).length := by
  unfold begun
  rw [List.length_append]
  show 1 ≤ 1 + _
  omega
theorem lcl_rangeC {lo st : Int} {n : Nat} {σ : L2.St} {H : Hp} {g : L2.TG} {tt : TT} {te : TE} {vs : List Nat} {L : Addr} {Qd : Hp → Prop} (Pv : Nat → Hp → Prop) (h0 : Pv 0 (upd H L (.lst [])))
    (turn : ∀ i G, i < n → Pv i G → g (.int (lo + (i : Nat) * st)) (wipe σ vs) G fun σ2 H2 => wipe σ2 vs = wipe σ vs ∧ tt σ2 H2 fun b H3 =>
      if b = true then te σ2 H3 fun y H4 => ∃ acc, H4 L = some (.lst acc) ∧ acc.length < sizeLine ∧ Pv (i + 1) (upd H4 L (.lst (acc ++ [y]))) else Pv (i + 1) H3) (done : ∀ G, Pv n G → Qd G) : LoopC (Itc lo st n) g tt te vs L σ Qd H := by
  refine ⟨fun i left G => left + i = n ∧ Pv i G, ⟨n, Nat.add_zero n, h0⟩, ?_⟩
  rintro i left G ⟨e, p⟩
  rcases Nat.lt_or_ge i n with lt | ge
  · refine Or.inr ⟨lt, Pv (i + 1), fun G' p' => ⟨left - 1, by omega, by omega, p'⟩, ?_⟩
    rintro x G' ⟨rfl, rfl⟩
    exact turn i _ lt p
  · obtain rfl : i = n := by omega
    exact Or.inl ⟨ge, done G p⟩
theorem g_while {c : TT} {tb : L2.TS} {D : Ends} {σ : L2.St} {H : Hp} (W : Nat → L2.St → Hp → Prop) (h0 : ∃ m, W m σ H) (turn : ∀ m σ G, W m σ G → c σ G fun b H1 => if b = true then
    ∃ N : L2.St → Hp → Prop, (∀ σ' H', N σ' H' → ∃ m', m' < m ∧ W m' σ' H') ∧ tb { D with nx := N, ct := N, bk := D.nx } σ H1 else D.nx σ H1) : tWhile c tb D σ H := ⟨W, h0, turn⟩
theorem LLs.snoc {H : Hp} {rs : List Addr} {cs : List (List Int)} {r : Addr} {c : List Int} (h : LLs H rs cs) (e : H r = some (.lst (c.map V.int))) : LLs H (rs ++ [r]) (cs ++ [c]) := LLs.app h ⟨e, True.intro⟩
theorem LLs.unsnoc {H : Hp} : ∀ {rs : List Addr} {cs : List (List Int)} {r : Addr}, LLs H (rs ++ [r]) cs → ∃ ds c, cs = ds ++ [c] ∧ LLs H rs ds ∧ H r = some (.lst (c.map V.int))
  | [], [c], r, ⟨h, _⟩ => ⟨[], c, rfl, True.intro, h⟩
  | [], _ :: _ :: _, _, ⟨_, h⟩ => h.elim
  | [], [], _, h => h.elim
  | _ :: rs, [], _, h => h.elim
  | _ :: rs, d :: cs, r, ⟨h, t⟩ => by
    obtain ⟨ds, c, rfl, h1, h2⟩ := LLs.unsnoc (rs := rs) t
    exact ⟨d :: ds, c, rfl, ⟨h, h1⟩, h2⟩
theorem pileR_ge (n : Nat) : ∀ ps : List (List Int), ps.length ≤ (pileR n ps).length := fun ps => by
  unfold pileR
  rw [← List.length_reverse (as := ps)]
  generalize ps.reverse = qs
  induction qs with
  | nil => exact Nat.zero_le _
  | cons c qs ih =>
    rw [List.map_cons, List.flatten_cons, List.length_append, List.length_cons]
    have := begun_len n c
    omega
/-! ### data of any depth, its lists standing by themselves -/
mutual
inductive Dq (K : PySem.W.Frag) (H : Hp) : V → PyData → Prop
  | non : Dq K H .non .none
  | bl (b : Bool) : Dq K H (.bl b) (.bool b)
  | int (i : Int) : Dq K H (.int i) (.int i)
  | str (x : Str) : Dq K H (.str x) (.str x)
  | lst {a : Addr} {xs : List V} {ds : List PyData} : H a = some (.lst xs) → DqAll K H xs ds → Dq K H (.ref a) (.list ds)
  | tup {a : Addr} {xs : List V} {ds : List PyData} : SqT K H a xs → DqAll K H xs ds → Dq K H (.ref a) (.tuple ds)
inductive DqAll (K : PySem.W.Frag) (H : Hp) : List V → List PyData → Prop
  | nil : DqAll K H [] []
  | cons {v : V} {vs : List V} {d : PyData} {ds : List PyData} : Dq K H v d → DqAll K H vs ds → DqAll K H (v :: vs) (d :: ds)
end
mutual
theorem dq_same {K : PySem.W.Frag} {H H' : Hp} (s : Same H H') : ∀ (d : PyData) (v : V), Dq K H v d → Dq K H' v d
  | .none, _, h => by cases h; exact .non
  | .bool b, _, h => by cases h; exact .bl b
  | .int i, _, h => by cases h; exact .int i
  | .str x, _, h => by cases h; exact .str x
  | .list ds, _, h => by
    cases h with
    | lst h1 h2 => exact .lst (s _ _ h1) (dqAll_same s ds _ h2)
  | .tuple ds, _, h => by
    cases h with
    | tup h1 h2 => exact .tup (sqT_same s h1) (dqAll_same s ds _ h2)
  | .dict _, _, h => nomatch h
theorem dqAll_same {K : PySem.W.Frag} {H H' : Hp} (s : Same H H') : ∀ (ds : List PyData) (vs : List V), DqAll K H vs ds → DqAll K H' vs ds
  | [], _, h => by cases h; exact .nil
  | d :: ds, _, h => by
    cases h with
    | cons h1 h2 => exact .cons (dq_same s d _ h1) (dqAll_same s ds _ h2)
end
mutual
theorem dq_dp {K : PySem.W.Frag} {H : Hp} : ∀ (d : PyData) (v : V), Dq K H v d → Dp K H v d
  | .none, _, h => by cases h; exact .non
  | .bool b, _, h => by cases h; exact .bl b
  | .int i, _, h => by cases h; exact .int i
  | .str x, _, h => by cases h; exact .str x
  | .list ds, _, h => by
    cases h with
    | lst h1 h2 => exact .lst (SqL.of h1) (dqAll_dp ds _ h2)
  | .tuple ds, _, h => by
    cases h with
    | tup h1 h2 => exact .tup h1 (dqAll_dp ds _ h2)
  | .dict _, _, h => nomatch h
theorem dqAll_dp {K : PySem.W.Frag} {H : Hp} : ∀ (ds : List PyData) (vs : List V), DqAll K H vs ds → DpAll K H vs ds
  | [], _, h => by cases h; exact .nil
  | d :: ds, _, h => by
    cases h with
    | cons h1 h2 => exact .cons (dq_dp d _ h1) (dqAll_dp ds _ h2)
end
section
variable {K : PySem.W.Frag} {H H' : Hp} {x y v : V} {d e : PyData} {ds : List PyData} {vs : List V}
theorem Dq.lstI (h : Dq K H v (.list ds)) : ∃ a xs, v = .ref a ∧ H a = some (.lst xs) ∧ DqAll K H xs ds := by
  cases h with
  | lst h1 h2 => exact ⟨_, _, rfl, h1, h2⟩
theorem Dq.tupI (h : Dq K H v (.tuple ds)) : ∃ a xs, v = .ref a ∧ SqT K H a xs ∧ DqAll K H xs ds := by
  cases h with
  | tup h1 h2 => exact ⟨_, _, rfl, h1, h2⟩
theorem DqAll.len : ∀ {vs : List V} {ds : List PyData}, DqAll K H vs ds → vs.length = ds.length
  | _, _, .nil => rfl
  | _, _, .cons _ h => by rw [List.length_cons, List.length_cons, DqAll.len h]
theorem DqAll.get : ∀ {vs : List V} {ds : List PyData} {i : Nat} {d : PyData}, DqAll K H vs ds → ds[i]? = some d → ∃ v, vs[i]? = some v ∧ Dq K H v d
  | _, _, _, _, .nil, h => by simp at h
  | _, _, 0, _, .cons h1 _, h => by cases h; exact ⟨_, rfl, h1⟩
  | _, _, i + 1, _, .cons _ h2, h => DqAll.get (i := i) h2 h
theorem DqAll.got : ∀ {vs : List V} {ds : List PyData} {i : Nat} {v : V}, DqAll K H vs ds → vs[i]? = some v → ∃ d, ds[i]? = some d ∧ Dq K H v d
  | _, _, _, _, .nil, h => by simp at h
  | _, _, 0, _, .cons h1 _, h => by cases h; exact ⟨_, rfl, h1⟩
  | _, _, i + 1, _, .cons _ h2, h => DqAll.got (i := i) h2 h
theorem fr_dq {a : Addr} {x : Rat} (h : Fr K H a x) : Dq K H (.ref a) (FD x) := .tup h (.cons (.int _) (.cons (.int _) .nil))
theorem dq_fr {a : Addr} {x : Rat} (h : Dq K H (.ref a) (FD x)) : Fr K H a x := FD_fr (dq_dp _ _ h)
theorem dq_frR {x : Rat} (h : Dq K H v (FD x)) : ∃ a, v = .ref a ∧ Fr K H a x := FD_ref (dq_dp _ _ h)
end
/-! ### what stands side by side in a heap: facts that stay, lists of one's own -/
mutual
/-- no list within -/
def noL : PyData → Bool
  | .list _ => false
  | .dict _ => false
  | .tuple ds => noLs ds
  | _ => true
def noLs : List PyData → Bool
  | [] => true
  | d :: ds => noL d && noLs ds
end
/-- the heap without some -/
noncomputable def wo (H : Hp) (O : Addr → Prop) : Hp := fun b => @ite _ (O b) (Classical.propDecidable _) none (H b)
theorem wo_in {H : Hp} {O : Addr → Prop} {b : Addr} (h : O b) : wo H O b = none := by unfold wo; rw [if_pos h]
theorem wo_out {H : Hp} {O : Addr → Prop} {b : Addr} (h : ¬ O b) : wo H O b = H b := by unfold wo; rw [if_neg h]
theorem wo_some {H : Hp} {O : Addr → Prop} {b : Addr} {o : HO} (h : wo H O b = some o) : ¬ O b ∧ H b = some o := by
  by_cases z : O b
  · rw [wo_in z] at h; cases h
  · rw [wo_out z] at h; exact ⟨z, h⟩
theorem wo_same {H : Hp} {O : Addr → Prop} : Same (wo H O) H := fun b o h => (wo_some h).2
def none0 : Addr → Prop := fun _ => False
theorem wo_no {H : Hp} {O : Addr → Prop} (h : ∀ b, ¬ O b) : wo H O = H := by funext b; exact wo_out (h b)
theorem wo_less {H : Hp} {O O' : Addr → Prop} (h : ∀ a, O' a → O a) : Same (wo H O) (wo H O') := fun b o e => by
  obtain ⟨n, e⟩ := wo_some e
  rw [wo_out (fun z => n (h b z))]; exact e
theorem wo_mono {H H' : Hp} {O : Addr → Prop} (s : Same H H') : Same (wo H O) (wo H' O) := fun b o e => by
  obtain ⟨n, e⟩ := wo_some e
  rw [wo_out n]; exact s _ _ e
mutual
theorem dq_noL {K : PySem.W.Frag} {H H' : Hp} (t : ∀ a xs, SqT K H a xs → SqT K H' a xs) : ∀ (d : PyData) (v : V), noL d = true → Dq K H v d → Dq K H' v d
  | .none, _, _, h => by cases h; exact .non
  | .bool b, _, _, h => by cases h; exact .bl b
  | .int i, _, _, h => by cases h; exact .int i
  | .str x, _, _, h => by cases h; exact .str x
  | .list ds, _, n, _ => by simp [noL] at n
  | .tuple ds, _, n, h => by
    cases h with
    | tup h1 h2 => exact .tup (t _ _ h1) (dqAll_noL t ds _ (by simpa [noL] using n) h2)
  | .dict _, _, n, _ => by simp [noL] at n
theorem dqAll_noL {K : PySem.W.Frag} {H H' : Hp} (t : ∀ a xs, SqT K H a xs → SqT K H' a xs) : ∀ (ds : List PyData) (vs : List V), noLs ds = true → DqAll K H vs ds → DqAll K H' vs ds
  | [], _, _, h => by cases h; exact .nil
  | d :: ds, _, n, h => by
    have n : noL d = true ∧ noLs ds = true := by simpa [noLs] using n
    cases h with
    | cons h1 h2 => exact .cons (dq_noL t d _ n.1 h1) (dqAll_noL t ds _ n.2 h2)
end
inductive Im where
  | ps (P : Hp → Prop)
  | top (a : Addr) (xs : List V)
  | fr (F : Addr → Option (List V))
def Im.ad : Im → Option Addr
  | .top a _ => some a
  | _ => none
def tops (L : List Im) : List Addr := L.filterMap Im.ad
theorem tops_app (A B : List Im) : tops (A ++ B) = tops A ++ tops B := List.filterMap_append
theorem tops_ps (P : Hp → Prop) (L : List Im) : tops (.ps P :: L) = tops L := rfl
theorem tops_top (a : Addr) (xs : List V) (L : List Im) : tops (.top a xs :: L) = a :: tops L := rfl
theorem mem_tops {a : Addr} {L : List Im} : a ∈ tops L ↔ ∃ xs, Im.top a xs ∈ L := by
  unfold tops
  rw [List.mem_filterMap]
  constructor
  · rintro ⟨m, h, e⟩
    cases m with
    | ps P => cases e
    | top b xs => cases e; exact ⟨xs, h⟩
    | fr F => cases e
  · rintro ⟨xs, h⟩
    exact ⟨_, h, rfl⟩
/-- what is owned: one's own lists, and what stands in a frame -/
def ows (L : List Im) : Addr → Prop := fun a => a ∈ tops L ∨ ∃ F, Im.fr F ∈ L ∧ ∃ ys, F a = some ys
theorem ows_sub {A B : List Im} (h : ∀ m ∈ A, m ∈ B) {a : Addr} : ows A a → ows B a := by
  rintro (z | ⟨F, hF, z⟩)
  · obtain ⟨xs, hm⟩ := mem_tops.mp z
    exact .inl (mem_tops.mpr ⟨xs, h _ hm⟩)
  · exact .inr ⟨F, h _ hF, z⟩
theorem ows_app {A B : List Im} {a : Addr} : ows (A ++ B) a ↔ ows A a ∨ ows B a := by
  constructor
  · rintro (z | ⟨F, hF, z⟩)
    · rw [tops_app] at z
      rcases List.mem_append.mp z with z | z
      · exact .inl (.inl z)
      · exact .inr (.inl z)
    · rcases List.mem_append.mp hF with h | h
      · exact .inl (.inr ⟨F, h, z⟩)
      · exact .inr (.inr ⟨F, h, z⟩)
  · rintro (z | z)
    · exact ows_sub (fun m h => List.mem_append_left _ h) z
    · exact ows_sub (fun m h => List.mem_append_right _ h) z
theorem ows_ps {P : Hp → Prop} {L : List Im} {a : Addr} (h : ows (.ps P :: L) a) : ows L a := by
  rcases h with z | ⟨F, hF, z⟩
  · exact .inl z
  · rcases List.mem_cons.mp hF with e | e
    · cases e
    · exact .inr ⟨F, e, z⟩
theorem ows_top {b : Addr} {xs : List V} {L : List Im} {a : Addr} (h : ows (.top b xs :: L) a) : a = b ∨ ows L a := by
  rcases h with z | ⟨F, hF, z⟩
  · rw [tops_top] at z
    rcases List.mem_cons.mp z with z | z
    · exact .inl z
    · exact .inr (.inl z)
  · rcases List.mem_cons.mp hF with e | e
    · cases e
    · exact .inr (.inr ⟨F, e, z⟩)
def Im.ok (H : Hp) (O : Addr → Prop) : Im → Prop
  | .ps P => (∀ H H', Same H H' → P H → P H') ∧ P (wo H O)
  | .top a xs => H a = some (.lst xs)
  | .fr F => ∀ a xs, F a = some xs → H a = some (.lst xs)
theorem Im.ok_less {H : Hp} {O O' : Addr → Prop} (h : ∀ a, O' a → O a) {m : Im} (k : m.ok H O) : m.ok H O' := by
  cases m with
  | ps P => exact ⟨k.1, k.1 _ _ (wo_less h) k.2⟩
  | top a xs => exact k
  | fr F => exact k
theorem Im.ok_same {H H' : Hp} {O : Addr → Prop} (s : Same H H') {m : Im} (k : m.ok H O) : m.ok H' O := by
  cases m with
  | ps P => exact ⟨k.1, k.1 _ _ (wo_mono s) k.2⟩
  | top a xs => exact s _ _ k
  | fr F => exact fun a xs ha => s _ _ (k a xs ha)
structure Rf (H : Hp) (L : List Im) : Prop where
  nd : (tops L).Nodup
  fd : ∀ F, Im.fr F ∈ L → ∀ a ∈ tops L, F a = none
  all : ∀ m ∈ L, m.ok H (ows L)
section
variable {H H' : Hp} {L L' : List Im} {a p : Addr} {xs ys : List V} {o : HO}
theorem Rf.lists (R : Rf H L) {b : Addr} (h : ows L b) : ∃ ys, H b = some (.lst ys) := by
  rcases h with z | ⟨F, hF, z⟩
  · obtain ⟨ys, hm⟩ := mem_tops.mp z
    exact ⟨ys, R.all _ hm⟩
  · obtain ⟨ys, z⟩ := z
    exact ⟨ys, R.all _ hF b ys z⟩
theorem Rf.perm (h : L.Perm L') (R : Rf H L) : Rf H L' := by
  have t : (tops L).Perm (tops L') := h.filterMap _
  refine ⟨t.nodup_iff.mp R.nd, fun F hF a ha => R.fd F (h.mem_iff.mpr hF) a (t.mem_iff.mpr ha), fun m hm => ?_⟩
  exact Im.ok_less (fun a ha => ows_sub (fun m hm => h.mem_iff.mpr hm) ha) (R.all m (h.mem_iff.mpr hm))
theorem Rf.sub (h : L'.Sublist L) (R : Rf H L) : Rf H L' := by
  have t : (tops L').Sublist (tops L) := h.filterMap _
  exact ⟨t.nodup R.nd, fun F hF a ha => R.fd F (h.subset hF) a (t.subset ha), fun m hm => Im.ok_less (fun a ha => ows_sub (fun m hm => h.subset hm) ha) (R.all m (h.subset hm))⟩
theorem Rf.tail {m : Im} (R : Rf H (m :: L)) : Rf H L := R.sub (List.sublist_cons_self _ _)
theorem Rf.same (s : Same H H') (R : Rf H L) : Rf H' L := ⟨R.nd, R.fd, fun m hm => Im.ok_same s (R.all m hm)⟩
theorem Rf.addps {P : Hp → Prop} (m : ∀ H H', Same H H' → P H → P H') (h : P (wo H (ows L))) (R : Rf H L) : Rf H (.ps P :: L) := by
  refine ⟨R.nd, fun F hF a ha => ?_, fun n hn => ?_⟩
  · rcases List.mem_cons.mp hF with e | e
    · cases e
    · exact R.fd F e a ha
  · rcases List.mem_cons.mp hn with rfl | hn
    · exact ⟨m, m _ _ (wo_less fun a ha => ows_ps ha) h⟩
    · exact Im.ok_less (fun a ha => ows_ps ha) (R.all n hn)
theorem Rf.psK {P : Hp → Prop} (R : Rf H (.ps P :: L)) : (∀ H H', Same H H' → P H → P H') ∧ P (wo H (ows L)) := by
  have k := R.all (.ps P) List.mem_cons_self
  exact ⟨k.1, k.1 _ _ (wo_less fun a ha => ows_sub (fun m hm => List.mem_cons_of_mem _ hm) ha) k.2⟩
theorem Rf.new (n : H p = none) (R : Rf H L) : Rf (upd H p (.lst xs)) (.top p xs :: L) := by
  have np : ¬ ows L p := fun z => by
    obtain ⟨ys, e⟩ := R.lists z
    rw [n] at e; cases e
  refine ⟨by rw [tops_top]; exact List.nodup_cons.mpr ⟨fun z => np (.inl z), R.nd⟩, fun F hF a ha => ?_, fun m hm => ?_⟩
  · rcases List.mem_cons.mp hF with e | e
    · cases e
    · rw [tops_top] at ha
      rcases List.mem_cons.mp ha with rfl | ha
      · cases q : F a with
        | none => rfl
        | some ys => exact (np (.inr ⟨F, e, ys, q⟩)).elim
      · exact R.fd F e a ha
  · rcases List.mem_cons.mp hm with rfl | hm
    · exact upd_same
    · have k := R.all m hm
      cases m with
      | ps P =>
        refine ⟨k.1, k.1 _ _ (fun b o e => ?_) k.2⟩
        obtain ⟨nb, e⟩ := wo_some e
        have bp : b ≠ p := ne_of_none e n
        rw [wo_out (fun z => by rcases ows_top z with z | z; exact bp z; exact nb z), upd_ne bp]; exact e
      | top b ys => exact same_new n _ _ k
      | fr F => exact Im.ok_same (m := .fr F) (O := ows L) (same_new n) k
/-- a list of one's own is changed -/
theorem Rf.mut (s : But a H H') (e : H' a = some (.lst ys)) (R : Rf H (.top a xs :: L)) : Rf H' (.top a ys :: L) := by
  have nd := R.nd
  rw [tops_top] at nd
  have na : ¬ ows L a := by
    rintro (z | ⟨F, hF, z⟩)
    · exact (List.nodup_cons.mp nd).1 z
    · obtain ⟨ys, z⟩ := z
      rw [R.fd F (List.mem_cons_of_mem _ hF) a (by rw [tops_top]; exact List.mem_cons_self)] at z; cases z
  refine ⟨R.nd, fun F hF b hb => ?_, fun m hm => ?_⟩
  · rcases List.mem_cons.mp hF with z | z
    · cases z
    · exact R.fd F (List.mem_cons_of_mem _ z) b hb
  · rcases List.mem_cons.mp hm with rfl | hm
    · exact e
    · have k := R.all m (List.mem_cons_of_mem _ hm)
      cases m with
      | ps P =>
        refine ⟨k.1, k.1 _ _ (fun b o q => ?_) k.2⟩
        obtain ⟨nb, q⟩ := wo_some q
        have ba : b ≠ a := fun z => nb (by rw [z]; exact .inl (by rw [tops_top]; exact List.mem_cons_self))
        rw [wo_out (fun z => nb (by
          rcases ows_top z with z | z
          · exact (ba z).elim
          · exact ows_sub (fun m hm => List.mem_cons_of_mem _ hm) z))]
        exact s b o ba q
      | top b zs => exact s b _ (fun z => na (.inl (z ▸ mem_tops.mpr ⟨zs, hm⟩))) k
      | fr F => exact fun b zs hb => s b _ (fun z => na (.inr ⟨F, hm, zs, z ▸ hb⟩)) (k b zs hb)
end
inductive Own where
  | lf | li (s : Own) | t2 (s1 s2 : Own) | t3 (s1 s2 s3 : Own)
inductive All3 (P : V → PyData → List Im → Prop) : List V → List PyData → List Im → Prop
  | nil : All3 P [] [] []
  | cons {x : V} {xs : List V} {d : PyData} {ds : List PyData} {p ps : List Im} : P x d p → All3 P xs ds ps → All3 P (x :: xs) (d :: ds) (p ++ ps)
def Unf (K : PySem.W.Frag) : Own → V → PyData → List Im → Prop
  | .lf, v, d, ps => ps = [.ps fun H => Dq K H v d]
  | .li s, v, d, ps => ∃ a xs ds qs, v = .ref a ∧ d = .list ds ∧ ps = .top a xs :: qs ∧ All3 (Unf K s) xs ds qs
  | .t2 s1 s2, v, d, ps => ∃ a x1 x2 d1 d2 p1 p2, v = .ref a ∧ d = .tuple [d1, d2] ∧ ps = .ps (fun H => SqT K H a [x1, x2]) :: (p1 ++ p2) ∧ Unf K s1 x1 d1 p1 ∧ Unf K s2 x2 d2 p2
  | .t3 s1 s2 s3, v, d, ps => ∃ a x1 x2 x3 d1 d2 d3 p1 p2 p3, v = .ref a ∧ d = .tuple [d1, d2, d3] ∧ ps = .ps (fun H => SqT K H a [x1, x2, x3]) :: (p1 ++ (p2 ++ p3)) ∧ Unf K s1 x1 d1 p1 ∧ Unf K s2 x2 d2 p2 ∧ Unf K s3 x3 d3 p3
inductive It where
  | ow (s : Own) (v : V) (d : PyData)
  | top (a : Addr) (xs : List V)
  | ps (P : Hp → Prop)
  | pr (P : List V → Prop) (a : Addr)
  | fr (F : Addr → Option (List V))
abbrev It.sh (v : V) (d : PyData) : It := .ow .lf v d
def UnI (K : PySem.W.Frag) : It → List Im → Prop
  | .ow s v d, qs => Unf K s v d qs
  | .top a xs, qs => qs = [.top a xs]
  | .ps P, qs => qs = [.ps P]
  | .pr P a, qs => ∃ xs, P xs ∧ qs = [.top a xs]
  | .fr F, qs => qs = [.fr F]
inductive UnIs (K : PySem.W.Frag) : List It → List Im → Prop
  | nil : UnIs K [] []
  | cons {m : It} {L : List It} {p ps : List Im} : UnI K m p → UnIs K L ps → UnIs K (m :: L) (p ++ ps)
/-- the heap H has all these, side by side -/
def Rp (K : PySem.W.Frag) (H : Hp) (L : List It) : Prop := ∃ ps, UnIs K L ps ∧ Rf H ps
theorem UnIs.inv {K : PySem.W.Frag} {m : It} {L : List It} {ps : List Im} (h : UnIs K (m :: L) ps) : ∃ p q, ps = p ++ q ∧ UnI K m p ∧ UnIs K L q := by
  cases h with
  | cons h t => exact ⟨_, _, rfl, h, t⟩
theorem Rp.inv {K : PySem.W.Frag} {H : Hp} {m : It} {L : List It} (R : Rp K H (m :: L)) : ∃ p q, UnI K m p ∧ UnIs K L q ∧ Rf H (p ++ q) := by
  obtain ⟨ps, u, r⟩ := R
  obtain ⟨p, q, rfl, h, t⟩ := u.inv
  exact ⟨p, q, h, t, r⟩
section
variable {K : PySem.W.Frag} {H H' : Hp} {L L' A B : List It} {a p : Addr} {xs ys : List V} {o : HO} {v x y : V} {d e : PyData} {ds : List PyData} {s : Own}
theorem UnIs.app : ∀ {A B : List It} {p q : List Im}, UnIs K A p → UnIs K B q → UnIs K (A ++ B) (p ++ q)
  | _, _, _, _, .nil, h => h
  | _, _, _, _, .cons h t, g => by rw [List.append_assoc]; exact .cons h (UnIs.app t g)
theorem UnIs.split : ∀ {A B : List It} {ps : List Im}, UnIs K (A ++ B) ps → ∃ p q, ps = p ++ q ∧ UnIs K A p ∧ UnIs K B q
  | [], _, ps, h => ⟨[], ps, rfl, .nil, h⟩
  | m :: A, _, _, .cons h t => by
    obtain ⟨p, q, rfl, h1, h2⟩ := UnIs.split (A := A) t
    exact ⟨_ ++ p, q, by rw [List.append_assoc], .cons h h1, h2⟩
theorem UnIs.perm (h : A.Perm B) : ∀ {ps : List Im}, UnIs K A ps → ∃ qs, UnIs K B qs ∧ ps.Perm qs := by
  induction h with
  | nil => intro ps u; exact ⟨ps, u, .refl _⟩
  | cons m _ ih =>
    intro ps u
    cases u with
    | cons h t =>
      obtain ⟨qs, h1, h2⟩ := ih t
      exact ⟨_, .cons h h1, h2.append_left _⟩
  | swap m n l =>
    intro ps u
    cases u with
    | cons h t =>
      cases t with
      | cons h2 t2 =>
        refine ⟨_, .cons h2 (.cons h t2), ?_⟩
        rw [← List.append_assoc, ← List.append_assoc]
        exact List.perm_append_comm.append_right _
  | trans _ _ ih1 ih2 =>
    intro ps u
    obtain ⟨qs, h1, h2⟩ := ih1 u
    obtain ⟨rs, h3, h4⟩ := ih2 h1
    exact ⟨rs, h3, h2.trans h4⟩
theorem Rp.perm (h : A.Perm B) (R : Rp K H A) : Rp K H B := by
  obtain ⟨ps, u, r⟩ := R
  obtain ⟨qs, u', h'⟩ := u.perm h
  exact ⟨qs, u', r.perm h'⟩
theorem Rf.nil : Rf H [] := ⟨List.nodup_nil, fun _ h => (by cases h), fun _ h => (by cases h)⟩
theorem Rp.nil : Rp K H [] := ⟨[], .nil, Rf.nil⟩
theorem Rp.tail {m : It} (R : Rp K H (m :: L)) : Rp K H L := by
  obtain ⟨_, _, h, t, r⟩ := R.inv
  exact ⟨_, t, r.sub (List.sublist_append_right _ _)⟩
theorem Rp.same (R : Rp K H L) (s : Same H H') : Rp K H' L := by
  obtain ⟨ps, u, r⟩ := R
  exact ⟨ps, u, r.same s⟩
theorem Rp.new (R : Rp K H L) (n : H p = none) : Rp K (upd H p o) L := R.same (same_new n)
/-- a new list -/
theorem Rp.lst (R : Rp K H L) (n : H p = none) : Rp K (upd H p (.lst xs)) (.top p xs :: L) := by
  obtain ⟨ps, u, r⟩ := R
  exact ⟨_, .cons (p := [.top p xs]) rfl u, r.new n⟩
theorem mono_dp : ∀ H H' : Hp, Same H H' → Dq K H v d → Dq K H' v d := fun _ _ s h => dq_same s d v h
theorem mono_sqt : ∀ H H' : Hp, Same H H' → SqT K H a xs → SqT K H' a xs := fun _ _ s h => sqT_same s h
theorem wo_sqt0 {O : Addr → Prop} (l : ∀ b, O b → ∃ ys, H b = some (.lst ys)) (h : SqT K H a xs) : SqT K (wo H O) a xs := by
  rcases h with (h | ⟨u, h⟩) | h
  · refine .inl (.inl ?_)
    rw [wo_out (fun z => by
      obtain ⟨ys, e⟩ := l _ z
      rw [h] at e; cases e)]
    exact h
  · refine .inl (.inr ⟨u, ?_⟩)
    rw [wo_out (fun z => by
      obtain ⟨ys, e⟩ := l _ z
      rw [h] at e; cases e)]
    exact h
  · exact .inr h
theorem wo_sqt {L : List Im} (R : Rf H L) (h : SqT K H a xs) : SqT K (wo H (ows L)) a xs := wo_sqt0 (fun _ z => R.lists z) h
/-- a datum without lists -/
theorem Rp.flat (R : Rp K H L) (h : Dq K H v d) (n : noL d = true) : Rp K H (.sh v d :: L) := by
  obtain ⟨ps, u, r⟩ := R
  exact ⟨_, .cons (p := [_]) rfl u, r.addps mono_dp (dq_noL (fun a xs h => wo_sqt r h) d v n h)⟩
theorem Rp.tup (R : Rp K H L) (n : H p = none) : Rp K (upd H p (.tup xs)) (.ps (fun H => SqT K H p xs) :: L) := by
  obtain ⟨ps, u, r⟩ := R
  have r' := r.same (same_new (o := .tup xs) n)
  exact ⟨_, .cons (p := [_]) rfl u, r'.addps mono_sqt (wo_sqt r' sqT_at)⟩
theorem Rp.int (R : Rp K H L) (i : Int) : Rp K H (.sh (.int i) (.int i) :: L) := R.flat (.int i) rfl
theorem Rp.str (R : Rp K H L) (i : Str) : Rp K H (.sh (.str i) (.str i) :: L) := R.flat (.str i) rfl
theorem Rp.bl (R : Rp K H L) (i : Bool) : Rp K H (.sh (.bl i) (.bool i) :: L) := R.flat (.bl i) rfl
theorem Rp.non (R : Rp K H L) : Rp K H (.sh .non .none :: L) := R.flat .non rfl
/-- an own list is changed -/
theorem Rp.chg (R : Rp K H (.top a xs :: L)) (s : But a H H') (e : H' a = some (.lst ys)) : Rp K H' (.top a ys :: L) := by
  obtain ⟨_, _, h, t, r⟩ := R.inv
  cases h
  exact ⟨_, .cons (p := [.top a ys]) rfl t, r.mut s e⟩
theorem Rp.mut (R : Rp K H (.top a xs :: L)) : Rp K (upd H a (.lst ys)) (.top a ys :: L) := R.chg But.mut upd_same
theorem Rp.chgP {P P' : List V → Prop} (R : Rp K H (.pr P a :: L)) (s : But a H H') (e : H' a = some (.lst ys)) (h : P' ys) : Rp K H' (.pr P' a :: L) := by
  obtain ⟨_, _, ⟨xs, _, h1⟩, t, r⟩ := R.inv
  cases h1
  exact ⟨_, .cons (p := [.top a ys]) ⟨ys, h, rfl⟩ t, r.mut s e⟩
theorem Rp.topAt (R : Rp K H (.top a xs :: L)) : H a = some (.lst xs) := by
  obtain ⟨_, _, h, t, r⟩ := R.inv
  cases h
  exact r.all (.top a xs) List.mem_cons_self
theorem Rp.prAt {P : List V → Prop} (R : Rp K H (.pr P a :: L)) : ∃ xs, H a = some (.lst xs) ∧ P xs := by
  obtain ⟨_, _, ⟨xs, hP, h1⟩, t, r⟩ := R.inv
  cases h1
  exact ⟨xs, r.all (.top a xs) List.mem_cons_self, hP⟩
theorem Rp.psAt {P : Hp → Prop} (R : Rp K H (.ps P :: L)) : P H := by
  obtain ⟨_, _, h, t, r⟩ := R.inv
  cases h
  have k := r.all (.ps P) List.mem_cons_self
  exact k.1 _ _ wo_same k.2
/-- what one owns is shared from here on -/
theorem unf_dp : ∀ (s : Own) {v : V} {d : PyData} {q r : List Im}, Unf K s v d q → Rf H (q ++ r) → Dq K (wo H (ows r)) v d
  | .lf, _, _, _, r, e, R => by
    cases e
    have k := R.all (.ps _) List.mem_cons_self
    exact k.1 _ _ (wo_less fun a ha => ows_sub (fun m hm => List.mem_cons_of_mem _ hm) ha) k.2
  | .li s, v, d, q, r, ⟨a, xs, ds, qs, e1, e2, e3, h⟩, R => by
    subst e1 e2 e3
    have nd := R.nd
    rw [List.cons_append, tops_top, tops_app] at nd
    have na : ¬ ows r a := by
      rintro (z | ⟨F, hF, z⟩)
      · exact (List.nodup_cons.mp nd).1 (List.mem_append_right _ z)
      · obtain ⟨ys, z⟩ := z
        rw [R.fd F (List.mem_append_right _ hF) a (by rw [List.cons_append, tops_top]; exact List.mem_cons_self)] at z; cases z
    refine .lst (by rw [wo_out na]; exact R.all (.top a xs) List.mem_cons_self) ?_
    have R' : Rf H (qs ++ r) := R.tail
    clear nd na R
    revert qs
    induction xs generalizing ds with
    | nil => intro qs h R'; cases h; exact .nil
    | cons x xs ih =>
      intro qs h R'
      cases h with
      | cons h1 h2 =>
        refine .cons (unf_dp s h1 ?_) (ih _ _ h2 (R'.sub ?_))
        · rw [List.append_assoc] at R'
          exact R'.sub ((List.sublist_append_right _ _).append_left _)
        · rw [List.append_assoc]
          exact List.sublist_append_right _ _
  | .t2 s1 s2, v, d, q, r, ⟨a, x1, x2, d1, d2, p1, p2, e1, e2, e3, h1, h2⟩, R => by
    subst e1 e2 e3
    have R' : Rf H (p1 ++ p2 ++ r) := R.tail
    have ht := R.all (.ps _) List.mem_cons_self
    refine .tup (wo_sqt (R'.sub (List.sublist_append_right _ _)) (ht.1 _ _ wo_same ht.2)) (.cons (unf_dp s1 h1 (R'.sub ?_)) (.cons (unf_dp s2 h2 (R'.sub ?_)) .nil))
    · rw [List.append_assoc]; exact (List.sublist_append_right _ _).append_left _
    · rw [List.append_assoc]; exact List.sublist_append_right _ _
  | .t3 s1 s2 s3, v, d, q, r, ⟨a, x1, x2, x3, d1, d2, d3, p1, p2, p3, e1, e2, e3, h1, h2, h3⟩, R => by
    subst e1 e2 e3
    have R' : Rf H (p1 ++ (p2 ++ p3) ++ r) := R.tail
    have ht := R.all (.ps _) List.mem_cons_self
    refine .tup (wo_sqt (R'.sub (List.sublist_append_right _ _)) (ht.1 _ _ wo_same ht.2)) (.cons (unf_dp s1 h1 (R'.sub ?_)) (.cons (unf_dp s2 h2 (R'.sub ?_)) (.cons (unf_dp s3 h3 (R'.sub ?_)) .nil)))
    · rw [List.append_assoc]; exact (List.sublist_append_right _ _).append_left _
    · rw [List.append_assoc, List.append_assoc]; exact ((List.sublist_append_right _ _).append_left _).trans (List.sublist_append_right _ _)
    · rw [List.append_assoc, List.append_assoc]; exact (List.sublist_append_right _ _).trans (List.sublist_append_right _ _)
theorem Rp.dp (R : Rp K H (.ow s v d :: L)) : Dq K H v d := by
  obtain ⟨_, _, h, t, r⟩ := R.inv
  exact dq_same wo_same _ _ (unf_dp s h r)
theorem Rp.fz (R : Rp K H (.ow s v d :: L)) : Rp K H (.sh v d :: L) := by
  obtain ⟨_, _, h, t, r⟩ := R.inv
  exact ⟨_, .cons (p := [_]) rfl t, (r.sub (List.sublist_append_right _ _)).addps mono_dp (unf_dp s h r)⟩
/-- a shared datum twice -/
theorem Rp.dup (R : Rp K H (.sh v d :: L)) : Rp K H (.sh v d :: .sh v d :: L) := by
  obtain ⟨_, _, h, t, r⟩ := R.inv
  cases h
  have k := r.all (.ps _) List.mem_cons_self
  exact ⟨_, .cons (p := [_]) rfl (.cons (p := [_]) rfl t), r.addps k.1 k.2⟩
theorem Rp.dupP {P : Hp → Prop} (R : Rp K H (.ps P :: L)) : Rp K H (.ps P :: .ps P :: L) := by
  obtain ⟨_, _, h, t, r⟩ := R.inv
  cases h
  have k := r.all (.ps _) List.mem_cons_self
  exact ⟨_, .cons (p := [_]) rfl (.cons (p := [_]) rfl t), r.addps k.1 k.2⟩
/-- what follows of a fact that stays -/
theorem Rp.imp {P P' : Hp → Prop} (R : Rp K H (.ps P :: L)) (h : ∀ H, P H → P' H) (m : ∀ H H', Same H H' → P' H → P' H') : Rp K H (.ps P' :: .ps P :: L) := by
  obtain ⟨_, _, h1, t, r⟩ := R.inv
  cases h1
  have k := r.all (.ps _) List.mem_cons_self
  exact ⟨_, .cons (p := [_]) rfl (.cons (p := [_]) rfl t), r.addps m (h _ k.2)⟩
theorem Rp.impS {P' : Hp → Prop} (R : Rp K H (.sh v d :: L)) (h : ∀ H, Dq K H v d → P' H) (m : ∀ H H', Same H H' → P' H → P' H') : Rp K H (.ps P' :: .sh v d :: L) := by
  obtain ⟨_, _, h1, t, r⟩ := R.inv
  cases h1
  have k := r.all (.ps _) List.mem_cons_self
  exact ⟨_, .cons (p := [_]) rfl (.cons (p := [_]) rfl t), r.addps m (h _ k.2)⟩
theorem Rp.toSh (R : Rp K H (.ps (fun H => Dq K H v d) :: L)) : Rp K H (.sh v d :: L) := by
  obtain ⟨_, _, h, t, r⟩ := R.inv
  cases h
  exact ⟨_, .cons (p := [_]) rfl t, r⟩
end
/-! ### what stands side by side: taken apart, put together, chosen -/
def each (s : Own) (xs : List V) (ds : List PyData) : List It := List.zipWith (fun x d => It.ow s x d) xs ds
section
variable {K : PySem.W.Frag} {H H' : Hp} {L L' A B : List It} {a p : Addr} {xs ys : List V} {o : HO} {v x y z : V} {d e f : PyData} {ds : List PyData} {s s1 s2 s3 : Own}
theorem All3.len {P : V → PyData → List Im → Prop} : ∀ {xs : List V} {ds : List PyData} {ps : List Im}, All3 P xs ds ps → xs.length = ds.length
  | _, _, _, .nil => rfl
  | _, _, _, .cons _ h => by rw [List.length_cons, List.length_cons, All3.len h]
theorem un_each : ∀ {xs : List V} {ds : List PyData} {ps : List Im}, All3 (Unf K s) xs ds ps → UnIs K (each s xs ds) ps
  | _, _, _, .nil => .nil
  | _, _, _, .cons h t => .cons h (un_each t)
theorem each_un : ∀ {xs : List V} {ds : List PyData} {ps : List Im}, xs.length = ds.length → UnIs K (each s xs ds) ps → All3 (Unf K s) xs ds ps
  | [], [], _, _, h => by cases h; exact .nil
  | _ :: _, _ :: _, _, l, h => by
    cases h with
    | cons h1 h2 => exact .cons h1 (each_un (by simpa using l) h2)
  | [], _ :: _, _, l, _ => by simp at l
  | _ :: _, [], _, l, _ => by simp at l
theorem Rp.put (R : Rp K H (.top a xs :: (each s xs ds ++ L))) (l : xs.length = ds.length) : Rp K H (.ow (.li s) (.ref a) (.list ds) :: L) := by
  obtain ⟨_, _, h, t, r⟩ := R.inv
  cases h
  obtain ⟨p, q, rfl, h1, h2⟩ := t.split
  exact ⟨_, .cons (p := .top a xs :: p) ⟨a, xs, ds, p, rfl, rfl, rfl, each_un l h1⟩ h2, r⟩
theorem Rp.take (R : Rp K H (.ow (.li s) v (.list ds) :: L)) : ∃ a xs, v = .ref a ∧ xs.length = ds.length ∧ Rp K H (.top a xs :: (each s xs ds ++ L)) := by
  obtain ⟨_, _, ⟨a, xs, ds', qs, e1, e2, e3, h⟩, t, r⟩ := R.inv
  cases e2
  subst e1 e3
  exact ⟨a, xs, rfl, h.len, _, .cons (p := [.top a xs]) rfl ((un_each h).app t), r⟩
theorem Rp.put2 (R : Rp K H (.ps (fun H => SqT K H a [x, y]) :: .ow s1 x d :: .ow s2 y e :: L)) : Rp K H (.ow (.t2 s1 s2) (.ref a) (.tuple [d, e]) :: L) := by
  obtain ⟨_, _, h, t1, r⟩ := R.inv
  obtain ⟨p1, _, rfl, h1, t2⟩ := t1.inv
  obtain ⟨p2, ps, rfl, h2, t⟩ := t2.inv
  cases h
  refine ⟨_, .cons (p := .ps (fun H => SqT K H a [x, y]) :: (p1 ++ p2)) ⟨a, x, y, d, e, p1, p2, rfl, rfl, rfl, h1, h2⟩ t, ?_⟩
  rw [List.cons_append, List.append_assoc]
  exact r
theorem Rp.take2 (R : Rp K H (.ow (.t2 s1 s2) v (.tuple [d, e]) :: L)) : ∃ a x y, v = .ref a ∧ Rp K H (.ps (fun H => SqT K H a [x, y]) :: .ow s1 x d :: .ow s2 y e :: L) := by
  obtain ⟨_, _, ⟨a, x1, x2, d1, d2, p1, p2, e1, e2, e3, h1, h2⟩, t, r⟩ := R.inv
  cases e2
  subst e1 e3
  refine ⟨a, x1, x2, rfl, _, .cons (p := [_]) rfl (.cons h1 (.cons h2 t)), ?_⟩
  rw [List.cons_append, List.append_assoc] at r
  exact r
theorem Rp.put3 (R : Rp K H (.ps (fun H => SqT K H a [x, y, z]) :: .ow s1 x d :: .ow s2 y e :: .ow s3 z f :: L)) : Rp K H (.ow (.t3 s1 s2 s3) (.ref a) (.tuple [d, e, f]) :: L) := by
  obtain ⟨_, _, h, t1, r⟩ := R.inv
  obtain ⟨p1, _, rfl, h1, t2⟩ := t1.inv
  obtain ⟨p2, _, rfl, h2, t3⟩ := t2.inv
  obtain ⟨p3, _, rfl, h3, t⟩ := t3.inv
  cases h
  refine ⟨_, .cons (p := .ps (fun H => SqT K H a [x, y, z]) :: (p1 ++ (p2 ++ p3))) ⟨a, x, y, z, d, e, f, p1, p2, p3, rfl, rfl, rfl, h1, h2, h3⟩ t, ?_⟩
  rw [List.cons_append, List.append_assoc, List.append_assoc]
  exact r
theorem Rp.take3 (R : Rp K H (.ow (.t3 s1 s2 s3) v (.tuple [d, e, f]) :: L)) : ∃ a x y z, v = .ref a ∧ Rp K H (.ps (fun H => SqT K H a [x, y, z]) :: .ow s1 x d :: .ow s2 y e :: .ow s3 z f :: L) := by
  obtain ⟨_, _, ⟨a, x1, x2, x3, d1, d2, d3, p1, p2, p3, e1, e2, e3, h1, h2, h3⟩, t, r⟩ := R.inv
  cases e2
  subst e1 e3
  refine ⟨a, x1, x2, x3, rfl, _, .cons (p := [_]) rfl (.cons h1 (.cons h2 (.cons h3 t))), ?_⟩
  rw [List.cons_append, List.append_assoc, List.append_assoc] at r
  exact r
/-- a new list of things one owns -/
theorem Rp.mkL (R : Rp K H (each s xs ds ++ L)) (l : xs.length = ds.length) (n : H p = none) : Rp K (upd H p (.lst xs)) (.ow (.li s) (.ref p) (.list ds) :: L) := (R.lst n).put l
theorem Rp.mkL0 (R : Rp K H L) (s : Own) (n : H p = none) : Rp K (upd H p (.lst [])) (.ow (.li s) (.ref p) (.list []) :: L) := Rp.mkL (xs := []) (ds := []) R rfl n
theorem Rp.mkL1 (R : Rp K H (.ow s x d :: L)) (n : H p = none) : Rp K (upd H p (.lst [x])) (.ow (.li s) (.ref p) (.list [d]) :: L) := Rp.mkL (xs := [x]) (ds := [d]) R rfl n
theorem Rp.mkL2 (R : Rp K H (.ow s x d :: .ow s y e :: L)) (n : H p = none) : Rp K (upd H p (.lst [x, y])) (.ow (.li s) (.ref p) (.list [d, e]) :: L) := Rp.mkL (xs := [x, y]) (ds := [d, e]) R rfl n
theorem Rp.mk2 (R : Rp K H (.ow s1 x d :: .ow s2 y e :: L)) (n : H p = none) : Rp K (upd H p (.tup [x, y])) (.ow (.t2 s1 s2) (.ref p) (.tuple [d, e]) :: L) := (R.tup n).put2
theorem Rp.mk3 (R : Rp K H (.ow s1 x d :: .ow s2 y e :: .ow s3 z f :: L)) (n : H p = none) : Rp K (upd H p (.tup [x, y, z])) (.ow (.t3 s1 s2 s3) (.ref p) (.tuple [d, e, f]) :: L) := (R.tup n).put3
/-- a list of ints -/
theorem each_ints : ∀ {ns : List Int} {ps : List Im}, Rf H ps → ∃ qs, UnIs K (each .lf (ns.map V.int) (ns.map PyData.int)) qs ∧ Rf H (qs ++ ps)
  | [], ps, r => ⟨[], .nil, r⟩
  | n :: ns, ps, r => by
    obtain ⟨qs, h1, h2⟩ := each_ints (ns := ns) r
    exact ⟨_, .cons (p := [_]) rfl h1, h2.addps mono_dp (.int n)⟩
theorem Rp.ints (R : Rp K H L) (ns : List Int) : Rp K H (each .lf (ns.map V.int) (ns.map PyData.int) ++ L) := by
  obtain ⟨ps, u, r⟩ := R
  obtain ⟨qs, h1, h2⟩ := each_ints (K := K) (ns := ns) r
  exact ⟨_, h1.app u, h2⟩
theorem Rp.il {ns : List Int} (R : Rp K H (.top a (ns.map V.int) :: L)) : Rp K H (.ow (.li .lf) (.ref a) (IL ns) :: L) := by
  obtain ⟨ps, u, r⟩ := R.tail
  have R2 := R.ints ns
  have R3 : Rp K H (.top a (ns.map V.int) :: (each .lf (ns.map V.int) (ns.map PyData.int) ++ L)) := R2.perm List.perm_middle
  exact Rp.put R3 (by rw [List.length_map, List.length_map])
theorem Rp.mkI {ns : List Int} (R : Rp K H L) (n : H p = none) : Rp K (upd H p (.lst (ns.map V.int))) (.ow (.li .lf) (.ref p) (IL ns) :: L) := (R.lst n).il
theorem each_int_eq : ∀ {xs : List V} {ns : List Int} {H : Hp}, xs.length = ns.length → Rp K H (each .lf xs (ns.map PyData.int) ++ L) → xs = ns.map V.int
  | [], [], _, _, _ => rfl
  | x :: xs, n :: ns, H, l, R => by
    have h : Dq K H x (.int n) := Rp.dp (L := each .lf xs (ns.map PyData.int) ++ L) R
    cases h
    rw [each_int_eq (xs := xs) (ns := ns) (by simpa using l) (Rp.tail R)]; rfl
  | [], _ :: _, _, l, _ => by simp at l
  | _ :: _, [], _, l, _ => by simp at l
theorem Rp.dropL : ∀ {A : List It}, Rp K H (A ++ L) → Rp K H L
  | [], R => R
  | _ :: _, R => Rp.dropL (Rp.tail R)
theorem Rp.ilTop {ns : List Int} (R : Rp K H (.ow (.li .lf) v (IL ns) :: L)) : ∃ a, v = .ref a ∧ Rp K H (.top a (ns.map V.int) :: L) := by
  obtain ⟨a, xs, rfl, l, R⟩ := R.take
  obtain rfl := each_int_eq (by simpa using l) R.tail
  exact ⟨a, rfl, Rp.dropL (A := each .lf (ns.map V.int) (ns.map PyData.int)) (R.perm List.perm_middle.symm)⟩
/-! choosing -/
inductive Sel : It → List It → List It → Prop
  | here {m : It} {L : List It} : Sel m (m :: L) L
  | there {m x : It} {L L' : List It} : Sel m L L' → Sel m (x :: L) (x :: L')
theorem Sel.perm {m : It} : ∀ {L L' : List It}, Sel m L L' → L.Perm (m :: L')
  | _, _, .here => .refl _
  | _, _, .there h => ((Sel.perm h).cons _).trans (.swap _ _ _)
theorem Sel.app {m : It} : ∀ {A L L' : List It}, Sel m L L' → Sel m (A ++ L) (A ++ L')
  | [], _, _, h => h
  | _ :: _, _, _, h => .there (Sel.app h)
theorem Rp.sel {m : It} (h : Sel m L L') (R : Rp K H L) : Rp K H (m :: L') := R.perm h.perm
inductive Wk : List It → List It → Prop
  | refl {L : List It} : Wk L L
  | take {m : It} {L L1 L' : List It} : Sel m L L1 → Wk L1 L' → Wk L (m :: L')
  | dup {v : V} {d : PyData} {L L1 L' : List It} : Sel (.sh v d) L L1 → Wk L L' → Wk L (.sh v d :: L')
  | dupP {P : Hp → Prop} {L L1 L' : List It} : Sel (.ps P) L L1 → Wk L L' → Wk L (.ps P :: L')
  | drop {m : It} {L L' : List It} : Wk L L' → Wk (m :: L) L'
  | dropA {A L L' : List It} : Wk L L' → Wk (A ++ L) L'
theorem Rp.wkA (w : Wk L L') : ∀ {A : List It}, Rp K H (A ++ L) → Rp K H (A ++ L') := by
  induction w with
  | refl => intro A R; exact R
  | @take m L L1 L' h _ ih =>
    intro A R
    have R1 : Rp K H (A ++ [m] ++ L1) := R.perm ((h.perm.append_left A).trans (by rw [List.append_assoc]; exact .refl _))
    have := ih R1
    rwa [List.append_assoc] at this
  | @dup v d L L1 L' h _ ih =>
    intro A R
    have R1 : Rp K H (.sh v d :: (A ++ L1)) := R.perm ((h.perm.append_left A).trans List.perm_middle)
    have R2 : Rp K H (A ++ [.sh v d] ++ L) := R1.dup.perm (by
      rw [List.append_assoc]
      refine (List.Perm.cons _ (List.perm_middle.symm.trans (h.perm.symm.append_left A))).trans ?_
      exact List.perm_middle.symm)
    have := ih R2
    rwa [List.append_assoc] at this
  | @dupP P L L1 L' h _ ih =>
    intro A R
    have R1 : Rp K H (.ps P :: (A ++ L1)) := R.perm ((h.perm.append_left A).trans List.perm_middle)
    have R2 : Rp K H (A ++ [.ps P] ++ L) := R1.dupP.perm (by
      rw [List.append_assoc]
      refine (List.Perm.cons _ (List.perm_middle.symm.trans (h.perm.symm.append_left A))).trans ?_
      exact List.perm_middle.symm)
    have := ih R2
    rwa [List.append_assoc] at this
  | @drop m L L' _ ih =>
    intro A R
    exact ih (Rp.tail (R.perm List.perm_middle))
  | @dropA B L L' _ ih =>
    intro A R
    refine ih (Rp.dropL (A := B) (R.perm ?_))
    rw [← List.append_assoc, ← List.append_assoc]
    exact List.perm_append_comm.append_right _
theorem Rp.wk (R : Rp K H L) (w : Wk L L') : Rp K H L' := Rp.wkA w (A := []) R
theorem sel_of_mem {m : It} : ∀ {L : List It}, m ∈ L → ∃ L', Sel m L L'
  | _ :: _, .head _ => ⟨_, .here⟩
  | _ :: _, .tail _ h => by
    obtain ⟨L', h'⟩ := sel_of_mem h
    exact ⟨_, .there h'⟩
theorem Rp.dpOf (R : Rp K H L) (h : It.ow s v d ∈ L) : Dq K H v d := by
  obtain ⟨L', h'⟩ := sel_of_mem h
  exact (R.sel h').dp
theorem Rp.psOf {P : Hp → Prop} (R : Rp K H L) (h : It.ps P ∈ L) : P H := by
  obtain ⟨L', h'⟩ := sel_of_mem h
  exact (R.sel h').psAt
theorem Rp.topOf (R : Rp K H L) (h : It.top a xs ∈ L) : H a = some (.lst xs) := by
  obtain ⟨L', h'⟩ := sel_of_mem h
  exact (R.sel h').topAt
theorem Rp.shM (R : Rp K H L) (h : It.sh v d ∈ L) : Rp K H (.sh v d :: L) := by
  obtain ⟨L', h'⟩ := sel_of_mem h
  exact R.wk (.dup h' .refl)
theorem Rp.psM {P : Hp → Prop} (R : Rp K H L) (h : It.ps P ∈ L) : Rp K H (.ps P :: L) := by
  obtain ⟨L', h'⟩ := sel_of_mem h
  exact R.wk (.dupP h' .refl)
theorem Rp.psI {P P' : Hp → Prop} (R : Rp K H L) (h : It.ps P ∈ L) (i : ∀ H, P H → P' H) (m : ∀ H H', Same H H' → P' H → P' H') : Rp K H (.ps P' :: L) :=
  ((R.psM h).imp i m).wk (.take .here (.drop .refl))
theorem Rp.shI {P' : Hp → Prop} (R : Rp K H L) (h : It.sh v d ∈ L) (i : ∀ H, Dq K H v d → P' H) (m : ∀ H H', Same H H' → P' H → P' H') : Rp K H (.ps P' :: L) :=
  ((R.shM h).impS i m).wk (.take .here (.drop .refl))
/-- a shared list seen: its items with their data -/
def Sv (K : PySem.W.Frag) (a : Addr) (xs : List V) (ds : List PyData) (H : Hp) : Prop := H a = some (.lst xs) ∧ DqAll K H xs ds
def Tv (K : PySem.W.Frag) (a : Addr) (xs : List V) (ds : List PyData) (H : Hp) : Prop := SqT K H a xs ∧ DqAll K H xs ds
theorem sv_mono : ∀ H H' : Hp, Same H H' → Sv K a xs ds H → Sv K a xs ds H' := fun _ _ s h => ⟨s _ _ h.1, dqAll_same s _ _ h.2⟩
theorem tv_mono : ∀ H H' : Hp, Same H H' → Tv K a xs ds H → Tv K a xs ds H' := fun _ _ s h => ⟨sqT_same s h.1, dqAll_same s _ _ h.2⟩
theorem Rp.sv (R : Rp K H L) (h : It.sh v (.list ds) ∈ L) : ∃ a xs, v = .ref a ∧ xs.length = ds.length ∧ H a = some (.lst xs) ∧ Rp K H (.ps (Sv K a xs ds) :: L) := by
  obtain ⟨L', h'⟩ := sel_of_mem h
  obtain ⟨_, _, h1, t, r⟩ := (R.shM h).inv
  cases h1
  have k := Rf.psK r
  obtain ⟨a, xs, rfl, h3, h4⟩ := Dq.lstI k.2
  exact ⟨a, xs, rfl, DqAll.len h4, wo_same _ _ h3, _, .cons (p := [_]) rfl t, r.tail.addps sv_mono ⟨h3, h4⟩⟩
theorem Rp.tv (R : Rp K H L) (h : It.sh v (.tuple ds) ∈ L) : ∃ a xs, v = .ref a ∧ xs.length = ds.length ∧ SqT K H a xs ∧ Rp K H (.ps (Tv K a xs ds) :: L) := by
  obtain ⟨L', h'⟩ := sel_of_mem h
  obtain ⟨_, _, h1, t, r⟩ := (R.shM h).inv
  cases h1
  have k := Rf.psK r
  obtain ⟨a, xs, rfl, h3, h4⟩ := Dq.tupI k.2
  exact ⟨a, xs, rfl, DqAll.len h4, sqT_same wo_same h3, _, .cons (p := [_]) rfl t, r.tail.addps tv_mono ⟨h3, h4⟩⟩
theorem Rp.svAt {i : Nat} (R : Rp K H L) (h : It.ps (Sv K a xs ds) ∈ L) (hx : xs[i]? = some x) (hd : ds[i]? = some d) : Rp K H (.sh x d :: L) := by
  refine Rp.toSh (R.psI h (fun H hh => ?_) mono_dp)
  obtain ⟨e, h1, h2⟩ := DqAll.got hh.2 hx
  rw [hd] at h1; cases h1
  exact h2
theorem Rp.tvAt {i : Nat} (R : Rp K H L) (h : It.ps (Tv K a xs ds) ∈ L) (hx : xs[i]? = some x) (hd : ds[i]? = some d) : Rp K H (.sh x d :: L) := by
  refine Rp.toSh (R.psI h (fun H hh => ?_) mono_dp)
  obtain ⟨e, h1, h2⟩ := DqAll.got hh.2 hx
  rw [hd] at h1; cases h1
  exact h2
/-- an item of a shared list -/
theorem Rp.shL {i : Nat} (R : Rp K H L) (h : It.sh v (.list ds) ∈ L) (hd : ds[i]? = some d) : ∃ a xs x, v = .ref a ∧ H a = some (.lst xs) ∧ xs[i]? = some x ∧ Rp K H (.sh x d :: L) := by
  obtain ⟨a, xs, rfl, l, hs, R'⟩ := R.sv h
  have hi : i < xs.length := by rw [l]; exact (List.getElem?_eq_some_iff.mp hd).1
  have hx : xs[i]? = some xs[i] := List.getElem?_eq_getElem hi
  exact ⟨a, xs, _, rfl, hs, hx, (R'.svAt List.mem_cons_self hx hd).wk (.take .here (.drop .refl))⟩
theorem Rp.shT {i : Nat} (R : Rp K H L) (h : It.sh v (.tuple ds) ∈ L) (hd : ds[i]? = some d) : ∃ a xs x, v = .ref a ∧ SqT K H a xs ∧ xs[i]? = some x ∧ Rp K H (.sh x d :: L) := by
  obtain ⟨a, xs, rfl, l, hs, R'⟩ := R.tv h
  have hi : i < xs.length := by rw [l]; exact (List.getElem?_eq_some_iff.mp hd).1
  have hx : xs[i]? = some xs[i] := List.getElem?_eq_getElem hi
  exact ⟨a, xs, _, rfl, hs, hx, (R'.tvAt List.mem_cons_self hx hd).wk (.take .here (.drop .refl))⟩
/-! beginnings and ends -/
/-- new: all its lists are new, each one of its own -/
def Nw (K : PySem.W.Frag) (H H' : Hp) (s : Own) (v : V) (d : PyData) : Prop := ∃ ps, Unf K s v d ps ∧ Rf H' ps ∧ ∀ a ∈ tops ps, H a = none
/-- the lists of a heap -/
def oldL (H : Hp) : Addr → Prop := fun a => ∃ xs, H a = some (.lst xs)
/-- new altogether: it does not hang on any list that stood -/
def Nf (K : PySem.W.Frag) (H H' : Hp) (s : Own) (v : V) (d : PyData) : Prop := ∃ ps, Unf K s v d ps ∧ Rf H' ps ∧ (∀ a ∈ tops ps, H a = none) ∧ ∀ P, Im.ps P ∈ ps → P (wo H' fun a => a ∈ tops ps ∨ oldL H a)
theorem mono_same {H0 : Hp} : ∀ H H' : Hp, Same H H' → Same H0 H → Same H0 H' := fun _ _ s h => h.trans s
theorem ows_nil {a : Addr} : ¬ ows [] a := by
  rintro (z | ⟨F, hF, _⟩)
  · cases z
  · cases hF
theorem Rp.start : Rp K H [.ps (Same H)] := ⟨_, .cons (p := [_]) rfl .nil, Rf.addps (L := []) mono_same (by rw [wo_no fun _ => ows_nil]; exact Same.refl _) Rf.nil⟩
/-- with nothing of one's own all that stands is shared -/
theorem Rp.argS (R : Rp K H L) (n : ∀ ps, UnIs K L ps → ∀ a, ¬ ows ps a) (h : Dq K H v d) : Rp K H (.sh v d :: L) := by
  obtain ⟨ps, u, r⟩ := R
  exact ⟨_, .cons (p := [_]) rfl u, r.addps mono_dp (by show Dq K (wo H (ows ps)) v d; rw [wo_no (n ps u)]; exact h)⟩
theorem no_sh {L : List It} (n : ∀ ps, UnIs K L ps → ∀ a, ¬ ows ps a) : ∀ ps, UnIs K (.sh v d :: L) ps → ∀ a, ¬ ows ps a := fun ps u a h => by
  obtain ⟨p, q, rfl, h1, h2⟩ := u.inv
  cases h1
  exact n q h2 a (ows_ps h)
theorem no_ps {P : Hp → Prop} {L : List It} (n : ∀ ps, UnIs K L ps → ∀ a, ¬ ows ps a) : ∀ ps, UnIs K (.ps P :: L) ps → ∀ a, ¬ ows ps a := fun ps u a h => by
  obtain ⟨p, q, rfl, h1, h2⟩ := u.inv
  cases h1
  exact n q h2 a (ows_ps h)
theorem no_nil : ∀ ps, UnIs K [] ps → ∀ a, ¬ ows ps a := fun ps u a h => by
  cases u
  exact ows_nil h
/-- from arguments -/
theorem Rp.arg1 (h : Dq K H v d) : Rp K H [.sh v d, .ps (Same H)] := Rp.argS Rp.start (no_ps no_nil) h
theorem Rp.arg2 (h : Dq K H v d) (h2 : Dq K H x e) : Rp K H [.sh v d, .sh x e, .ps (Same H)] := Rp.argS (Rp.arg1 h2) (no_sh (no_ps no_nil)) h
theorem Rp.arg3 (h : Dq K H v d) (h2 : Dq K H x e) (h3 : Dq K H y f) : Rp K H [.sh v d, .sh x e, .sh y f, .ps (Same H)] := Rp.argS (Rp.arg2 h2 h3) (no_sh (no_sh (no_ps no_nil))) h
theorem Rp.out (R : Rp K H' (.ow s v d :: .ps (Same H) :: L)) : Same H H' ∧ Nw K H H' s v d := by
  obtain ⟨p, _, h, t1, r⟩ := R.inv
  obtain ⟨_, ps, rfl, h2, t⟩ := t1.inv
  cases h2
  have k := r.all (.ps (Same H)) (List.mem_append_right _ List.mem_cons_self)
  refine ⟨k.2.trans wo_same, p, h, r.sub (List.sublist_append_left _ _), fun a ha => ?_⟩
  cases e : H a with
  | none => rfl
  | some o =>
    have := k.2 _ _ e
    rw [wo_in (ows_app.mpr (.inl (.inl ha)))] at this
    cases this
/-- the lists that stand, but for one -/
noncomputable def oldF (H : Hp) (p : Option Addr) : Addr → Option (List V) := fun a => @ite _ (some a = p) (Classical.propDecidable _) none (match H a with | some (.lst xs) => some xs | _ => none)
theorem oldF_some {q : Option Addr} (h : oldF H q a = some xs) : some a ≠ q ∧ H a = some (.lst xs) := by
  unfold oldF at h
  by_cases z : some a = q
  · rw [if_pos z] at h; cases h
  · rw [if_neg z] at h
    refine ⟨z, ?_⟩
    cases e : H a with
    | none => rw [e] at h; cases h
    | some o => cases o <;> rw [e] at h <;> first | (cases h; rfl) | cases h
theorem oldF_of {q : Option Addr} (z : some a ≠ q) (e : H a = some (.lst xs)) : oldF H q a = some xs := by
  unfold oldF
  rw [if_neg z, e]
/-- a changed list (the pool) as argument; all else that stands is left alone -/
theorem Rp.startP {P : List V → Prop} (e : H p = some (.lst xs)) (h : P xs) : Rp K H [.pr P p, .ps (Same (wo H (oldL H))), .fr (oldF H (some p))] := by
  refine ⟨_, .cons (p := [.top p xs]) ⟨xs, h, rfl⟩ (.cons (p := [_]) rfl (.cons (p := [_]) rfl .nil)), ⟨by show [p].Nodup; simp, fun F hF a ha => ?_, fun m hm => ?_⟩⟩
  · have ha : a = p := List.mem_singleton.mp ha
    have hF : Im.fr F ∈ [Im.top p xs, .ps (Same (wo H (oldL H))), .fr (oldF H (some p))] := hF
    simp only [List.mem_cons, reduceCtorEq, List.not_mem_nil, or_false, false_or, Im.fr.injEq] at hF
    subst hF
    cases q : oldF H (some p) a with
    | none => rfl
    | some ys => exact ((oldF_some q).1 (by rw [ha])).elim
  · have hm : m ∈ [Im.top p xs, .ps (Same (wo H (oldL H))), .fr (oldF H (some p))] := hm
    have ow : ∀ a, ows [Im.top p xs, .ps (Same (wo H (oldL H))), .fr (oldF H (some p))] a → oldL H a := fun a ha => by
      rcases ows_top ha with z | z
      · rw [z]; exact ⟨_, e⟩
      · rcases ows_ps z with z | ⟨F, hF, ys, z⟩
        · cases z
        · simp only [List.mem_cons, List.not_mem_nil, or_false, Im.fr.injEq] at hF
          subst hF
          exact ⟨_, (oldF_some z).2⟩
    rcases List.mem_cons.mp hm with rfl | hm
    · exact e
    rcases List.mem_cons.mp hm with rfl | hm
    · exact ⟨mono_same, wo_less ow⟩
    · cases List.mem_singleton.mp hm
      exact fun a ys ha => (oldF_some ha).2
/-- no argument that is a list; all that stands is left alone -/
theorem Rp.startF : Rp K H [.ps (Same (wo H (oldL H))), .fr (oldF H none)] := by
  refine ⟨_, .cons (p := [_]) rfl (.cons (p := [_]) rfl .nil), ⟨by show ([] : List Addr).Nodup; simp, fun F hF a ha => (by cases ha), fun m hm => ?_⟩⟩
  have hm : m ∈ [Im.ps (Same (wo H (oldL H))), .fr (oldF H none)] := hm
  have ow : ∀ a, ows [Im.ps (Same (wo H (oldL H))), .fr (oldF H none)] a → oldL H a := fun a ha => by
    rcases ows_ps ha with z | ⟨F, hF, ys, z⟩
    · cases z
    · simp only [List.mem_cons, List.not_mem_nil, or_false, Im.fr.injEq] at hF
      subst hF
      exact ⟨_, (oldF_some z).2⟩
  rcases List.mem_cons.mp hm with rfl | hm
  · exact ⟨mono_same, wo_less ow⟩
  · cases List.mem_singleton.mp hm
    exact fun a ys ha => (oldF_some ha).2
theorem unf_nofr : ∀ (s : Own) {v : V} {d : PyData} {q : List Im}, Unf K s v d q → ∀ F, Im.fr F ∉ q
  | .lf, _, _, _, e, F => by cases e; simp
  | .li s, v, d, q, ⟨a, xs, ds, qs, e1, e2, e3, h⟩, F => by
    subst e1 e2 e3
    intro z
    replace z : Im.fr F ∈ qs := by
      rcases List.mem_cons.mp z with z | z
      · cases z
      · exact z
    induction h with
    | nil => cases z
    | cons h1 _ ih =>
      rcases List.mem_append.mp z with z | z
      · exact unf_nofr s h1 F z
      · exact ih z
  | .t2 s1 s2, v, d, q, ⟨a, x1, x2, d1, d2, p1, p2, e1, e2, e3, h1, h2⟩, F => by
    subst e1 e2 e3
    intro z
    rcases List.mem_cons.mp z with z | z
    · cases z
    · rcases List.mem_append.mp z with z | z
      · exact unf_nofr s1 h1 F z
      · exact unf_nofr s2 h2 F z
  | .t3 s1 s2 s3, v, d, q, ⟨a, x1, x2, x3, d1, d2, d3, p1, p2, p3, e1, e2, e3, h1, h2, h3⟩, F => by
    subst e1 e2 e3
    intro z
    rcases List.mem_cons.mp z with z | z
    · cases z
    · rcases List.mem_append.mp z with z | z
      · exact unf_nofr s1 h1 F z
      · rcases List.mem_append.mp z with z | z
        · exact unf_nofr s2 h2 F z
        · exact unf_nofr s3 h3 F z
theorem but_old {q : Option Addr} (hF : ∀ b ys, oldF H q b = some ys → H' b = some (.lst ys)) (hS : Same (wo H (oldL H)) H') : ∀ b o, some b ≠ q → H b = some o → H' b = some o := fun b o n e => by
  cases o with
  | lst ys => exact hF b ys (oldF_of n e)
  | _ => exact hS b _ (by rw [wo_out (by rintro ⟨ys, z⟩; rw [e] at z; cases z)]; exact e)
theorem Rp.nf (R : Rp K H' (.ow s v d :: L)) (hold : ∀ ps, UnIs K L ps → ∀ a, oldL H a → ows ps a) (hn : ∀ a xs, H' a = some (.lst xs) → ¬ oldL H a → H a = none) : Nf K H H' s v d := by
  obtain ⟨p, q, h, t, r⟩ := R.inv
  refine ⟨p, h, r.sub (List.sublist_append_left _ _), fun a ha => ?_, fun P hP => ?_⟩
  · obtain ⟨xs, hm⟩ := mem_tops.mp ha
    refine hn a xs (r.all _ (List.mem_append_left _ hm)) fun z => ?_
    rcases hold q t a z with z | ⟨F, hF, ys, z⟩
    · have nd := r.nd
      rw [tops_app] at nd
      exact (List.nodup_append.mp nd).2.2 a ha a z rfl
    · rw [r.fd F (List.mem_append_right _ hF) a (by rw [tops_app]; exact List.mem_append_left _ ha)] at z; cases z
  · have k := r.all (.ps P) (List.mem_append_left _ hP)
    refine k.1 _ _ (wo_less fun a ha => ?_) k.2
    rcases ha with z | z
    · exact ows_app.mpr (.inl (.inl z))
    · exact ows_app.mpr (.inr (hold q t a z))
theorem new_or {q : Option Addr} (b : ∀ b o, some b ≠ q → H b = some o → H' b = some o) (hq : ∀ p, q = some p → oldL H p) {a : Addr} {xs : List V} (e : H' a = some (.lst xs)) (n : ¬ oldL H a) : H a = none := by
  cases z : H a with
  | none => rfl
  | some o =>
    have nq : some a ≠ q := fun h => n (hq a h.symm)
    have := b a o nq z
    rw [e] at this; cases this
    exact (n ⟨xs, z⟩).elim
theorem Rp.outF (R : Rp K H' (.ow s v d :: .ps (Same (wo H (oldL H))) :: .fr (oldF H none) :: L)) : Same H H' ∧ Nf K H H' s v d := by
  have R2 := R.tail
  have hS : Same (wo H (oldL H)) H' := R2.psAt
  obtain ⟨p, q, h, t, r⟩ := R2.tail.inv
  cases h
  have b := but_old (fun b ys z => r.all _ List.mem_cons_self b ys z) hS
  have sm : Same H H' := fun x o e => b x o (by simp) e
  refine ⟨sm, R.nf (fun ps u a ha => ?_) fun a xs e n => new_or b (by simp) e n⟩
  obtain ⟨p1, q1, rfl, h1, t1⟩ := u.inv
  obtain ⟨p2, q2, rfl, h2, t2⟩ := t1.inv
  cases h2
  obtain ⟨xs, ha⟩ := ha
  exact ows_app.mpr (.inr (.inr ⟨_, List.mem_cons_self, xs, oldF_of (by simp) ha⟩))
theorem Rp.outP {P : List V → Prop} (hp : oldL H p) (R : Rp K H' (.ow s v d :: .pr P p :: .ps (Same (wo H (oldL H))) :: .fr (oldF H (some p)) :: L)) : But p H H' ∧ (∃ xs, H' p = some (.lst xs) ∧ P xs) ∧ Nf K H H' s v d := by
  have R2 := R.tail
  have hS : Same (wo H (oldL H)) H' := R2.tail.psAt
  obtain ⟨p', q, h, t, r⟩ := R2.tail.tail.inv
  cases h
  have b := but_old (fun b ys z => r.all _ List.mem_cons_self b ys z) hS
  refine ⟨fun x o n e => b x o (by simpa using n) e, R2.prAt, R.nf (fun ps u a ha => ?_) fun a xs e n => new_or b (by rintro _ ⟨⟩; exact hp) e n⟩
  obtain ⟨p1, q1, rfl, ⟨zs, _, h1⟩, t1⟩ := u.inv
  cases h1
  obtain ⟨p2, q2, rfl, h2, t2⟩ := t1.inv
  obtain ⟨p3, q3, rfl, h3, t3⟩ := t2.inv
  cases h2; cases h3
  by_cases z : a = p
  · exact .inl (by rw [z]; exact List.mem_cons_self)
  · obtain ⟨xs, ha⟩ := ha
    exact ows_app.mpr (.inr (ows_app.mpr (.inr (.inr ⟨_, List.mem_cons_self, xs, oldF_of (by simpa using z) ha⟩))))
end
section
variable {K : PySem.W.Frag} {H H' : Hp} {L L' A B : List It} {a p : Addr} {xs ys : List V} {o : HO} {v x y z : V} {d e f : PyData} {ds : List PyData} {s s1 s2 s3 : Own}
def lfree : Own → PyData → Prop
  | .lf, d => noL d = true
  | .li s, .list ds => ∀ d ∈ ds, lfree s d
  | .t2 s1 s2, .tuple [d1, d2] => lfree s1 d1 ∧ lfree s2 d2
  | .t3 s1 s2 s3, .tuple [d1, d2, d3] => lfree s1 d1 ∧ lfree s2 d2 ∧ lfree s3 d3
  | _, _ => True
theorem unf_flat {H1 H2 : Hp} (t : ∀ a xs, SqT K H1 a xs → SqT K H2 a xs) : ∀ (s : Own) {v : V} {d : PyData} {q : List Im}, Unf K s v d q → lfree s d → ∀ P, Im.ps P ∈ q → P H1 → P H2
  | .lf, v, d, q, e, l, P, h => by
    cases e
    cases List.mem_singleton.mp h
    exact dq_noL t d v l
  | .li s, v, d, q, ⟨a, xs, ds, qs, e1, e2, e3, h⟩, l, P, hP => by
    subst e1 e2 e3
    have hQ : Im.ps P ∈ qs := by
      rcases List.mem_cons.mp hP with z | hP
      · cases z
      · exact hP
    clear hP
    replace l : ∀ d ∈ ds, lfree s d := l
    induction h with
    | nil => cases hQ
    | cons h1 h2 ih =>
      rcases List.mem_append.mp hQ with z | z
      · exact unf_flat t s h1 (l _ List.mem_cons_self) P z
      · exact ih z (fun d hd => l d (List.mem_cons_of_mem _ hd))
  | .t2 s1 s2, v, d, q, ⟨a, x1, x2, d1, d2, p1, p2, e1, e2, e3, h1, h2⟩, l, P, hP => by
    subst e1 e2 e3
    rcases List.mem_cons.mp hP with z | hP
    · cases z; exact t _ _
    rcases List.mem_append.mp hP with z | z
    · exact unf_flat t s1 h1 l.1 P z
    · exact unf_flat t s2 h2 l.2 P z
  | .t3 s1 s2 s3, v, d, q, ⟨a, x1, x2, x3, d1, d2, d3, p1, p2, p3, e1, e2, e3, h1, h2, h3⟩, l, P, hP => by
    subst e1 e2 e3
    rcases List.mem_cons.mp hP with z | hP
    · cases z; exact t _ _
    rcases List.mem_append.mp hP with z | hP
    · exact unf_flat t s1 h1 l.1 P z
    rcases List.mem_append.mp hP with z | z
    · exact unf_flat t s2 h2 l.2.1 P z
    · exact unf_flat t s3 h3 l.2.2 P z
/-- what is new put beside what stands -/
theorem Rf.join {A B : List Im} (RA : Rf H' A) (RB : Rf H B) (RB' : Rf H' B) (h : ∀ b o, ¬ ows B b → H b = some o → H' b = some o) (nw : ∀ a ∈ tops A, H a = none) (nf : ∀ F, Im.fr F ∉ A)
    (hA : ∀ P, Im.ps P ∈ A → P (wo H' fun a => a ∈ tops A ∨ ows B a)) : Rf H' (A ++ B) := by
  have dj : ∀ a ∈ tops A, ¬ ows B a := fun a ha z => by
    obtain ⟨ys, e⟩ := RB.lists z
    rw [nw a ha] at e; cases e
  have oA : ∀ a, ows A a → a ∈ tops A := fun a ha => by
    rcases ha with z | ⟨F, hF, _⟩
    · exact z
    · exact (nf F hF).elim
  refine ⟨by rw [tops_app]; exact List.nodup_append.mpr ⟨RA.nd, RB.nd, fun a ha b hb z => dj a ha (z ▸ .inl hb)⟩, fun F hF a ha => ?_, fun m hm => ?_⟩
  · rcases List.mem_append.mp hF with z | z
    · exact (nf F z).elim
    · rw [tops_app] at ha
      rcases List.mem_append.mp ha with ha | ha
      · cases q : F a with
        | none => rfl
        | some ys => exact (dj a ha (.inr ⟨F, z, ys, q⟩)).elim
      · exact RB.fd F z a ha
  · rcases List.mem_append.mp hm with hm | hm
    · have k := RA.all m hm
      cases m with
      | ps P =>
        refine ⟨k.1, k.1 _ _ (wo_less fun a ha => ?_) (hA P hm)⟩
        rcases ows_app.mp ha with z | z
        · exact .inl (oA a z)
        · exact .inr z
      | top a xs => exact k
      | fr F => exact (nf F hm).elim
    · have k := RB.all m hm
      cases m with
      | ps P =>
        refine ⟨k.1, k.1 _ _ (fun b o e => ?_) k.2⟩
        obtain ⟨nb, e⟩ := wo_some e
        rw [wo_out ?_]; exact h b o nb e
        intro z
        rcases ows_app.mp z with z | z
        · rw [nw b (oA b z)] at e; cases e
        · exact nb z
      | top a xs => exact RB'.all _ hm
      | fr F => exact RB'.all _ hm
theorem Rf.both {A B : List Im} (RA : Rf H' A) (RB' : Rf H' B) (nf : ∀ F, Im.fr F ∉ A) {P : Hp → Prop} (hP : Im.ps P ∈ A)
    (hA : ∀ H1 H2, (∀ a xs, SqT K H1 a xs → SqT K H2 a xs) → P H1 → P H2) : P (wo H' fun a => a ∈ tops A ∨ ows B a) := by
  refine hA _ _ (fun a xs h => wo_sqt0 (fun b z => ?_) (sqT_same wo_same h)) (RA.all _ hP).2
  rcases z with z | z
  · exact RA.lists (.inl z)
  · exact RB'.lists z
theorem Rp.inn (R : Rp K H L) (sm : Same H H') (N : Nw K H H' s v d) (l : lfree s d) : Rp K H' (.ow s v d :: L) := by
  obtain ⟨ps, u, r⟩ := R
  obtain ⟨qs, hu, rq, nw⟩ := N
  exact ⟨_, .cons hu u, Rf.join rq r (r.same sm) (fun b o _ e => sm b o e) nw (unf_nofr s hu) fun P hP => Rf.both (K := K) rq (r.same sm) (unf_nofr s hu) hP fun H1 H2 t => unf_flat t s hu l P hP⟩
theorem Rp.innF (R : Rp K H L) (sm : Same H H') (N : Nf K H H' s v d) : Rp K H' (.ow s v d :: L) := by
  obtain ⟨ps, u, r⟩ := R
  obtain ⟨qs, hu, rq, nw, nf⟩ := N
  refine ⟨_, .cons hu u, Rf.join rq r (r.same sm) (fun b o _ e => sm b o e) nw (unf_nofr s hu) fun P hP => (rq.all _ hP).1 _ _ (wo_less fun a ha => ?_) (nf P hP)⟩
  rcases ha with z | z
  · exact .inl z
  · exact .inr (r.lists z)
theorem innP0 {P P' : List V → Prop} (R : Rp K H (.pr P p :: L)) (sm : But p H H') (e : H' p = some (.lst ys)) (h : P' ys) {qs : List Im} (hu : Unf K s v d qs) (rq : Rf H' qs) (nw : ∀ a ∈ tops qs, H a = none)
    (hA : ∀ ps xs, Rf H (.top p xs :: ps) → Rf H' (.top p ys :: ps) → ∀ P, Im.ps P ∈ qs → P (wo H' fun a => a ∈ tops qs ∨ ows (.top p ys :: ps) a)) : Rp K H' (.ow s v d :: .pr P' p :: L) := by
  obtain ⟨_, ps, ⟨xs, hP, h1⟩, u, r⟩ := R.inv
  cases h1
  have r' : Rf H' (.top p ys :: ps) := Rf.mut sm e r
  refine ⟨_, .cons hu (.cons (p := [.top p ys]) ⟨ys, h, rfl⟩ u), ?_⟩
  have nf := unf_nofr s hu
  have eqo : ∀ a, ows (.top p ys :: ps) a → ows (.top p xs :: ps) a := fun a ha => by
    rcases ows_top ha with z | z
    · rw [z]; exact .inl (by rw [tops_top]; exact List.mem_cons_self)
    · exact ows_sub (fun m hm => List.mem_cons_of_mem _ hm) z
  have r2 : Rf H (.top p xs :: ps) := r
  -- the join, the list at p changed
  have dj : ∀ a ∈ tops qs, ¬ ows (.top p ys :: ps) a := fun a ha z => by
    obtain ⟨zs, e2⟩ := r2.lists (eqo a z)
    rw [nw a ha] at e2; cases e2
  have oA : ∀ a, ows qs a → a ∈ tops qs := fun a ha => by
    rcases ha with z | ⟨F, hF, _⟩
    · exact z
    · exact (nf F hF).elim
  show Rf H' (qs ++ (.top p ys :: ps))
  refine ⟨by rw [tops_app]; exact List.nodup_append.mpr ⟨rq.nd, r'.nd, fun a ha b hb z => dj a ha (z ▸ .inl hb)⟩, fun F hF a ha => ?_, fun m hm => ?_⟩
  · rcases List.mem_append.mp hF with z | z
    · exact (nf F z).elim
    · rw [tops_app] at ha
      rcases List.mem_append.mp ha with ha | ha
      · cases q : F a with
        | none => rfl
        | some zs => exact (dj a ha (.inr ⟨F, z, zs, q⟩)).elim
      · exact r'.fd F z a ha
  · rcases List.mem_append.mp hm with hm | hm
    · have k := rq.all m hm
      cases m with
      | ps P =>
        refine ⟨k.1, k.1 _ _ (wo_less fun a ha => ?_) (hA ps xs r2 r' P hm)⟩
        rcases ows_app.mp ha with z | z
        · exact .inl (oA a z)
        · exact .inr z
      | top a xs => exact k
      | fr F => exact (nf F hm).elim
    · have k := r'.all m hm
      cases m with
      | ps P =>
        have k0 := r2.all (.ps P) (by rcases List.mem_cons.mp hm with z | z; cases z; exact List.mem_cons_of_mem _ z)
        refine ⟨k0.1, k0.1 _ _ (fun b o q => ?_) k0.2⟩
        obtain ⟨nb, q⟩ := wo_some q
        have nb2 : b ≠ p := fun z => nb (by rw [z]; exact .inl (by rw [tops_top]; exact List.mem_cons_self))
        rw [wo_out ?_]; exact sm b o nb2 q
        intro z
        rcases ows_app.mp z with z | z
        · rw [nw b (oA b z)] at q; cases q
        · exact nb (eqo b z)
      | top a zs => exact k
      | fr F => exact k
theorem Rp.innP {P P' : List V → Prop} (R : Rp K H (.pr P p :: L)) (sm : But p H H') (e : H' p = some (.lst ys)) (h : P' ys) (N : Nw K H H' s v d) (l : lfree s d) : Rp K H' (.ow s v d :: .pr P' p :: L) := by
  obtain ⟨qs, hu, rq, nw⟩ := N
  exact innP0 R sm e h hu rq nw fun ps xs _ r' P hP => Rf.both (K := K) rq r' (unf_nofr s hu) hP fun H1 H2 t => unf_flat t s hu l P hP
theorem Rp.innPF {P P' : List V → Prop} (R : Rp K H (.pr P p :: L)) (sm : But p H H') (e : H' p = some (.lst ys)) (h : P' ys) (N : Nf K H H' s v d) : Rp K H' (.ow s v d :: .pr P' p :: L) := by
  obtain ⟨qs, hu, rq, nw, nf⟩ := N
  refine innP0 R sm e h hu rq nw fun ps xs r _ P hP => (rq.all _ hP).1 _ _ (wo_less fun a ha => ?_) (nf P hP)
  rcases ha with z | z
  · exact .inl z
  · refine .inr (r.lists (b := a) ?_)
    rcases ows_top z with z | z
    · rw [z]; exact .inl (by rw [tops_top]; exact List.mem_cons_self)
    · exact ows_sub (fun m hm => List.mem_cons_of_mem _ hm) z
theorem lfree_il {ns : List Int} : lfree (.li .lf) (IL ns) := fun d hd => by
  obtain ⟨n, _, rfl⟩ := List.mem_map.mp hd
  rfl
theorem lfree_fl {qs : List Rat} : lfree (.li .lf) (FL qs) := fun d hd => by
  obtain ⟨n, _, rfl⟩ := List.mem_map.mp hd
  rfl
theorem lfree_td {t : List (List Rat)} : lfree (.li (.li .lf)) (TD t) := fun d hd => by
  obtain ⟨n, _, rfl⟩ := List.mem_map.mp hd
  exact lfree_fl
end
/-! ### the way from one list of items to another, by a search for instances -/
class SelC (m : It) (L : List It) (L1 : outParam (List It)) : Prop where
  pf : Sel m L L1
class SufC (L L' : List It) : Prop where
  pf : Wk L L'
class WkC (L L' : List It) : Prop where
  pf : Wk L L'
section
variable {m x : It} {A L L1 L' : List It} {v : V} {d : PyData} {P : Hp → Prop}
instance (priority := 900) : SelC m (m :: L) L := ⟨.here⟩
instance (priority := 800) [h : SelC m L L1] : SelC m (x :: L) (x :: L1) := ⟨.there h.pf⟩
instance (priority := 800) [h : SelC m L L1] : SelC m (A ++ L) (A ++ L1) := ⟨Sel.app h.pf⟩
instance (priority := 900) : SufC L L := ⟨.refl⟩
instance (priority := 800) [h : SufC L L'] : SufC (x :: L) L' := ⟨.drop h.pf⟩
instance (priority := 800) [h : SufC L L'] : SufC (A ++ L) L' := ⟨.dropA h.pf⟩
instance (priority := 500) [h : SufC L L'] : WkC L L' := ⟨h.pf⟩
instance (priority := 900) [h : SelC (.ow .lf v d) L L1] [k : WkC L L'] : WkC L (.ow .lf v d :: L') := ⟨.dup h.pf k.pf⟩
instance (priority := 900) [h : SelC (.ps P) L L1] [k : WkC L L'] : WkC L (.ps P :: L') := ⟨.dupP h.pf k.pf⟩
instance (priority := 800) [h : SelC m L L1] [k : WkC L1 L'] : WkC L (m :: L') := ⟨.take h.pf k.pf⟩
end
/-! ### steps with what stands side by side -/
theorem mem_here {α : Type} {m : α} {L : List α} : m ∈ m :: L := List.mem_cons_self
section
variable {K : PySem.W.Frag} {H H' : Hp} {Q : VK} {L L' L1 L2 A B : List It} {a b p : Addr} {xs ys : List V} {o : HO} {v x y z : V} {d e f : PyData} {ds es : List PyData} {s s1 s2 s3 : Own} {i j : Int} {k n : Nat}
theorem Wk.nil : Wk L [] := by
  induction L with
  | nil => exact .refl
  | cons m L ih => exact .drop ih
theorem Rp.raw (R : Rp K H L) (h : It.ow s (.ref a) (.list ds) ∈ L) : ∃ xs, H a = some (.lst xs) ∧ DqAll K H xs ds := by
  obtain ⟨b, xs, e, h1, h2⟩ := Dq.lstI (R.dpOf h)
  cases e
  exact ⟨xs, h1, h2⟩
theorem Rp.rawT (R : Rp K H L) (h : It.ow s (.ref a) (.tuple ds) ∈ L) : ∃ xs, SqT K H a xs ∧ DqAll K H xs ds := by
  obtain ⟨b, xs, e, h1, h2⟩ := Dq.tupI (R.dpOf h)
  cases e
  exact ⟨xs, h1, h2⟩
theorem Rp.fr {x : Rat} (R : Rp K H L) (h : It.ow s (.ref a) (FD x) ∈ L) : Fr K H a x := dq_fr (R.dpOf h)
theorem Rp.ilS {ns : List Int} (R : Rp K H L) (h : It.ow s (.ref a) (IL ns) ∈ L) : SqL K H a (ns.map V.int) := by
  obtain ⟨xs, h1, h2⟩ := R.raw h
  rw [int_dp (dqAll_dp _ _ h2)] at h1
  exact SqL.of h1
/-- a value's datum known: what the value is -/
theorem sh_int (R : Rp K H (.ow s v (.int i) :: L)) : v = .int i := by have := R.dp; cases this; rfl
theorem sh_bl {b : Bool} (R : Rp K H (.ow s v (.bool b) :: L)) : v = .bl b := by have := R.dp; cases this; rfl
theorem sh_str {b : Str} (R : Rp K H (.ow s v (.str b) :: L)) : v = .str b := by have := R.dp; cases this; rfl
theorem sh_non (R : Rp K H (.ow s v .none :: L)) : v = .non := by have := R.dp; cases this; rfl
theorem sh_lst (R : Rp K H (.ow s v (.list ds) :: L)) : ∃ a, v = .ref a := by have := R.dp; cases this; exact ⟨_, rfl⟩
theorem sh_tup (R : Rp K H (.ow s v (.tuple ds) :: L)) : ∃ a, v = .ref a := by have := R.dp; cases this; exact ⟨_, rfl⟩
theorem g_lenS (R : Rp K H L) (h : It.ow s (.ref a) (.list ds) ∈ L) (q : Q (.int ds.length) H) : rLenSeq K [.ref a] H Q := by
  obtain ⟨xs, h1, h2⟩ := R.raw h
  exact g_lenL (SqL.of h1) (by rw [DqAll.len h2]; exact q)
theorem g_lenTS (R : Rp K H L) (h : It.ow s (.ref a) (.tuple ds) ∈ L) (q : Q (.int ds.length) H) : rLenSeq K [.ref a] H Q := by
  obtain ⟨xs, h1, h2⟩ := R.rawT h
  exact g_lenT h1 (by rw [DqAll.len h2]; exact q)
theorem g_ixS (R : Rp K H L) (h : It.sh (.ref a) (.list ds) ∈ L) (hi : i = (k : Nat)) (hd : ds[k]? = some d) (q : ∀ w, Rp K H (.sh w d :: L) → Q w H) : rIxL K (.ref a) (.int i) H Q := by
  obtain ⟨b, xs, w, e, h1, h2, R'⟩ := R.shL h hd
  cases e
  exact g_ixL (SqL.of h1) (by rw [hi]; exact atI_nat h2) (q w R')
theorem g_ixTS (R : Rp K H L) (h : It.sh (.ref a) (.tuple ds) ∈ L) (hi : i = (k : Nat)) (hd : ds[k]? = some d) (q : ∀ w, Rp K H (.sh w d :: L) → Q w H) : rIxT K (.ref a) (.int i) H Q := by
  obtain ⟨b, xs, w, e, h1, h2, R'⟩ := R.shT h hd
  cases e
  exact g_ixT h1 (by rw [hi]; exact atI_nat h2) (q w R')
/-- a flat item -/
theorem g_ixF (R : Rp K H L) (h : It.ow s (.ref a) (.list ds) ∈ L) (hi : i = (k : Nat)) (hd : ds[k]? = some d) (n : noL d = true) (q : ∀ w, Rp K H (.sh w d :: L) → Q w H) : rIxL K (.ref a) (.int i) H Q := by
  obtain ⟨xs, h1, h2⟩ := R.raw h
  obtain ⟨w, hw, hd⟩ := DqAll.get h2 hd
  exact g_ixL (SqL.of h1) (by rw [hi]; exact atI_nat hw) (q w (R.flat hd n))
theorem g_ixTF (R : Rp K H L) (h : It.ow s (.ref a) (.tuple ds) ∈ L) (hi : i = (k : Nat)) (hd : ds[k]? = some d) (n : noL d = true) (q : ∀ w, Rp K H (.sh w d :: L) → Q w H) : rIxT K (.ref a) (.int i) H Q := by
  obtain ⟨xs, h1, h2⟩ := R.rawT h
  obtain ⟨w, hw, hd⟩ := DqAll.get h2 hd
  exact g_ixT h1 (by rw [hi]; exact atI_nat hw) (q w (R.flat hd n))
theorem g_ixI (R : Rp K H L) (h : It.ow s (.ref a) (.list ds) ∈ L) (hi : i = (k : Nat)) (hd : ds[k]? = some (.int j)) (q : Q (.int j) H) : rIxL K (.ref a) (.int i) H Q :=
  g_ixF R h hi hd rfl fun w R' => by rw [sh_int R']; exact q
theorem g_ixTI (R : Rp K H L) (h : It.ow s (.ref a) (.tuple ds) ∈ L) (hi : i = (k : Nat)) (hd : ds[k]? = some (.int j)) (q : Q (.int j) H) : rIxT K (.ref a) (.int i) H Q :=
  g_ixTF R h hi hd rfl fun w R' => by rw [sh_int R']; exact q
/-- == -/
theorem g_eqR (R : Rp K H L) (h1 : It.ow s x d ∈ L) (h2 : It.ow s1 y e ∈ L) (c1 : SeqAt.shaped d = true) (c2 : SeqAt.shaped e = true) (q : Q (.bl (PyData.eqv d e)) H) : rEqD K x y H Q := ⟨d, e, dq_dp _ _ (R.dpOf h1), dq_dp _ _ (R.dpOf h2), c1, c2, q⟩
theorem g_neR (R : Rp K H L) (h1 : It.ow s x d ∈ L) (h2 : It.ow s1 y e ∈ L) (c1 : SeqAt.shaped d = true) (c2 : SeqAt.shaped e = true) (q : Q (.bl (!PyData.eqv d e)) H) : rNeD K x y H Q := ⟨d, e, dq_dp _ _ (R.dpOf h1), dq_dp _ _ (R.dpOf h2), c1, c2, q⟩
/-- an item put behind a list of one's own -/
theorem each_snoc (h : xs.length = ds.length) : each s (xs ++ [x]) (ds ++ [d]) = each s xs ds ++ [.ow s x d] := by
  unfold each
  rw [List.zipWith_append h]; rfl
theorem Rp.app (R : Rp K H (.ow s y d :: .ow (.li s) (.ref p) (.list ds) :: L)) : ∃ acc, H p = some (.lst acc) ∧ acc.length = ds.length ∧ Rp K (upd H p (.lst (acc ++ [y]))) (.ow (.li s) (.ref p) (.list (ds ++ [d])) :: L) := by
  have R1 : Rp K H (.ow (.li s) (.ref p) (.list ds) :: .ow s y d :: L) := R.perm (.swap _ _ _)
  obtain ⟨a, acc, e, l, R2⟩ := R1.take
  cases e
  refine ⟨acc, R2.topAt, l, Rp.put (xs := acc ++ [y]) ?_ (by rw [List.length_append, List.length_append, l]; rfl)⟩
  rw [each_snoc l, List.append_assoc]
  exact R2.mut
/-- an owned list in a call of append -/
theorem g_appR (R : Rp K H L) (h1 : Sel (.ow s y d) L L1) (h2 : Sel (.ow (.li s) (.ref p) (.list ds)) L1 L2) (sz : ds.length < 100000) (q : ∀ H', Rp K H' (.ow (.li s) (.ref p) (.list (ds ++ [d])) :: L2) → Q .non H') : rAppend (.ref p) [y] H Q := by
  have R1 : Rp K H (.ow s y d :: .ow (.li s) (.ref p) (.list ds) :: L2) := (R.sel h1).perm (h2.perm.cons _)
  obtain ⟨acc, e, l, R2⟩ := R1.app
  exact ⟨p, acc, y, rfl, rfl, e, sz_lt (by omega), q _ R2⟩
theorem tyR {T : TE} (R : Rp K H L) (h : It.ow s (.ref p) (.list ds) ∈ L) : tyV K "list" (.ref p) H := by
  obtain ⟨xs, h1, _⟩ := R.raw h
  exact ty_l h1
/-- a call of fractions' deeds -/
theorem Rp.frN {x : Rat} (R : Rp K H L) (n : H p = none) : Rp K (upd H p (.tup (FV x))) (.sh (.ref p) (FD x) :: L) :=
  (R.same (same_new n)).flat (fr_dq sqT_at) rfl
variable {E : XK} {q r : Rat}
theorem g_plusR (R : Rp K H L) (hx : It.ow s (.ref a) (FD q) ∈ L) (hy : It.ow s1 (.ref b) (FD r) ∈ L) (bx : Bd 4000 q) (bu : Bd 4000 r) (k : ∀ c H', Rp K H' (.sh (.ref c) (FD (q + r)) :: L) → Q (.ref c) H') : sp2F K (fun x y => x + y) (fun _ _ => True) ([.ref a, .ref b] ++ []) H Q E :=
  g_plus (R.fr hx) (R.fr hy) bx bu fun p np => k p _ (R.frN np)
theorem g_minusR (R : Rp K H L) (hx : It.ow s (.ref a) (FD q) ∈ L) (hy : It.ow s1 (.ref b) (FD r) ∈ L) (bx : Bd 4000 q) (bu : Bd 4000 r) (k : ∀ c H', Rp K H' (.sh (.ref c) (FD (q - r)) :: L) → Q (.ref c) H') : sp2F K (fun x y => x - y) (fun _ _ => True) ([.ref a, .ref b] ++ []) H Q E :=
  g_minus (R.fr hx) (R.fr hy) bx bu fun p np => k p _ (R.frN np)
theorem g_timesR (R : Rp K H L) (hx : It.ow s (.ref a) (FD q) ∈ L) (hy : It.ow s1 (.ref b) (FD r) ∈ L) (bx : Bd 4000 q) (bu : Bd 4000 r) (k : ∀ c H', Rp K H' (.sh (.ref c) (FD (q * r)) :: L) → Q (.ref c) H') : sp2F K (fun x y => x * y) (fun _ _ => True) ([.ref a, .ref b] ++ []) H Q E :=
  g_times (R.fr hx) (R.fr hy) bx bu fun p np => k p _ (R.frN np)
theorem g_dividedR (R : Rp K H L) (hx : It.ow s (.ref a) (FD q) ∈ L) (hy : It.ow s1 (.ref b) (FD r) ∈ L) (bx : Bd 4000 q) (bu : Bd 4000 r) (h0 : r ≠ 0) (k : ∀ c H', Rp K H' (.sh (.ref c) (FD (q / r)) :: L) → Q (.ref c) H') : sp2F K (fun x y => x / y) (fun _ y => y ≠ 0) ([.ref a, .ref b] ++ []) H Q E :=
  g_divided (R.fr hx) (R.fr hy) bx bu h0 fun p np => k p _ (R.frN np)
theorem g_belowR (R : Rp K H L) (hx : It.ow s (.ref a) (FD q) ∈ L) (hy : It.ow s1 (.ref b) (FD r) ∈ L) (bx : Bd 4000 q) (bu : Bd 4000 r) (k : Q (.bl (decide (q < r))) H) : sp_below K ([.ref a, .ref b] ++ []) H Q E :=
  g_below (R.fr hx) (R.fr hy) bx bu k
theorem g_fracR {t u : Int} (R : Rp K H L) (h0 : u ≠ 0) (h : IB 8500 u) (k : ∀ c H', Rp K H' (.sh (.ref c) (FD (Rat.divInt t u)) :: L) → Q (.ref c) H') : sp_fraction ([.int t, .int u] ++ []) H Q E :=
  g_frac h0 h fun p np => k p _ (R.frN np)
theorem g_eqFR (R : Rp K H L) (hx : It.ow s (.ref a) (FD q) ∈ L) (hy : It.ow s1 (.ref b) (FD r) ∈ L) (k : Q (.bl (decide (q = r))) H) : rEqD K (.ref a) (.ref b) H Q := g_eqF (R.fr hx) (R.fr hy) k
theorem g_neFR (R : Rp K H L) (hx : It.ow s (.ref a) (FD q) ∈ L) (hy : It.ow s1 (.ref b) (FD r) ∈ L) (k : Q (.bl (!decide (q = r))) H) : rNeD K (.ref a) (.ref b) H Q := g_neF (R.fr hx) (R.fr hy) k
/-- displays -/
theorem g_t2R {G : Addr → Prop} (R : Rp K H L) (h1 : Sel (.ow s1 x d) L L1) (h2 : Sel (.ow s2 y e) L1 L2) (k : ∀ c, H c = none → Rp K (upd H c (.tup [x, y])) (.ow (.t2 s1 s2) (.ref c) (.tuple [d, e]) :: L2) → G c) : [x, y].length ≤ sizeLine ∧ ∀ p, H p = none → G p :=
  ⟨two_le, fun p np => k p np (Rp.mk2 ((R.sel h1).perm (h2.perm.cons _)) np)⟩
theorem g_t3R {G : Addr → Prop} (R : Rp K H L) (h1 : Sel (.ow s1 x d) L L1) (h2 : Sel (.ow s2 y e) L1 L2) (h3 : Sel (.ow s3 z f) L2 L') (k : ∀ c, H c = none → Rp K (upd H c (.tup [x, y, z])) (.ow (.t3 s1 s2 s3) (.ref c) (.tuple [d, e, f]) :: L') → G c) : [x, y, z].length ≤ sizeLine ∧ ∀ p, H p = none → G p :=
  ⟨by show 3 ≤ sizeLine; decide, fun p np => k p np (Rp.mk3 ((R.sel h1).perm ((h2.perm.trans (h3.perm.cons _)).cons _)) np)⟩
theorem g_l0R {G : Addr → Prop} (s : Own) (R : Rp K H L) (k : ∀ c, H c = none → Rp K (upd H c (.lst [])) (.ow (.li s) (.ref c) (.list []) :: L) → G c) : ([] : List V).length ≤ sizeLine ∧ ∀ p, H p = none → G p :=
  ⟨Nat.zero_le _, fun p np => k p np (R.mkL0 s np)⟩
theorem g_l1R {G : Addr → Prop} (R : Rp K H L) (h1 : Sel (.ow s x d) L L1) (k : ∀ c, H c = none → Rp K (upd H c (.lst [x])) (.ow (.li s) (.ref c) (.list [d]) :: L1) → G c) : [x].length ≤ sizeLine ∧ ∀ p, H p = none → G p :=
  ⟨by show 1 ≤ sizeLine; decide, fun p np => k p np (Rp.mkL1 (R.sel h1) np)⟩
theorem g_l2R {G : Addr → Prop} (R : Rp K H L) (h1 : Sel (.ow s x d) L L1) (h2 : Sel (.ow s y e) L1 L2) (k : ∀ c, H c = none → Rp K (upd H c (.lst [x, y])) (.ow (.li s) (.ref c) (.list [d, e]) :: L2) → G c) : [x, y].length ≤ sizeLine ∧ ∀ p, H p = none → G p :=
  ⟨two_le, fun p np => k p np (Rp.mkL2 ((R.sel h1).perm (h2.perm.cons _)) np)⟩
theorem int_dq : ∀ {ns : List Int}, DqAll K H (ns.map V.int) (ns.map PyData.int)
  | [] => .nil
  | n :: ns => .cons (.int n) int_dq
/-- written ints -/
theorem g_intsR {G : Addr → Prop} {ns : List Int} (R : Rp K H L) (e : xs = ns.map V.int) (z : ns.length ≤ 100000) (k : ∀ c, H c = none → Rp K (upd H c (.lst xs)) (.ow (.li .lf) (.ref c) (IL ns) :: L) → G c) : xs.length ≤ sizeLine ∧ ∀ p, H p = none → G p := by
  subst e
  exact ⟨sz_le (by rw [List.length_map]; exact z), fun p np => k p np (R.mkI np)⟩
theorem g_tupIR {G : Addr → Prop} {ns : List Int} (R : Rp K H L) (e : xs = ns.map V.int) (z : ns.length ≤ 100000) (k : ∀ c, H c = none → Rp K (upd H c (.tup xs)) (.sh (.ref c) (.tuple (ns.map PyData.int)) :: L) → G c) : xs.length ≤ sizeLine ∧ ∀ p, H p = none → G p := by
  subst e
  refine ⟨sz_le (by rw [List.length_map]; exact z), fun p np => k p np ((R.same (same_new np)).flat (.tup sqT_at ?_) ?_)⟩
  · exact int_dq
  · clear z R k; show noLs _ = true; induction ns with
    | nil => rfl
    | cons n ns ih => exact ih
/-- two own lists, or shared ones, put together -/
theorem each_app (h : xs.length = ds.length) : each s (xs ++ ys) (ds ++ es) = each s xs ds ++ each s ys es := by
  unfold each
  rw [List.zipWith_append h]
theorem g_catR (R : Rp K H L) (h1 : Sel (.ow (.li s) (.ref a) (.list ds)) L L1) (h2 : Sel (.ow (.li s) (.ref b) (.list es)) L1 L2) (z : ds.length + es.length ≤ 100000) (k : ∀ c H', Rp K H' (.ow (.li s) (.ref c) (.list (ds ++ es)) :: L2) → Q (.ref c) H') : rCat (.ref a) (.ref b) H Q := by
  have R1 : Rp K H (.ow (.li s) (.ref a) (.list ds) :: .ow (.li s) (.ref b) (.list es) :: L2) := (R.sel h1).perm (h2.perm.cons _)
  obtain ⟨a', xs, e1, l1, R2⟩ := R1.take
  cases e1
  have ea := R2.topAt
  have R3 : Rp K H (.ow (.li s) (.ref b) (.list es) :: (each s xs ds ++ L2)) := R2.tail.perm List.perm_middle
  obtain ⟨b', ys, e2, l2, R4⟩ := R3.take
  cases e2
  refine ⟨a, b, xs, ys, rfl, rfl, ea, R4.topAt, sz_le (by omega), fun p np => k p _ (Rp.mkL (xs := xs ++ ys) (ds := ds ++ es) ?_ (by rw [List.length_append, List.length_append, l1, l2]) np)⟩
  rw [each_app l1]
  refine R4.tail.perm ?_
  rw [← List.append_assoc]
  exact List.perm_append_comm.append_right _
/-- a shared list of flat things, or any list one only reads, to a new list of the same: [e] + xs, xs + [e] -/
theorem g_catI {ns ms : List Int} (R : Rp K H L) (h1 : It.ow s (.ref a) (IL ns) ∈ L) (h2 : It.ow s1 (.ref b) (IL ms) ∈ L) (z : ns.length + ms.length ≤ 100000) (k : ∀ c H', Rp K H' (.ow (.li .lf) (.ref c) (IL (ns ++ ms)) :: L) → Q (.ref c) H') : rCat (.ref a) (.ref b) H Q := by
  obtain ⟨xs, e1, d1⟩ := R.raw h1
  obtain ⟨ys, e2, d2⟩ := R.raw h2
  rw [int_dp (dqAll_dp _ _ d1)] at e1
  rw [int_dp (dqAll_dp _ _ d2)] at e2
  refine ⟨a, b, _, _, rfl, rfl, e1, e2, sz_le (by rw [List.length_map, List.length_map]; exact z), fun p np => k p _ ?_⟩
  rw [← List.map_append]
  exact R.mkI np
/-- an item of a list whose items are exploded -/
theorem Rp.focus {k : Nat} (R : Rp K H (.top a xs :: (each s xs ds ++ L))) (hx : xs[k]? = some x) (hd : ds[k]? = some d) : ∃ C, Rp K H (.ow s x d :: .top a xs :: (C ++ L)) ∧ ∀ H' e, Rp K H' (.ow s x e :: .top a xs :: (C ++ L)) → Rp K H' (.top a xs :: (each s xs (ds.set k e) ++ L)) := by
  have h1 := List.getElem?_eq_some_iff.mp hx
  have h2 := List.getElem?_eq_some_iff.mp hd
  obtain ⟨l1, e1⟩ := h1
  obtain ⟨l2, e2⟩ := h2
  have ex : xs = xs.take k ++ x :: xs.drop (k + 1) := by rw [← e1, ← List.drop_eq_getElem_cons l1, List.take_append_drop]
  have ed : ∀ e, ds.set k e = ds.take k ++ e :: ds.drop (k + 1) := fun e => List.set_eq_take_append_cons_drop.trans (by rw [if_pos l2])
  have ed0 : ds = ds.take k ++ d :: ds.drop (k + 1) := by rw [← e2, ← List.drop_eq_getElem_cons l2, List.take_append_drop]
  have lt : (xs.take k).length = (ds.take k).length := by rw [List.length_take, List.length_take]; omega
  have key : ∀ e, each s xs (ds.set k e) = each s (xs.take k) (ds.take k) ++ .ow s x e :: each s (xs.drop (k + 1)) (ds.drop (k + 1)) := fun e => by
    rw [ed e]
    conv => lhs; rw [ex]
    rw [each_app lt]; rfl
  have key0 : each s xs ds = each s (xs.take k) (ds.take k) ++ .ow s x d :: each s (xs.drop (k + 1)) (ds.drop (k + 1)) := by
    conv => lhs; rw [ex, ed0]
    rw [each_app lt]; rfl
  have pm : ∀ e, List.Perm (.top a xs :: (each s (xs.take k) (ds.take k) ++ .ow s x e :: each s (xs.drop (k + 1)) (ds.drop (k + 1)) ++ L)) (.ow s x e :: .top a xs :: ((each s (xs.take k) (ds.take k) ++ each s (xs.drop (k + 1)) (ds.drop (k + 1))) ++ L)) := fun e => by
    refine List.Perm.trans (.cons _ ?_) (.swap _ _ _)
    rw [List.append_assoc, List.append_assoc]
    exact List.perm_middle
  refine ⟨each s (xs.take k) (ds.take k) ++ each s (xs.drop (k + 1)) (ds.drop (k + 1)), ?_, fun H' e R' => ?_⟩
  · rw [key0] at R
    exact R.perm (pm d)
  · rw [key e]
    exact R'.perm (pm e).symm
end
/-! ### comprehensions -/
section
variable {K : PySem.W.Frag} {H : Hp} {L : List It} {a p : Addr} {xs : List V} {σ : L2.St} {g : TG} {tt : TT} {te : TE} {vs : List Nat} {Qd : Hp → Prop} {lo : Int} {n : Nat}
theorem lco_fin {s : Own} {ds : List PyData} {d : PyData} {L' : List It} {y : V} {H4 : Hp} {W : Hp → Prop} (R : Rp K H4 (.ow s y d :: .ow (.li s) (.ref p) (.list ds) :: L')) (z : ds.length < 100000) (k : ∀ H', Rp K H' (.ow (.li s) (.ref p) (.list (ds ++ [d])) :: L') → W H') : ∃ acc, H4 p = some (.lst acc) ∧ acc.length < sizeLine ∧ W (upd H4 p (.lst (acc ++ [y]))) := by
  obtain ⟨acc, e, l, R2⟩ := R.app
  exact ⟨acc, e, sz_lt (by omega), k _ R2⟩
theorem lco_list (s : Own) (Pv : Nat → List PyData → List It → Prop) (R : Rp K H L) (nL : H p = none) (h0 : Pv 0 [] L) (sz : xs.length < 100000)
    (hl : ∀ i ds L X H', Pv i ds L → Rp K H' (X :: L) → SqL K H' a xs)
    (turn : ∀ i x ds L X H', xs[i]? = some x → Pv i ds L → Rp K H' (X :: L) → ∀ (Qy : VK) (Qn : Hp → Prop), (∀ y d L' H4, Pv (i + 1) (ds ++ [d]) L' → Rp K H4 (.ow s y d :: X :: L') → Qy y H4) → (∀ L' H4, Pv (i + 1) ds L' → Rp K H4 (X :: L') → Qn H4) →
      g x (wipe σ vs) H' fun σ2 H2 => wipe σ2 vs = wipe σ vs ∧ tt σ2 H2 fun b H3 => if b = true then te σ2 H3 Qy else Qn H3)
    (done : ∀ ds L H', Pv xs.length ds L → Rp K H' (.ow (.li s) (.ref p) (.list ds) :: L) → Qd H') : LoopC (Itl K a) g tt te vs p σ Qd H := by
  refine lcl_list (K := K) (a := a) (xs := xs) (fun i H' => ∃ ds L, Pv i ds L ∧ ds.length ≤ i ∧ Rp K H' (.ow (.li s) (.ref p) (.list ds) :: L)) ⟨[], L, h0, Nat.zero_le _, R.mkL0 s nL⟩ (fun i H' _ ⟨ds, L, h, _, R⟩ => hl i ds L _ H' h R) ?_ (fun H' ⟨ds, L, h, _, R⟩ => done ds L H' h R)
  rintro i x H' hx ⟨ds, L, h, z, R⟩
  have hi : i < xs.length := (List.getElem?_eq_some_iff.mp hx).1
  exact turn i x ds L _ H' hx h R (fun y H4 => ∃ acc, H4 p = some (.lst acc) ∧ acc.length < sizeLine ∧ ∃ ds L, Pv (i + 1) ds L ∧ ds.length ≤ i + 1 ∧ Rp K (upd H4 p (.lst (acc ++ [y]))) (.ow (.li s) (.ref p) (.list ds) :: L)) _
    (fun y d L' H4 h' R' => lco_fin (W := fun H' => ∃ ds L, Pv (i + 1) ds L ∧ ds.length ≤ i + 1 ∧ Rp K H' (.ow (.li s) (.ref p) (.list ds) :: L)) R' (by omega) fun H' R'' => ⟨_, _, h', by rw [List.length_append]; exact Nat.add_le_add_right z 1, R''⟩) (fun L' H4 h' R' => ⟨ds, L', h', by omega, R'⟩)
theorem lco_tup (s : Own) (Pv : Nat → List PyData → List It → Prop) (R : Rp K H L) (nL : H p = none) (h0 : Pv 0 [] L) (sz : xs.length < 100000)
    (hl : ∀ i ds L X H', Pv i ds L → Rp K H' (X :: L) → SqT K H' a xs)
    (turn : ∀ i x ds L X H', xs[i]? = some x → Pv i ds L → Rp K H' (X :: L) → ∀ (Qy : VK) (Qn : Hp → Prop), (∀ y d L' H4, Pv (i + 1) (ds ++ [d]) L' → Rp K H4 (.ow s y d :: X :: L') → Qy y H4) → (∀ L' H4, Pv (i + 1) ds L' → Rp K H4 (X :: L') → Qn H4) →
      g x (wipe σ vs) H' fun σ2 H2 => wipe σ2 vs = wipe σ vs ∧ tt σ2 H2 fun b H3 => if b = true then te σ2 H3 Qy else Qn H3)
    (done : ∀ ds L H', Pv xs.length ds L → Rp K H' (.ow (.li s) (.ref p) (.list ds) :: L) → Qd H') : LoopC (Itt K a) g tt te vs p σ Qd H := by
  refine lcl_tup (K := K) (a := a) (xs := xs) (fun i H' => ∃ ds L, Pv i ds L ∧ ds.length ≤ i ∧ Rp K H' (.ow (.li s) (.ref p) (.list ds) :: L)) ⟨[], L, h0, Nat.zero_le _, R.mkL0 s nL⟩ (fun i H' _ ⟨ds, L, h, _, R⟩ => hl i ds L _ H' h R) ?_ (fun H' ⟨ds, L, h, _, R⟩ => done ds L H' h R)
  rintro i x H' hx ⟨ds, L, h, z, R⟩
  have hi : i < xs.length := (List.getElem?_eq_some_iff.mp hx).1
  exact turn i x ds L _ H' hx h R (fun y H4 => ∃ acc, H4 p = some (.lst acc) ∧ acc.length < sizeLine ∧ ∃ ds L, Pv (i + 1) ds L ∧ ds.length ≤ i + 1 ∧ Rp K (upd H4 p (.lst (acc ++ [y]))) (.ow (.li s) (.ref p) (.list ds) :: L)) _
    (fun y d L' H4 h' R' => lco_fin (W := fun H' => ∃ ds L, Pv (i + 1) ds L ∧ ds.length ≤ i + 1 ∧ Rp K H' (.ow (.li s) (.ref p) (.list ds) :: L)) R' (by omega) fun H' R'' => ⟨_, _, h', by rw [List.length_append]; exact Nat.add_le_add_right z 1, R''⟩) (fun L' H4 h' R' => ⟨ds, L', h', by omega, R'⟩)
theorem lco_rangeC {st : Int} (s : Own) (Pv : Nat → List PyData → List It → Prop) (R : Rp K H L) (nL : H p = none) (h0 : Pv 0 [] L) (sz : n < 100000)
    (turn : ∀ (i : Nat) ds L X H', i < n → Pv i ds L → Rp K H' (X :: L) → ∀ (Qy : VK) (Qn : Hp → Prop), (∀ y d L' H4, Pv (i + 1) (ds ++ [d]) L' → Rp K H4 (.ow s y d :: X :: L') → Qy y H4) → (∀ L' H4, Pv (i + 1) ds L' → Rp K H4 (X :: L') → Qn H4) →
      g (.int (lo + (i : Nat) * st)) (wipe σ vs) H' fun σ2 H2 => wipe σ2 vs = wipe σ vs ∧ tt σ2 H2 fun b H3 => if b = true then te σ2 H3 Qy else Qn H3)
    (done : ∀ ds L H', Pv n ds L → Rp K H' (.ow (.li s) (.ref p) (.list ds) :: L) → Qd H') : LoopC (Itc lo st n) g tt te vs p σ Qd H := by
  refine lcl_rangeC (fun i H' => ∃ ds L, Pv i ds L ∧ ds.length ≤ i ∧ Rp K H' (.ow (.li s) (.ref p) (.list ds) :: L)) ⟨[], L, h0, Nat.zero_le _, R.mkL0 s nL⟩ ?_ (fun H' ⟨ds, L, h, _, R⟩ => done ds L H' h R)
  rintro i H' hi ⟨ds, L, h, z, R⟩
  exact turn i ds L _ H' hi h R (fun y H4 => ∃ acc, H4 p = some (.lst acc) ∧ acc.length < sizeLine ∧ ∃ ds L, Pv (i + 1) ds L ∧ ds.length ≤ i + 1 ∧ Rp K (upd H4 p (.lst (acc ++ [y]))) (.ow (.li s) (.ref p) (.list ds) :: L)) _
    (fun y d L' H4 h' R' => lco_fin (W := fun H' => ∃ ds L, Pv (i + 1) ds L ∧ ds.length ≤ i + 1 ∧ Rp K H' (.ow (.li s) (.ref p) (.list ds) :: L)) R' (by omega) fun H' R'' => ⟨_, _, h', by rw [List.length_append]; exact Nat.add_le_add_right z 1, R''⟩) (fun L' H4 h' R' => ⟨ds, L', h', by omega, R'⟩)
theorem lco_range (s : Own) (Pv : Nat → List PyData → List It → Prop) (R : Rp K H L) (nL : H p = none) (h0 : Pv 0 [] L) (sz : n < 100000)
    (turn : ∀ (i : Nat) ds L X H', i < n → Pv i ds L → Rp K H' (X :: L) → ∀ (Qy : VK) (Qn : Hp → Prop), (∀ y d L' H4, Pv (i + 1) (ds ++ [d]) L' → Rp K H4 (.ow s y d :: X :: L') → Qy y H4) → (∀ L' H4, Pv (i + 1) ds L' → Rp K H4 (X :: L') → Qn H4) →
      g (.int (lo + i)) (wipe σ vs) H' fun σ2 H2 => wipe σ2 vs = wipe σ vs ∧ tt σ2 H2 fun b H3 => if b = true then te σ2 H3 Qy else Qn H3)
    (done : ∀ ds L H', Pv n ds L → Rp K H' (.ow (.li s) (.ref p) (.list ds) :: L) → Qd H') : LoopC (Itr lo n) g tt te vs p σ Qd H := by
  refine lcl_range (fun i H' => ∃ ds L, Pv i ds L ∧ ds.length ≤ i ∧ Rp K H' (.ow (.li s) (.ref p) (.list ds) :: L)) ⟨[], L, h0, Nat.zero_le _, R.mkL0 s nL⟩ ?_ (fun H' ⟨ds, L, h, _, R⟩ => done ds L H' h R)
  rintro i H' hi ⟨ds, L, h, z, R⟩
  exact turn i ds L _ H' hi h R (fun y H4 => ∃ acc, H4 p = some (.lst acc) ∧ acc.length < sizeLine ∧ ∃ ds L, Pv (i + 1) ds L ∧ ds.length ≤ i + 1 ∧ Rp K (upd H4 p (.lst (acc ++ [y]))) (.ow (.li s) (.ref p) (.list ds) :: L)) _
    (fun y d L' H4 h' R' => lco_fin (W := fun H' => ∃ ds L, Pv (i + 1) ds L ∧ ds.length ≤ i + 1 ∧ Rp K H' (.ow (.li s) (.ref p) (.list ds) :: L)) R' (by omega) fun H' R'' => ⟨_, _, h', by rw [List.length_append]; exact Nat.add_le_add_right z 1, R''⟩) (fun L' H4 h' R' => ⟨ds, L', h', by omega, R'⟩)
/-- one that is a map, over a range -/
theorem lcm_range (s : Own) (e : Nat → PyData) (R : Rp K H L) (nL : H p = none) (sz : n < 100000)
    (turn : ∀ (i : Nat) X H', i < n → Rp K H' (X :: L) → ∀ Qy : VK, (∀ y H4, Rp K H4 (.ow s y (e i) :: X :: L) → Qy y H4) → g (.int (lo + i)) (wipe σ vs) H' fun σ2 H2 => wipe σ2 vs = wipe σ vs ∧ te σ2 H2 Qy)
    (done : ∀ H', Rp K H' (.ow (.li s) (.ref p) (.list ((List.range n).map e)) :: L) → Qd H') : LoopC (Itr lo n) g tYes te vs p σ Qd H := by
  refine lco_range s (fun i ds L' => ds = (List.range i).map e ∧ L' = L) R nL ⟨rfl, rfl⟩ sz ?_ (fun ds L' H' ⟨e1, e2⟩ R' => by subst e1 e2; exact done H' R')
  rintro i ds L' X H' hi ⟨rfl, rfl⟩ R Qy Qn q1 _
  exact turn i X H' hi R Qy fun y H4 R4 => q1 y _ _ H4 ⟨(range_snoc e i).symm, rfl⟩ R4
theorem range_filter_snoc (f : Nat → Bool) (e : Nat → PyData) (i : Nat) : ((List.range (i + 1)).filter f).map e = if f i then ((List.range i).filter f).map e ++ [e i] else ((List.range i).filter f).map e := by
  rw [List.range_succ, List.filter_append, List.map_append]
  by_cases h : f i
  · simp [h]
  · simp [h]
/-- one that chooses and maps, over a range -/
theorem lcf_range (s : Own) (f : Nat → Bool) (e : Nat → PyData) (R : Rp K H L) (nL : H p = none) (sz : n < 100000)
    (turn : ∀ (i : Nat) X H', i < n → Rp K H' (X :: L) → ∀ (Qy : VK) (Qn : Hp → Prop), (f i = true → ∀ y H4, Rp K H4 (.ow s y (e i) :: X :: L) → Qy y H4) → (f i = false → ∀ H4, Rp K H4 (X :: L) → Qn H4) → g (.int (lo + i)) (wipe σ vs) H' fun σ2 H2 => wipe σ2 vs = wipe σ vs ∧ tt σ2 H2 fun b H3 => if b = true then te σ2 H3 Qy else Qn H3)
    (done : ∀ H', Rp K H' (.ow (.li s) (.ref p) (.list (((List.range n).filter f).map e)) :: L) → Qd H') : LoopC (Itr lo n) g tt te vs p σ Qd H := by
  refine lco_range s (fun i ds L' => ds = ((List.range i).filter f).map e ∧ L' = L) R nL ⟨rfl, rfl⟩ sz ?_ (fun ds L' H' ⟨e1, e2⟩ R' => by subst e1 e2; exact done H' R')
  rintro i ds L' X H' hi ⟨rfl, rfl⟩ R Qy Qn q1 q2
  exact turn i X H' hi R Qy Qn (fun hf y H4 R4 => q1 y _ _ H4 ⟨by rw [range_filter_snoc, if_pos hf], rfl⟩ R4) (fun hf H4 R4 => q2 _ H4 ⟨by rw [range_filter_snoc, if_neg (by rw [hf]; decide)], rfl⟩ R4)
theorem take_map_snoc {α β : Type} {l : List α} {i : Nat} {x : α} (e : α → β) (h : l[i]? = some x) : (l.take (i + 1)).map e = (l.take i).map e ++ [e x] := by
  rw [take_snoc h, List.map_append]; rfl
/-- one that is a map, over a shared list -/
theorem lcm_sh {ds0 : List PyData} (s : Own) (e : PyData → PyData) (R : Rp K H L) (m : It.ps (Sv K a xs ds0) ∈ L) (nL : H p = none) (sz : ds0.length < 100000)
    (turn : ∀ (i : Nat) x d X H', ds0[i]? = some d → Rp K H' (.sh x d :: X :: L) → ∀ Qy : VK, (∀ y H4, Rp K H4 (.ow s y (e d) :: X :: L) → Qy y H4) → g x (wipe σ vs) H' fun σ2 H2 => wipe σ2 vs = wipe σ vs ∧ te σ2 H2 Qy)
    (done : ∀ H', Rp K H' (.ow (.li s) (.ref p) (.list (ds0.map e)) :: L) → Qd H') : LoopC (Itl K a) g tYes te vs p σ Qd H := by
  have l : xs.length = ds0.length := DqAll.len (R.psOf m).2
  refine lco_list (xs := xs) s (fun i ds L' => ds = (ds0.take i).map e ∧ L' = L) R nL ⟨rfl, rfl⟩ (by omega) (fun i ds L' X H' ⟨_, z⟩ R' => by subst z; exact SqL.of (R'.psOf (List.mem_cons_of_mem _ m)).1) ?_ (fun ds L' H' ⟨e1, e2⟩ R' => by
    subst e1 e2; rw [l, List.take_length] at R'; exact done H' R')
  rintro i x ds L' X H' hx ⟨rfl, rfl⟩ R Qy Qn q1 _
  have hi : i < ds0.length := by rw [← l]; exact (List.getElem?_eq_some_iff.mp hx).1
  have hd : ds0[i]? = some ds0[i] := List.getElem?_eq_getElem hi
  exact turn i x _ X H' hd (R.svAt (List.mem_cons_of_mem _ m) hx hd) Qy fun y H4 R4 => q1 y _ _ H4 ⟨(take_map_snoc e hd).symm, rfl⟩ R4
/-- one that chooses and maps, over a shared list -/
theorem lcf_sh {ds0 : List PyData} (s : Own) (f : PyData → Bool) (e : PyData → PyData) (R : Rp K H L) (m : It.ps (Sv K a xs ds0) ∈ L) (nL : H p = none) (sz : ds0.length < 100000)
    (turn : ∀ (i : Nat) x d X H', ds0[i]? = some d → Rp K H' (.sh x d :: X :: L) → ∀ (Qy : VK) (Qn : Hp → Prop), (f d = true → ∀ y H4, Rp K H4 (.ow s y (e d) :: X :: L) → Qy y H4) → (f d = false → ∀ H4, Rp K H4 (X :: L) → Qn H4) → g x (wipe σ vs) H' fun σ2 H2 => wipe σ2 vs = wipe σ vs ∧ tt σ2 H2 fun b H3 => if b = true then te σ2 H3 Qy else Qn H3)
    (done : ∀ H', Rp K H' (.ow (.li s) (.ref p) (.list ((ds0.filter f).map e)) :: L) → Qd H') : LoopC (Itl K a) g tt te vs p σ Qd H := by
  have l : xs.length = ds0.length := DqAll.len (R.psOf m).2
  refine lco_list (xs := xs) s (fun i ds L' => ds = ((ds0.take i).filter f).map e ∧ L' = L) R nL ⟨rfl, rfl⟩ (by omega) (fun i ds L' X H' ⟨_, z⟩ R' => by subst z; exact SqL.of (R'.psOf (List.mem_cons_of_mem _ m)).1) ?_ (fun ds L' H' ⟨e1, e2⟩ R' => by
    subst e1 e2; rw [l, List.take_length] at R'; exact done H' R')
  rintro i x ds L' X H' hx ⟨rfl, rfl⟩ R Qy Qn q1 q2
  have hi : i < ds0.length := by rw [← l]; exact (List.getElem?_eq_some_iff.mp hx).1
  have hd : ds0[i]? = some ds0[i] := List.getElem?_eq_getElem hi
  refine turn i x _ X H' hd (R.svAt (List.mem_cons_of_mem _ m) hx hd) Qy Qn (fun hf y H4 R4 => q1 y _ _ H4 ⟨?_, rfl⟩ R4) (fun hf H4 R4 => q2 _ H4 ⟨?_, rfl⟩ R4)
  · rw [take_snoc hd, List.filter_append, List.map_append, List.filter_cons_of_pos hf]; rfl
  · rw [take_snoc hd, List.filter_append, List.map_append, List.filter_cons_of_neg (by rw [hf]; decide), List.filter_nil, List.map_nil, List.append_nil]
end
/-! ### lists of ints, each its own, as data -/
abbrev LD (cs : List (List Int)) : PyData := .list (cs.map IL)
theorem Sh.ld {cs : List (List Int)} : Sh 2 (LD cs) := Sh.lst fun d h => by
  obtain ⟨x, _, rfl⟩ := List.mem_map.mp h
  exact Sh.il
theorem lfree_ld {cs : List (List Int)} : lfree (.li (.li .lf)) (LD cs) := fun d hd => by
  obtain ⟨n, _, rfl⟩ := List.mem_map.mp hd
  exact lfree_il
section
variable {K : PySem.W.Frag} {H H' : Hp}
def intPs (K : PySem.W.Frag) (ns : List Int) : List Im := ns.map fun i => .ps fun H => Dq K H (.int i) (.int i)
theorem ints3 : ∀ ns : List Int, All3 (Unf K .lf) (ns.map V.int) (ns.map PyData.int) (intPs K ns)
  | [] => .nil
  | n :: ns => .cons (p := [_]) rfl (ints3 ns)
theorem tops_ints : ∀ ns : List Int, tops (intPs K ns) = []
  | [] => rfl
  | n :: ns => tops_ints ns
theorem lls_un {O : Addr → Prop} : ∀ {rs : List Addr} {cs : List (List Int)}, LLs H' rs cs → ∃ qs, All3 (Unf K (.li .lf)) (rs.map V.ref) (cs.map IL) qs ∧ tops qs = rs ∧ ∀ m ∈ qs, m.ok H' O
  | [], [], _ => ⟨[], .nil, rfl, fun _ h => by cases h⟩
  | r :: rs, c :: cs, ⟨h, t⟩ => by
    obtain ⟨qs, h1, h2, h3⟩ := lls_un (O := O) t
    refine ⟨(.top r (c.map V.int) :: intPs K c) ++ qs, .cons ⟨r, _, _, _, rfl, rfl, rfl, ints3 c⟩ h1, ?_, fun m hm => ?_⟩
    · rw [tops_app, tops_top, tops_ints, h2]; rfl
    · rcases List.mem_append.mp hm with hm | hm
      · rcases List.mem_cons.mp hm with rfl | hm
        · exact h
        · obtain ⟨i, _, rfl⟩ := List.mem_map.mp hm
          exact ⟨fun _ _ _ _ => .int i, .int i⟩
      · exact h3 m hm
  | [], _ :: _, h => h.elim
  | _ :: _, [], h => h.elim
theorem nw_lls {p : Addr} {rs : List Addr} {cs : List (List Int)} (np : H p = none) (npr : p ∉ rs) (nd : rs.Nodup) (fr : ∀ r ∈ rs, H r = none) (e : H' p = some (.lst (rs.map V.ref))) (ll : LLs H' rs cs) : Nw K H H' (.li (.li .lf)) (.ref p) (LD cs) := by
  obtain ⟨qs, h1, h2, h3⟩ := lls_un (K := K) (O := fun _ => True) ll
  have t : tops (.top p (rs.map V.ref) :: qs) = p :: rs := by rw [tops_top, h2]
  have u : Unf K (.li (.li .lf)) (.ref p) (LD cs) (.top p (rs.map V.ref) :: qs) := ⟨p, _, _, qs, rfl, rfl, rfl, h1⟩
  refine ⟨.top p (rs.map V.ref) :: qs, u, ⟨by rw [t]; exact List.nodup_cons.mpr ⟨npr, nd⟩, fun F hF => (unf_nofr _ u F hF).elim, fun m hm => ?_⟩, fun a ha => ?_⟩
  · refine Im.ok_less (O := fun _ => True) (fun _ _ => trivial) ?_
    rcases List.mem_cons.mp hm with rfl | hm
    · exact e
    · exact h3 m hm
  · rw [t] at ha
    rcases List.mem_cons.mp ha with rfl | ha
    · exact np
    · exact fr a ha
end
/-! ### a list whose first ones are changed -/
def mixM {α : Type} (f : α → α) (i : Nat) (C : List α) : List α := (C.take i).map f ++ C.drop i
section
variable {α : Type} {f : α → α} {C : List α} {i : Nat} {c : α}
theorem mixM_zero : mixM f 0 C = C := by unfold mixM; simp
theorem mixM_all : mixM f C.length C = C.map f := by unfold mixM; simp
theorem mixM_len : (mixM f i C).length = C.length := by unfold mixM; simp; omega
theorem mixM_at (h : C[i]? = some c) : (mixM f i C)[i]? = some c := by
  have hi := (List.getElem?_eq_some_iff.mp h).1
  unfold mixM
  rw [List.getElem?_append_right (by simp; omega)]
  simp only [List.length_map, List.length_take, List.getElem?_drop]
  rw [Nat.min_eq_left (by omega), Nat.sub_self, Nat.add_zero]; exact h
theorem mixM_set (h : C[i]? = some c) : (mixM f i C).set i (f c) = mixM f (i + 1) C := by
  have hi := (List.getElem?_eq_some_iff.mp h).1
  have e := (List.getElem?_eq_some_iff.mp h).2
  unfold mixM
  rw [List.set_append_right _ _ (by simp; omega), take_snoc h, List.map_append, List.append_assoc]
  congr 1
  simp only [List.length_map, List.length_take]
  rw [Nat.min_eq_left (by omega), Nat.sub_self, List.drop_eq_getElem_cons hi, List.set_cons_zero]; rfl
end
section
variable {K : PySem.W.Frag} {H H' : Hp} {L : List It} {a : Addr} {xs : List V} {ds : List PyData} {s : Own} {x : V} {d : PyData} {i : Nat}
theorem each_mem : ∀ {xs : List V} {ds : List PyData} {i : Nat}, xs[i]? = some x → ds[i]? = some d → It.ow s x d ∈ each s xs ds
  | _ :: _, _ :: _, 0, h, g => by cases h; cases g; exact .head _
  | _ :: _, _ :: _, i + 1, h, g => .tail _ (each_mem (i := i) h g)
  | [], _, _, h, _ => by simp at h
  | _ :: _, [], _, _, g => by simp at g
theorem Rp.own1 (e : H a = some (.lst xs)) : Rp K H [.top a xs] := ⟨_, .cons (p := [_]) rfl .nil, ⟨by show [a].Nodup; simp, fun F hF => (by cases List.mem_singleton.mp hF), fun m hm => by cases List.mem_singleton.mp hm; exact e⟩⟩
end
/-! ### in, sorted, slices, decks and pools, side by side -/
section
variable {K : PySem.W.Frag} {H H' : Hp} {Q : VK} {L L' L1 L2 A B : List It} {a b p : Addr} {xs ys : List V} {o : HO} {v x y z : V} {d e f : PyData} {ds es : List PyData} {s s1 s2 s3 : Own} {i j : Int} {k n : Nat} {ns ms : List Int}
theorem inV_int : inV (.int i) (ns.map V.int) = decide (i ∈ ns) := by
  unfold inV
  induction ns with
  | nil => rfl
  | cons n ns ih =>
    rw [List.map_cons, List.any_cons, ih, Bool.eq_iff_iff]
    simp only [eqV, Bool.or_eq_true, beq_iff_eq, decide_eq_true_eq, List.mem_cons]
    constructor <;> rintro (h | h) <;> first | exact .inl h.symm | exact .inr h
theorem flat_ints : (ns.map V.int).all flatV = true := by
  rw [List.all_map]; exact List.all_eq_true.mpr fun _ _ => rfl
theorem g_inI (h : SqL K H a (ns.map V.int)) (q : Q (.bl (decide (i ∈ ns))) H) : rIn K false (.int i) (.ref a) H Q := ⟨a, _, rfl, .inl h, rfl, flat_ints, by rw [inV_int]; exact q⟩
theorem g_niI (h : SqL K H a (ns.map V.int)) (q : Q (.bl (!decide (i ∈ ns))) H) : rIn K true (.int i) (.ref a) H Q := ⟨a, _, rfl, .inl h, rfl, flat_ints, by rw [inV_int]; exact q⟩
theorem g_inR (R : Rp K H L) (h : It.ow s (.ref a) (IL ns) ∈ L) (q : Q (.bl (decide (i ∈ ns))) H) : rIn K false (.int i) (.ref a) H Q := g_inI (R.ilS h) q
theorem g_niR (R : Rp K H L) (h : It.ow s (.ref a) (IL ns) ∈ L) (q : Q (.bl (!decide (i ∈ ns))) H) : rIn K true (.int i) (.ref a) H Q := g_niI (R.ilS h) q
theorem g_inDR (R : Rp K H L) (h : It.ow s x d ∈ L) (h2 : It.ow s1 y (.list ds) ∈ L) (c1 : SeqAt.shaped d = true) (c2 : SeqAt.shaped (.list ds) = true) (q : Q (.bl (ds.any fun z => PyData.eqv z d)) H) : rInD K x y H Q := ⟨d, ds, dq_dp _ _ (R.dpOf h), dq_dp _ _ (R.dpOf h2), c1, c2, q⟩
theorem g_niDR (R : Rp K H L) (h : It.ow s x d ∈ L) (h2 : It.ow s1 y (.list ds) ∈ L) (c1 : SeqAt.shaped d = true) (c2 : SeqAt.shaped (.list ds) = true) (q : Q (.bl (!ds.any fun z => PyData.eqv z d)) H) : rNotInD K x y H Q := ⟨d, ds, dq_dp _ _ (R.dpOf h), dq_dp _ _ (R.dpOf h2), c1, c2, q⟩
theorem eqvAll_ints : ∀ xs ys : List Int, PyData.eqvAll (xs.map PyData.int) (ys.map PyData.int) = decide (xs = ys)
  | [], [] => rfl
  | [], _ :: _ => rfl
  | _ :: _, [] => rfl
  | x :: xs, y :: ys => by
    rw [List.map_cons, List.map_cons, PyData.eqvAll, eqvAll_ints xs ys, Bool.eq_iff_iff]
    simp [PyData.eqv]
theorem IL_eqv (xs ys : List Int) : PyData.eqv (IL xs) (IL ys) = decide (xs = ys) := by
  unfold IL; rw [PyData.eqv]; exact eqvAll_ints xs ys
theorem IT_eqv (xs ys : List Int) : PyData.eqv (.tuple (xs.map PyData.int)) (.tuple (ys.map PyData.int)) = decide (xs = ys) := by
  rw [PyData.eqv]; exact eqvAll_ints xs ys
theorem any_IL (cs : List (List Int)) (c : List Int) : ((cs.map IL).any fun z => PyData.eqv z (IL c)) = decide (c ∈ cs) := by
  rw [List.any_map, Bool.eq_iff_iff, List.any_eq_true, decide_eq_true_eq]
  constructor
  · rintro ⟨x, hx, e⟩
    rw [Function.comp_apply, IL_eqv, decide_eq_true_eq] at e
    exact e ▸ hx
  · intro h
    exact ⟨c, h, by rw [Function.comp_apply, IL_eqv]; exact decide_eq_true rfl⟩
/-- weighted cuts as data -/
abbrev CD (w : List Int × Rat) : PyData := .tuple [IL w.1, FD w.2]
abbrev c0 : List Int × Rat := ([], 0)
abbrev WD (ws : List (List Int × Rat)) : PyData := .list (ws.map CD)
/-- its ownership: each cut a list of one's own -/
abbrev oW : Own := .li (.t2 (.li .lf) .lf)
abbrev oT : Own := .li (.li .lf)
abbrev oI : Own := .li .lf
theorem Sh.cd {w : List Int × Rat} : Sh 2 (CD w) := Sh.tup fun d h => by
  simp only [List.mem_cons, List.not_mem_nil, or_false] at h
  rcases h with rfl | rfl
  · exact Sh.il
  · exact Sh.fd
theorem Sh.wd {ws : List (List Int × Rat)} : Sh 3 (WD ws) := Sh.lst fun d h => by
  obtain ⟨x, _, rfl⟩ := List.mem_map.mp h
  exact Sh.cd
theorem lfree_cd {w : List Int × Rat} : lfree (.t2 (.li .lf) .lf) (CD w) := ⟨lfree_il, rfl⟩
theorem lfree_wd {ws : List (List Int × Rat)} : lfree oW (WD ws) := fun d hd => by
  obtain ⟨n, _, rfl⟩ := List.mem_map.mp hd
  exact lfree_cd
theorem CD_eqv (w u : List Int × Rat) : PyData.eqv (CD w) (CD u) = decide (w = u) := by
  rw [PyData.eqv, PyData.eqvAll, PyData.eqvAll, PyData.eqvAll, IL_eqv, FD_eqv, Bool.and_true, Bool.eq_iff_iff]
  simp only [Bool.and_eq_true, decide_eq_true_eq]
  exact ⟨fun ⟨a, b⟩ => Prod.ext a b, fun e => by subst e; exact ⟨rfl, rfl⟩⟩
theorem eqvAll_map {α : Type} [DecidableEq α] (f : α → PyData) (h : ∀ x y, PyData.eqv (f x) (f y) = decide (x = y)) : ∀ xs ys : List α, PyData.eqvAll (xs.map f) (ys.map f) = decide (xs = ys)
  | [], [] => rfl
  | [], _ :: _ => rfl
  | _ :: _, [] => rfl
  | x :: xs, y :: ys => by
    rw [List.map_cons, List.map_cons, PyData.eqvAll, eqvAll_map f h xs ys, h, Bool.eq_iff_iff]
    simp
theorem LM_eqv {α : Type} [DecidableEq α] (f : α → PyData) (h : ∀ x y, PyData.eqv (f x) (f y) = decide (x = y)) (xs ys : List α) : PyData.eqv (.list (xs.map f)) (.list (ys.map f)) = decide (xs = ys) := by
  rw [PyData.eqv]; exact eqvAll_map f h xs ys
theorem any_map_eqv {α : Type} [DecidableEq α] (f : α → PyData) (h : ∀ x y, PyData.eqv (f x) (f y) = decide (x = y)) (cs : List α) (c : α) : ((cs.map f).any fun z => PyData.eqv z (f c)) = decide (c ∈ cs) := by
  rw [List.any_map, Bool.eq_iff_iff, List.any_eq_true, decide_eq_true_eq]
  constructor
  · rintro ⟨x, hx, e⟩
    rw [Function.comp_apply, h, decide_eq_true_eq] at e
    exact e ▸ hx
  · intro hc
    exact ⟨c, hc, by rw [Function.comp_apply, h]; exact decide_eq_true rfl⟩
/-! sorted -/
theorem each_zip (zs : List (V × PyData)) : each s (zs.map Prod.fst) (zs.map Prod.snd) = zs.map fun z => It.ow s z.1 z.2 := by
  unfold each
  induction zs with
  | nil => rfl
  | cons z zs ih => rw [List.map_cons, List.map_cons, List.zipWith_cons_cons, ih]; rfl
theorem dl_pair (zs : List (V × PyData)) : (zs.mergeSort (PySem.W.dataLe false Prod.snd)).Pairwise (fun a b => PySem.W.dataLe false Prod.snd a b = true) := PySem.W.sort_pairwise (PySem.W.sortLe_total _ _ _) zs
theorem sortD_pair (xs : List V) (ds : List PyData) : ((sortD xs ds).map Prod.snd).Pairwise fun a b => PySem.W.dataLe false id a b = true := List.pairwise_map.mpr (dl_pair (xs.zip ds))
theorem sortD_dperm {xs : List V} {ds : List PyData} (l : xs.length = ds.length) : ((sortD xs ds).map Prod.snd).Perm ds := by
  have := (sortD_perm xs ds).map Prod.snd
  rwa [zip_snd l] at this
theorem each_sort {xs : List V} {ds : List PyData} (l : xs.length = ds.length) : (each s xs ds).Perm (each s ((sortD xs ds).map Prod.fst) ((sortD xs ds).map Prod.snd)) := by
  rw [each_zip]
  have e : each s xs ds = (xs.zip ds).map fun z => It.ow s z.1 z.2 := by
    have := each_zip (s := s) (xs.zip ds)
    rwa [zip_fst l, zip_snd l] at this
  rw [e]
  exact ((sortD_perm xs ds).map _).symm
/-- sorted of an own list: its items go over into the new one -/
theorem g_sortR (R : Rp K H L) (h : Sel (.ow (.li s) (.ref a) (.list ds)) L L1) (hal : PySem.W.AllAlike ds) (hs : PySem.W.Sortable ds) (hd : ∀ d ∈ ds, d.depth ≤ 50)
    (q : ∀ c H' ds', ds'.Perm ds → ds'.Pairwise (fun a b => PySem.W.dataLe false id a b = true) → Rp K H' (.ow (.li s) (.ref c) (.list ds') :: L1) → Q (.ref c) H') : rSortedD K [.ref a] H Q := by
  have R1 := R.sel h
  obtain ⟨xs0, e0, d0⟩ := R1.raw mem_here
  obtain ⟨a', xs, e, l, R2⟩ := R1.take
  cases e
  have e1 := R2.topAt
  obtain rfl : xs0 = xs := by rw [e0] at e1; cases e1; rfl
  refine ⟨a, xs0, ds, rfl, SqL.of e0, dqAll_dp _ _ d0, hal, hs, hd, fun p np => q p _ _ (sortD_dperm l) (sortD_pair xs0 ds) (Rp.mkL (R2.tail.perm ((each_sort l).append_right _)) (by rw [List.length_map, List.length_map]) np)⟩
theorem un_sh {ps : List Im} : ∀ {xs : List V} {ds : List PyData}, Rf H ps → DqAll K (wo H (ows ps)) xs ds → ∃ qs, UnIs K (each .lf xs ds) qs ∧ Rf H (qs ++ ps) ∧ ∀ a, ows (qs ++ ps) a → ows ps a
  | _, _, r, .nil => ⟨[], .nil, r, fun _ h => h⟩
  | _, _, r, .cons h1 h2 => by
    obtain ⟨qs, u, r', t⟩ := un_sh r h2
    exact ⟨_, .cons (p := [_]) rfl u, r'.addps mono_dp (mono_dp _ _ (wo_less t) h1), fun a ha => t a (ows_ps ha)⟩
/-- a shared list's items, shared -/
theorem Rp.shAll (R : Rp K H L) (h : It.sh v (.list ds) ∈ L) : ∃ a xs, v = .ref a ∧ xs.length = ds.length ∧ H a = some (.lst xs) ∧ Rp K H (each .lf xs ds ++ L) := by
  obtain ⟨L', h'⟩ := sel_of_mem h
  obtain ⟨_, _, h1, t, r⟩ := (R.shM h).inv
  cases h1
  have k := Rf.psK r
  obtain ⟨a, xs, rfl, h3, h4⟩ := Dq.lstI k.2
  obtain ⟨qs, u, r', _⟩ := un_sh (K := K) r.tail h4
  exact ⟨a, xs, rfl, DqAll.len h4, wo_same _ _ h3, _, u.app t, r'⟩
/-- sorted of a shared list -/
theorem g_sortS (R : Rp K H L) (h : It.sh (.ref a) (.list ds) ∈ L) (hal : PySem.W.AllAlike ds) (hs : PySem.W.Sortable ds) (hd : ∀ d ∈ ds, d.depth ≤ 50)
    (q : ∀ c H' ds', ds'.Perm ds → ds'.Pairwise (fun a b => PySem.W.dataLe false id a b = true) → Rp K H' (.ow (.li .lf) (.ref c) (.list ds') :: L) → Q (.ref c) H') : rSortedD K [.ref a] H Q := by
  obtain ⟨xs0, e0, d0⟩ := R.raw h
  obtain ⟨a', xs, e, l, e1, R2⟩ := R.shAll h
  cases e
  obtain rfl : xs0 = xs := by rw [e0] at e1; cases e1; rfl
  refine ⟨a, xs0, ds, rfl, SqL.of e0, dqAll_dp _ _ d0, hal, hs, hd, fun p np => q p _ _ (sortD_dperm l) (sortD_pair xs0 ds) (Rp.mkL (R2.perm ((each_sort l).append_right _)) (by rw [List.length_map, List.length_map]) np)⟩
/-- order of weighted cuts -/
theorem dl_cd {w u : List Int × Rat} (h : PySem.W.dataLe false id (CD w) (CD u) = true) : w.1 ≤ u.1 := by
  have h : (!PySem.W.rowLt [IL u.1, FD u.2] [IL w.1, FD w.2]) = true := h
  by_cases e : u.1 = w.1
  · rw [e]; exact List.le_refl _
  · unfold PySem.W.rowLt at h
    rw [PySem.W.dataLt_all_no (by exact PySem.W.alike_ints u.1 w.1) (by rw [IL_eqv, decide_eq_false e])] at h
    have h2 : PySem.W.dataLe false id (IL w.1) (IL u.1) = true := h
    have := congrFun (congrFun (PySem.W.dataLe_rows (fun x : List Int => x)) w.1) u.1
    have h3 : decide (w.1 ≤ u.1) = true := this.symm.trans h2
    exact of_decide_eq_true h3
theorem dl_cd_lt {w u : List Int × Rat} (h : w.1 < u.1) : PySem.W.dataLe false id (CD w) (CD u) = true := by
  show (!PySem.W.rowLt [IL u.1, FD u.2] [IL w.1, FD w.2]) = true
  unfold PySem.W.rowLt
  rw [PySem.W.dataLt_all_no (by exact PySem.W.alike_ints u.1 w.1) (by rw [IL_eqv, decide_eq_false (fun e => by rw [e] at h; exact List.lt_irrefl _ h)])]
  exact dataLe_il h
theorem il_alike (cs : List (List Int)) : PySem.W.AllAlike (cs.map IL) := cuts_alike
theorem il_sortable (cs : List (List Int)) : PySem.W.Sortable (cs.map IL) := cuts_sortable
theorem wd_alike (ws : List (List Int × Rat)) : PySem.W.AllAlike (ws.map CD) := PySem.W.AllAlike.of fun b b' => by
  show PySem.W.alikeAll [IL b.1, FD b.2] [IL b'.1, FD b'.2] = true
  rw [PySem.W.alikeAll, PySem.W.alikeAll, PySem.W.alikeAll, Bool.and_true]
  rw [show PySem.W.alike (IL b.1) (IL b'.1) = true from PySem.W.alike_ints b.1 b'.1]
  rfl
theorem wd_sortable (ws : List (List Int × Rat)) : PySem.W.Sortable (ws.map CD) := PySem.W.Sortable.tuples fun b => ⟨_, _, rfl⟩
theorem map_perm_inv0 {α : Type} (f : α → PyData) {l1 l2 : List PyData} (h : l1.Perm l2) : ∀ ws : List α, l2 = ws.map f → ∃ us : List α, l1 = us.map f ∧ us.Perm ws := by
  induction h with
  | nil => intro ws e; exact ⟨[], rfl, by rw [List.map_eq_nil_iff.mp e.symm]⟩
  | cons x _ ih =>
    intro ws e
    cases ws with
    | nil => cases e
    | cons w ws =>
      rw [List.map_cons] at e
      cases e
      obtain ⟨us, e, p⟩ := ih ws rfl
      exact ⟨w :: us, by rw [e, List.map_cons], p.cons w⟩
  | swap x y l =>
    intro ws e
    match ws, e with
    | w1 :: w2 :: ws, e =>
      rw [List.map_cons, List.map_cons] at e
      cases e
      exact ⟨w2 :: w1 :: ws, rfl, .swap _ _ _⟩
  | trans _ _ ih1 ih2 =>
    intro ws e
    obtain ⟨us, e1, p1⟩ := ih2 ws e
    obtain ⟨vs, e2, p2⟩ := ih1 us e1
    exact ⟨vs, e2, p2.trans p1⟩
theorem map_perm_inv {α : Type} (f : α → PyData) {ds' : List PyData} {ws : List α} (h : ds'.Perm (ws.map f)) : ∃ us : List α, ds' = us.map f ∧ us.Perm ws := map_perm_inv0 f h ws rfl
theorem le_of_il {a b : List Int} (h : PySem.W.dataLe false id (IL a) (IL b) = true) : a ≤ b := by
  have := congrFun (congrFun (PySem.W.dataLe_rows (fun x : List Int => x)) a) b
  exact of_decide_eq_true (this.symm.trans h)
end
/-! decks, pools -/
def DeckP (xs : List V) : Prop := ∃ a : Int, xs = [.int a]
def PoolP (n : Nat) (xs : List V) : Prop := ∃ a b c : Int, xs = [.int a, .int b, .int c] ∧ 0 ≤ c ∧ c ≤ n
section
variable {K : PySem.W.Frag} {H H' : Hp} {Q : VK} {L L1 : List It} {p : Addr} {E : XK} {m : Int} {n : Nat}
theorem deck_of {xs : List V} (e : H p = some (.lst xs)) (h : DeckP xs) : Deck H p := by
  obtain ⟨a, rfl⟩ := h
  exact ⟨a, e⟩
theorem pool_of {xs : List V} (e : H p = some (.lst xs)) (h : PoolP n xs) : Pool n H p := by
  obtain ⟨a, b, c, rfl, h0, h1⟩ := h
  exact ⟨a, b, c, e, h0, h1⟩
theorem Rp.deck (R : Rp K H (.pr DeckP p :: L)) : Deck H p := by
  obtain ⟨xs, e, h⟩ := R.prAt
  exact deck_of e h
theorem Rp.pool (R : Rp K H (.pr (PoolP n) p :: L)) : Pool n H p := by
  obtain ⟨xs, e, h⟩ := R.prAt
  exact pool_of e h
theorem Rp.deckTo (R : Rp K H (.pr DeckP p :: L)) (b : But p H H') (h : Deck H' p) : Rp K H' (.pr DeckP p :: L) := by
  obtain ⟨a, e⟩ := h
  exact R.chgP b e ⟨a, rfl⟩
theorem Rp.poolTo {n' : Nat} (R : Rp K H (.pr (PoolP n) p :: L)) (b : But p H H') (h : Pool n' H' p) : Rp K H' (.pr (PoolP n') p :: L) := by
  obtain ⟨x, y, c, e, h0, h1⟩ := h
  exact R.chgP b e ⟨x, y, c, rfl, h0, h1⟩
/-- a draw -/
theorem g_dtakeR (R : Rp K H L) (h : Sel (.pr DeckP p) L L1) (h0 : 0 < m) (hm : m.natAbs < 2 ^ 8500) (q : ∀ r H', 0 ≤ r → r < m → Rp K H' (.pr DeckP p :: L1) → Q (.int r) H') : sp_dtake K ([.ref p, .int m] ++ []) H Q E :=
  ⟨p, m, rfl, (R.sel h).deck, h0, hm, fun r H' r0 r1 b d => q r H' r0 r1 ((R.sel h).deckTo b d)⟩
theorem g_takeR (R : Rp K H L) (h : Sel (.pr (PoolP n) p) L L1) (hn : n ≤ 2 ^ 60) (h0 : 0 < m) (hm : m.natAbs < 2 ^ 8500) (q : ∀ r H', 0 ≤ r → r < m → Rp K H' (.pr (PoolP (n + 1)) p :: L1) → Q (.int r) H') : sp_take K ([.ref p, .int m] ++ []) H Q E :=
  ⟨p, n, m, rfl, (R.sel h).pool, hn, h0, hm, fun r H' r0 r1 b d => q r H' r0 r1 ((R.sel h).poolTo b d)⟩
/-- a new one taken in -/
theorem Rp.prNew {P : List V → Prop} {xs : List V} (R : Rp K H L) (n : H p = none) (s : Same H H') (e : H' p = some (.lst xs)) (h : P xs) : Rp K H' (.pr P p :: L) := by
  obtain ⟨ps, u, r⟩ := R
  exact ⟨_, .cons (p := [.top p xs]) ⟨_, h, rfl⟩ u, Rf.join (A := [.top p xs]) ⟨by show [p].Nodup; simp, fun F hF => (by cases List.mem_singleton.mp hF), fun m hm => by cases List.mem_singleton.mp hm; exact e⟩ r (r.same s) (fun b o _ e => s b o e) (fun a ha => by cases List.mem_singleton.mp ha; exact n) (fun F hF => by cases List.mem_singleton.mp hF) fun P hP => by cases List.mem_singleton.mp hP⟩
theorem Rp.deckNew (R : Rp K H L) (n : H p = none) (s : Same H H') (h : Deck H' p) : Rp K H' (.pr DeckP p :: L) := by
  obtain ⟨a, e⟩ := h
  exact R.prNew n s e ⟨a, rfl⟩
theorem Rp.poolNew (R : Rp K H L) (np : H p = none) (s : Same H H') (h : Pool n H' p) : Rp K H' (.pr (PoolP n) p :: L) := by
  obtain ⟨a, b, c, e, h0, h1⟩ := h
  exact R.prNew np s e ⟨a, b, c, rfl, h0, h1⟩
end
/-! comprehensions of ints -/
def rg (lo : Int) (n : Nat) : List Int := (List.range n).map fun i : Nat => lo + (i : Int)
theorem rg_snoc (lo : Int) (n : Nat) : rg lo (n + 1) = rg lo n ++ [lo + n] := by
  unfold rg; rw [List.range_succ, List.map_append]; rfl
theorem mem_rg {lo : Int} {n : Nat} {z : Int} : z ∈ rg lo n ↔ lo ≤ z ∧ z < lo + n := by
  unfold rg
  rw [List.mem_map]
  constructor
  · rintro ⟨i, hi, rfl⟩
    have := List.mem_range.mp hi
    omega
  · intro h
    exact ⟨(z - lo).toNat, List.mem_range.mpr (by omega), by omega⟩
theorem rg_len {lo : Int} {n : Nat} : (rg lo n).length = n := by unfold rg; rw [List.length_map, List.length_range]
section
variable {K : PySem.W.Frag} {H : Hp} {L : List It} {a p : Addr} {σ : L2.St} {g : TG} {tt : TT} {te : TE} {vs : List Nat} {Qd : Hp → Prop} {lo : Int} {n : Nat} {ns : List Int}
theorem filter_take_snoc {f : Int → Bool} {i : Nat} {x : Int} (h : ns[i]? = some x) : (ns.take (i + 1)).filter f = if f x then (ns.take i).filter f ++ [x] else (ns.take i).filter f := by
  rw [take_snoc h, List.filter_append]
  by_cases z : f x
  · simp [z]
  · simp [z]
theorem lcfI_list (f : Int → Bool) (R : Rp K H L) (nL : H p = none) (sz : ns.length < 100000) (hl : ∀ X H', Rp K H' (X :: L) → SqL K H' a (ns.map V.int))
    (turn : ∀ (i : Nat) x X H', ns[i]? = some x → Rp K H' (X :: L) → ∀ (Qy : VK) (Qn : Hp → Prop), (f x = true → ∀ H4, Rp K H4 (X :: L) → Qy (.int x) H4) → (f x = false → ∀ H4, Rp K H4 (X :: L) → Qn H4) → g (.int x) (wipe σ vs) H' fun σ2 H2 => wipe σ2 vs = wipe σ vs ∧ tt σ2 H2 fun b H3 => if b = true then te σ2 H3 Qy else Qn H3)
    (done : ∀ H', Rp K H' (.ow (.li .lf) (.ref p) (IL (ns.filter f)) :: L) → Qd H') : LoopC (Itl K a) g tt te vs p σ Qd H := by
  refine lco_list (xs := ns.map V.int) .lf (fun i ds L' => ds = ((ns.take i).filter f).map PyData.int ∧ L' = L) R nL ⟨rfl, rfl⟩ (by rw [List.length_map]; exact sz) (fun i ds L' X H' ⟨_, z⟩ R' => by subst z; exact hl X H' R') ?_ (fun ds L' H' ⟨e1, e2⟩ R' => by
    subst e1 e2; rw [List.length_map, List.take_length] at R'; exact done H' R')
  rintro i x ds L' X H' hx ⟨rfl, rfl⟩ R Qy Qn q1 q2
  rw [List.getElem?_map] at hx
  obtain ⟨z, hz, rfl⟩ := Option.map_eq_some_iff.mp hx
  exact turn i z X H' hz R Qy Qn (fun hf H4 R4 => q1 _ (.int z) _ H4 ⟨by rw [filter_take_snoc hz, if_pos hf, List.map_append]; rfl, rfl⟩ (R4.int z)) (fun hf H4 R4 => q2 _ H4 ⟨by rw [filter_take_snoc hz, if_neg (by rw [hf]; decide)], rfl⟩ R4)
theorem lcfI_tup (f : Int → Bool) (R : Rp K H L) (nL : H p = none) (sz : ns.length < 100000) (hl : ∀ H', SqT K H' a (ns.map V.int))
    (turn : ∀ (i : Nat) x X H', ns[i]? = some x → Rp K H' (X :: L) → ∀ (Qy : VK) (Qn : Hp → Prop), (f x = true → ∀ H4, Rp K H4 (X :: L) → Qy (.int x) H4) → (f x = false → ∀ H4, Rp K H4 (X :: L) → Qn H4) → g (.int x) (wipe σ vs) H' fun σ2 H2 => wipe σ2 vs = wipe σ vs ∧ tt σ2 H2 fun b H3 => if b = true then te σ2 H3 Qy else Qn H3)
    (done : ∀ H', Rp K H' (.ow (.li .lf) (.ref p) (IL (ns.filter f)) :: L) → Qd H') : LoopC (Itt K a) g tt te vs p σ Qd H := by
  refine lco_tup (xs := ns.map V.int) .lf (fun i ds L' => ds = ((ns.take i).filter f).map PyData.int ∧ L' = L) R nL ⟨rfl, rfl⟩ (by rw [List.length_map]; exact sz) (fun i ds L' X H' _ R' => hl H') ?_ (fun ds L' H' ⟨e1, e2⟩ R' => by
    subst e1 e2; rw [List.length_map, List.take_length] at R'; exact done H' R')
  rintro i x ds L' X H' hx ⟨rfl, rfl⟩ R Qy Qn q1 q2
  rw [List.getElem?_map] at hx
  obtain ⟨z, hz, rfl⟩ := Option.map_eq_some_iff.mp hx
  exact turn i z X H' hz R Qy Qn (fun hf H4 R4 => q1 _ (.int z) _ H4 ⟨by rw [filter_take_snoc hz, if_pos hf, List.map_append]; rfl, rfl⟩ (R4.int z)) (fun hf H4 R4 => q2 _ H4 ⟨by rw [filter_take_snoc hz, if_neg (by rw [hf]; decide)], rfl⟩ R4)
theorem lcfI_range (f : Int → Bool) (R : Rp K H L) (nL : H p = none) (sz : n < 100000)
    (turn : ∀ (i : Nat) X H', i < n → Rp K H' (X :: L) → ∀ (Qy : VK) (Qn : Hp → Prop), (f (lo + i) = true → ∀ H4, Rp K H4 (X :: L) → Qy (.int (lo + i)) H4) → (f (lo + i) = false → ∀ H4, Rp K H4 (X :: L) → Qn H4) → g (.int (lo + i)) (wipe σ vs) H' fun σ2 H2 => wipe σ2 vs = wipe σ vs ∧ tt σ2 H2 fun b H3 => if b = true then te σ2 H3 Qy else Qn H3)
    (done : ∀ H', Rp K H' (.ow (.li .lf) (.ref p) (IL ((rg lo n).filter f)) :: L) → Qd H') : LoopC (Itr lo n) g tt te vs p σ Qd H := by
  refine lco_range .lf (fun i ds L' => ds = ((rg lo i).filter f).map PyData.int ∧ L' = L) R nL ⟨rfl, rfl⟩ sz ?_ (fun ds L' H' ⟨e1, e2⟩ R' => by subst e1 e2; exact done H' R')
  rintro i ds L' X H' hi ⟨rfl, rfl⟩ R Qy Qn q1 q2
  refine turn i X H' hi R Qy Qn (fun hf H4 R4 => q1 _ (.int (lo + i)) _ H4 ⟨?_, rfl⟩ (R4.int _)) (fun hf H4 R4 => q2 _ H4 ⟨?_, rfl⟩ R4)
  · rw [rg_snoc, List.filter_append, List.filter_cons_of_pos hf, List.map_append]; rfl
  · rw [rg_snoc, List.filter_append, List.filter_cons_of_neg (by rw [hf]; decide), List.filter_nil, List.append_nil]
/-- a map of a range to ints -/
theorem lcmI_range (e : Nat → Int) (R : Rp K H L) (nL : H p = none) (sz : n < 100000)
    (turn : ∀ (i : Nat) X H', i < n → Rp K H' (X :: L) → ∀ Qy : VK, (∀ H4, Rp K H4 (X :: L) → Qy (.int (e i)) H4) → g (.int (lo + i)) (wipe σ vs) H' fun σ2 H2 => wipe σ2 vs = wipe σ vs ∧ te σ2 H2 Qy)
    (done : ∀ H', Rp K H' (.ow (.li .lf) (.ref p) (IL ((List.range n).map e)) :: L) → Qd H') : LoopC (Itr lo n) g tYes te vs p σ Qd H := by
  refine lcm_range .lf (fun i => .int (e i)) R nL sz (fun i X H' hi R Qy q => turn i X H' hi R Qy fun H4 R4 => q _ H4 (R4.int _)) fun H' R => done H' ?_
  unfold IL; rw [List.map_map]; exact R
end
section
variable {K : PySem.W.Frag} {H : Hp} {Q : VK} {L : List It} {a b : Addr} {s s1 : Own} {ds : List PyData} {ns : List Int} {x : V}
/-- against a new empty list -/
theorem g_eqNR {y : V} (R : Rp K H L) (h1 : It.ow s x (.list ds) ∈ L) (h2 : It.ow s1 y (.list []) ∈ L) (c1 : SeqAt.shaped (.list ds) = true) (q : Q (.bl (decide (ds = []))) H) : rEqD K x y H Q := g_eqR R h1 h2 c1 rfl (by rw [eqv_nil]; exact q)
theorem g_neNR {y : V} (R : Rp K H L) (h1 : It.ow s x (.list ds) ∈ L) (h2 : It.ow s1 y (.list []) ∈ L) (c1 : SeqAt.shaped (.list ds) = true) (q : Q (.bl (!decide (ds = []))) H) : rNeD K x y H Q := g_neR R h1 h2 c1 rfl (by rw [eqv_nil]; exact q)
theorem g_eqNI {y : V} (R : Rp K H L) (h1 : It.ow s x (IL ns) ∈ L) (h2 : It.ow s1 y (.list []) ∈ L) (q : Q (.bl (decide (ns = []))) H) : rEqD K x y H Q := g_eqNR R h1 h2 (Sh.il.ok (by decide)) (by
  rw [show decide (ns.map PyData.int = []) = decide (ns = []) by simp]; exact q)
theorem g_neNI {y : V} (R : Rp K H L) (h1 : It.ow s x (IL ns) ∈ L) (h2 : It.ow s1 y (.list []) ∈ L) (q : Q (.bl (!decide (ns = []))) H) : rNeD K x y H Q := g_neNR R h1 h2 (Sh.il.ok (by decide)) (by
  rw [show decide (ns.map PyData.int = []) = decide (ns = []) by simp]; exact q)
end
section
variable {K : PySem.W.Frag} {H : Hp} {Q : VK} {L : List It} {a b : Addr} {s s1 : Own} {ds : List PyData} {ns : List Int} {x : V} {i : Int} {α : Type} {f : α → PyData} {ws : List α}
/-- an item of a list of things of one kind -/
theorem g_ixM (k : Nat) (d0 : α) (R : Rp K H L) (m : It.sh (.ref a) (.list (ws.map f)) ∈ L) (hi : i = (k : Nat)) (hk : k < ws.length) (q : ∀ w, Rp K H (.sh w (f (ws.getD k d0)) :: L) → Q w H) : rIxL K (.ref a) (.int i) H Q :=
  g_ixS R m hi (by rw [List.getElem?_map, List.getD_eq_getElem?_getD, List.getElem?_eq_getElem hk]; rfl) q
theorem g_ixMF (k : Nat) (d0 : α) (R : Rp K H L) (m : It.ow s (.ref a) (.list (ws.map f)) ∈ L) (hi : i = (k : Nat)) (hk : k < ws.length) (n : noL (f (ws.getD k d0)) = true) (q : ∀ w, Rp K H (.sh w (f (ws.getD k d0)) :: L) → Q w H) : rIxL K (.ref a) (.int i) H Q :=
  g_ixF R m hi (by rw [List.getElem?_map, List.getD_eq_getElem?_getD, List.getElem?_eq_getElem hk]; rfl) n q
theorem g_ixIL (k : Nat) (R : Rp K H L) (m : It.ow s (.ref a) (IL ns) ∈ L) (hi : i = (k : Nat)) (hk : k < ns.length) (q : Q (.int (ns.getD k 0)) H) : rIxL K (.ref a) (.int i) H Q :=
  g_ixI R m hi (by rw [List.getElem?_map, List.getD_eq_getElem?_getD, List.getElem?_eq_getElem hk]; rfl) q
theorem g_isiLR (R : Rp K H L) (m : It.ow s (.ref a) (.list ds) ∈ L) (q : Q (.bl true) H) : rIsi K [.ref a, .ty "list"] H Q := by
  obtain ⟨xs, h, _⟩ := R.raw m
  exact g_isiL (SqL.of h) q
theorem g_isiTR (R : Rp K H L) (m : It.ow s (.ref a) (.tuple ds) ∈ L) (q : Q (.bl true) H) : rIsi K [.ref a, .ty "tuple"] H Q := by
  obtain ⟨xs, h, _⟩ := R.rawT m
  exact g_isiT h q
theorem g_isiLTR (R : Rp K H L) (m : It.ow s (.ref a) (.list ds) ∈ L) (q : Q (.bl false) H) : rIsi K [.ref a, .ty "tuple"] H Q := by
  obtain ⟨xs, h, _⟩ := R.raw m
  exact g_isiLT (SqL.of h) q
theorem g_isiTLR (R : Rp K H L) (m : It.ow s (.ref a) (.tuple ds) ∈ L) (q : Q (.bl false) H) : rIsi K [.ref a, .ty "list"] H Q := by
  obtain ⟨xs, h, _⟩ := R.rawT m
  exact g_isiTL h q
theorem tyLR (R : Rp K H L) (m : It.ow s (.ref a) (.list ds) ∈ L) : tyV K "list" (.ref a) H := by
  obtain ⟨xs, h1, _⟩ := R.raw m
  exact ty_l h1
end
/-- a list's method: its list stands -/
theorem tBMq {K : PySem.W.Frag} {a : Addr} {H : Hp} {T : String} {B : Prop} (h : tyV K T (.ref a) H) (q : B) : tyV K T (.ref a) H ∧ B := ⟨h, q⟩
section
variable {K : PySem.W.Frag} {H H' : Hp} {Q : VK} {L L1 L2 L3 : List It} {a b p : Addr} {s s1 : Own} {d e f : PyData} {ds : List PyData} {v x y z : V} {xs : List V}
/-- a tuple of flat things -/
theorem g_tupF {G : Addr → Prop} (ds : List PyData) (R : Rp K H L) (l : xs.length ≤ 100000) (h : ∀ H' : Hp, Same H H' → DqAll K H' xs ds) (n : noLs ds = true) (k : ∀ p, H p = none → Rp K (upd H p (.tup xs)) (.sh (.ref p) (.tuple ds) :: L) → G p) : xs.length ≤ sizeLine ∧ ∀ p, H p = none → G p :=
  ⟨sz_le l, fun p np => k p np ((R.same (same_new np)).flat (.tup sqT_at (h _ (same_new np))) (by show noLs ds = true; exact n))⟩
theorem Dq.t2I (h : Dq K H v (.tuple [d, e])) : ∃ a x y, v = .ref a ∧ SqT K H a [x, y] ∧ Dq K H x d ∧ Dq K H y e := by
  cases h with
  | tup h1 h2 =>
    cases h2 with
    | cons h3 h4 =>
      cases h4 with
      | cons h5 h6 =>
        cases h6
        exact ⟨_, _, _, rfl, h1, h3, h5⟩
theorem Dq.t3I (h : Dq K H v (.tuple [d, e, f])) : ∃ a x y z, v = .ref a ∧ SqT K H a [x, y, z] ∧ Dq K H x d ∧ Dq K H y e ∧ Dq K H z f := by
  cases h with
  | tup h1 h2 =>
    cases h2 with
    | cons h3 h4 =>
      cases h4 with
      | cons h5 h6 =>
        cases h6 with
        | cons h7 h8 =>
          cases h8
          exact ⟨_, _, _, _, rfl, h1, h3, h5, h7⟩
/-- a shared pair taken apart -/
theorem Rp.sh2 (R : Rp K H L) (h : It.sh v (.tuple [d, e]) ∈ L) : ∃ a x y, v = .ref a ∧ SqT K H a [x, y] ∧ Rp K H (.sh x d :: .sh y e :: L) := by
  obtain ⟨a, xs, rfl, l, hs, R'⟩ := R.tv h
  match xs, l with
  | [x, y], _ =>
    refine ⟨a, x, y, rfl, hs, ?_⟩
    have R1 := R'.tvAt (i := 1) (x := y) (d := e) mem_here rfl rfl
    have R2 := R1.tvAt (i := 0) (x := x) (d := d) (.tail _ mem_here) rfl rfl
    exact R2.wk (.take .here (.take .here (.drop .refl)))
theorem Rp.sh3 (R : Rp K H L) (h : It.sh v (.tuple [d, e, f]) ∈ L) : ∃ a x y z, v = .ref a ∧ SqT K H a [x, y, z] ∧ Rp K H (.sh x d :: .sh y e :: .sh z f :: L) := by
  obtain ⟨a, xs, rfl, l, hs, R'⟩ := R.tv h
  match xs, l with
  | [x, y, z], _ =>
    refine ⟨a, x, y, z, rfl, hs, ?_⟩
    have R1 := R'.tvAt (i := 2) (x := z) (d := f) mem_here rfl rfl
    have R2 := R1.tvAt (i := 1) (x := y) (d := e) (.tail _ mem_here) rfl rfl
    have R3 := R2.tvAt (i := 0) (x := x) (d := d) (.tail _ (.tail _ mem_here)) rfl rfl
    exact R3.wk (.take .here (.take .here (.take .here (.drop .refl))))
theorem g_l3R {G : Addr → Prop} (R : Rp K H L) (h1 : Sel (.ow s x d) L L1) (h2 : Sel (.ow s y e) L1 L2) (h3 : Sel (.ow s z f) L2 L3) (k : ∀ c, H c = none → Rp K (upd H c (.lst [x, y, z])) (.ow (.li s) (.ref c) (.list [d, e, f]) :: L3) → G c) : [x, y, z].length ≤ sizeLine ∧ ∀ p, H p = none → G p :=
  ⟨by show 3 ≤ sizeLine; decide, fun p np => k p np (Rp.mkL (xs := [x, y, z]) (ds := [d, e, f]) ((R.sel h1).perm ((h2.perm.trans (h3.perm.cons _)).cons _)) rfl np)⟩
/-- a shared list's loop: where it stands -/
theorem Rp.svL (R : Rp K H L) (h : It.ps (Sv K a xs ds) ∈ L) : SqL K H a xs := SqL.of (R.psOf h).1
end
section
variable {K : PySem.W.Frag} {σ : L2.St} {H : Hp} {a : Addr} {g : TG} {t : TGs} {v : V} {vs : List V} {n : Nat} {Q : L2.St → Hp → Prop}
instance : St1 (gCons g t (v :: vs) σ H Q) (g v σ H fun σ1 H1 => t vs σ1 H1 Q) := ⟨fun h => ⟨v, vs, rfl, h⟩⟩
instance : St1 (gNil [] σ H Q) (Q σ H) := ⟨fun h => ⟨rfl, h⟩⟩
theorem g_gTup (h : SqT K H a vs) (l : vs.length = n) (q : t vs σ H Q) : gTup K n t (.ref a) σ H Q := ⟨a, vs, rfl, h, l, q⟩
end
section
variable {K : PySem.W.Frag} {H : Hp} {L L1 : List It} {a p : Addr} {σ : L2.St} {g : TG} {tt : TT} {te : TE} {vs : List Nat} {Qd : Hp → Prop} {ds0 : List PyData}
/-- a map over a list of one's own, which stays -/
theorem lcf_ow (s : Own) (f : PyData → Bool) (e : PyData → PyData) (R : Rp K H L) (h : Sel (.ow (.li .lf) (.ref a) (.list ds0)) L L1) (nL : H p = none) (sz : ds0.length < 100000)
    (turn : ∀ (i : Nat) x d X M H', ds0[i]? = some d → Rp K H' (.sh x d :: X :: (M ++ L1)) → ∀ (Qy : VK) (Qn : Hp → Prop), (f d = true → ∀ y H4, Rp K H4 (.ow s y (e d) :: X :: (M ++ L1)) → Qy y H4) → (f d = false → ∀ H4, Rp K H4 (X :: (M ++ L1)) → Qn H4) → g x (wipe σ vs) H' fun σ2 H2 => wipe σ2 vs = wipe σ vs ∧ tt σ2 H2 fun b H3 => if b = true then te σ2 H3 Qy else Qn H3)
    (done : ∀ H', Rp K H' (.ow (.li s) (.ref p) (.list ((ds0.filter f).map e)) :: .ow (.li .lf) (.ref a) (.list ds0) :: L1) → Qd H') : LoopC (Itl K a) g tt te vs p σ Qd H := by
  obtain ⟨a', xs, e', l, R⟩ := (R.sel h).take
  cases e'
  refine lco_list (xs := xs) s (fun i ds L' => ds = ((ds0.take i).filter f).map e ∧ L' = .top a xs :: (each .lf xs ds0 ++ L1)) R nL ⟨rfl, rfl⟩ (by omega) (fun i ds L' X H' ⟨_, z⟩ R' => by subst z; exact SqL.of (R'.topOf (.tail _ mem_here))) ?_ (fun ds L' H' ⟨e1, e2⟩ R' => by
    subst e1 e2; rw [l, List.take_length] at R'
    refine done H' ((Rp.put (R'.perm ?_) l).perm (.swap _ _ _))
    refine List.Perm.trans (.swap _ _ _) (.cons _ ?_)
    exact List.perm_middle.symm)
  rintro i x ds L' X H' hx ⟨rfl, rfl⟩ R Qy Qn q1 q2
  have hi : i < ds0.length := by rw [← l]; exact (List.getElem?_eq_some_iff.mp hx).1
  have hd : ds0[i]? = some ds0[i] := List.getElem?_eq_getElem hi
  refine turn i x _ X (.top a xs :: each .lf xs ds0) H' hd (R.shM (.tail _ (.tail _ (List.mem_append_left _ (each_mem hx hd))))) Qy Qn (fun hf y H4 R4 => q1 y _ _ H4 ⟨?_, rfl⟩ R4) (fun hf H4 R4 => q2 _ H4 ⟨?_, rfl⟩ R4)
  · rw [take_snoc hd, List.filter_append, List.map_append, List.filter_cons_of_pos hf]; rfl
  · rw [take_snoc hd, List.filter_append, List.map_append, List.filter_cons_of_neg (by rw [hf]; decide), List.filter_nil, List.map_nil, List.append_nil]
theorem lcm_ow (s : Own) (e : PyData → PyData) (R : Rp K H L) (h : Sel (.ow (.li .lf) (.ref a) (.list ds0)) L L1) (nL : H p = none) (sz : ds0.length < 100000)
    (turn : ∀ (i : Nat) x d X M H', ds0[i]? = some d → Rp K H' (.sh x d :: X :: (M ++ L1)) → ∀ (Qy : VK), (∀ y H4, Rp K H4 (.ow s y (e d) :: X :: (M ++ L1)) → Qy y H4) → g x (wipe σ vs) H' fun σ2 H2 => wipe σ2 vs = wipe σ vs ∧ te σ2 H2 Qy)
    (done : ∀ H', Rp K H' (.ow (.li s) (.ref p) (.list (ds0.map e)) :: .ow (.li .lf) (.ref a) (.list ds0) :: L1) → Qd H') : LoopC (Itl K a) g tYes te vs p σ Qd H := by
  refine lcf_ow s (fun _ => true) e R h nL sz (fun i x d X M H' hd R Qy Qn q1 _ => turn i x d X M H' hd R Qy fun y H4 R4 => q1 rfl y H4 R4) fun H' R => done H' ?_
  rw [List.filter_eq_self.mpr fun _ _ => rfl] at R
  exact R
end
section
variable {K : PySem.W.Frag} {H : Hp} {Q : VK} {L L1 : List It} {i j : Int} {a b : Addr} {s : Own} {ns : List Int}
theorem g_shl (c : CPow i j) (q : Q (.int (i * 2 ^ j.toNat)) H) : rI CPow (fun i j => .int (i * 2 ^ j.toNat)) (.int i) (.int j) H Q := ⟨i, j, rfl, rfl, c, q⟩
theorem g_shr (c : 0 ≤ j) (q : Q (.int (i / 2 ^ j.toNat)) H) : rI (fun _ j => 0 ≤ j) (fun i j => .int (i / 2 ^ j.toNat)) (.int i) (.int j) H Q := ⟨i, j, rfl, rfl, c, q⟩
theorem g_sortI (R : Rp K H L) (h : It.ow s (.ref a) (IL ns) ∈ L) (q : ∀ c H' ns', ns'.Perm ns → ns'.Pairwise (· ≤ ·) → Rp K H' (.ow (.li .lf) (.ref c) (IL ns') :: L) → Q (.ref c) H') : rSortedI K [.ref a] H Q :=
  ⟨a, ns, rfl, R.ilS h, fun ns' p hp hs np => q p _ ns' hp hs (R.mkI np)⟩
theorem fd_int (i : Int) : FD ((i : Int) : Rat) = .tuple [.int i, .int 1] := rfl
end
theorem map_snoc {α β : Type} (f : α → β) (xs : List α) (x : α) : xs.map f ++ [f x] = (xs ++ [x]).map f := by rw [List.map_append]; rfl
section
variable {K : PySem.W.Frag} {H : Hp} {L : List Fc.It} {a : Addr} {s : Own} {ds : List PyData} {Rx : L2.It → Hp → Prop}
theorem g_ilM (R : Rp K H L) (m : Fc.It.ow s (.ref a) (.list ds) ∈ L) (q : Rx (Itl K a) H) : ilR K Rx (.ref a) H := by
  obtain ⟨xs, h, _⟩ := R.raw m
  exact g_ilR (SqL.of h) q
end
section
variable {K : PySem.W.Frag} {H : Hp} {Q : VK} {L : List Fc.It} {a : Addr} {s : Own} {ns : List Int} {xs : List V}
theorem mono_sql : ∀ H H' : Hp, Same H H' → SqL K H a xs → SqL K H' a xs := fun _ _ s h => sqL_same s h
/-- the script -/
theorem Rp.arg0 (h : SqL K H a xs) : Rp K H [.ps (fun H => SqL K H a xs)] := ⟨_, .cons (p := [_]) rfl .nil, Rf.addps (L := []) mono_sql (by rw [wo_no fun _ => ows_nil]; exact h) Rf.nil⟩
theorem g_listI (R : Rp K H L) (m : Fc.It.ow s (.ref a) (IL ns) ∈ L) (q : ∀ c H', Rp K H' (.ow (.li .lf) (.ref c) (IL ns) :: L) → Q (.ref c) H') : rListOf K [.ref a] H Q :=
  ⟨a, _, rfl, .inl (R.ilS m), fun l nl => q l _ (R.mkI nl)⟩
/-- a slice of a list of ints: some of them -/
theorem g_slI {lo hi : Option Int} (h : SqL K H a (ns.map V.int)) (R : Rp K H L) (q : ∀ c H' ms, ms.length ≤ ns.length → Rp K H' (.ow (.li .lf) (.ref c) (IL ms) :: L) → Q (.ref c) H') : rSlL K (.ref a) lo hi H Q := by
  obtain ⟨ms, e, l⟩ := cutV_int ns lo hi
  exact ⟨a, _, rfl, h, fun p np => q p _ ms l (by rw [e]; exact R.mkI np)⟩
/-- one of some ints -/
theorem g_ixAny {i : Int} (p : Int → Prop) (R : Rp K H L) (m : Fc.It.ow s (.ref a) (IL ns) ∈ L) (h0 : 0 ≤ i) (h1 : i < ns.length) (hp : ∀ z ∈ ns, p z) (q : ∀ z, p z → Q (.int z) H) : rIxL K (.ref a) (.int i) H Q := by
  obtain ⟨z, hz, pz⟩ := atI_of p h0 h1 hp
  exact g_ixL (R.ilS m) hz (q z pz)
end
section
variable {K : PySem.W.Frag} {σ : L2.St} {H : Hp} {Q : VK} {te t : TE} {tl th : TO} {r : V → Option Int → Option Int → Hp → VK → Prop} {G : Option Int → Hp → Prop} {i : Int} {B : Int → Prop}
instance : St1 (tSl r te tl th σ H Q) (te σ H fun x H1 => tl σ H1 fun l H2 => th σ H2 fun u H3 => r x l u H3 Q) := ⟨fun h => h⟩
instance : St1 (tNoPart σ H G) (G none H) := ⟨fun h => h⟩
instance : St1 (tPart t σ H G) (t σ H fun x H1 => ∃ i, x = .int i ∧ G (some i) H1) := ⟨fun h => h⟩
instance : St1 (∃ k, V.int i = .int k ∧ B k) (B i) := ⟨fun h => ⟨i, rfl, h⟩⟩
end
section
variable {K : PySem.W.Frag} {H H' : Hp} {Q : VK} {L L1 : List Fc.It} {a b p : Addr} {s s1 : Own} {ds es : List PyData} {n m : Nat} {E : XK}
theorem Rp.poolMono (R : Rp K H (.pr (PoolP n) p :: L)) (h : n ≤ m) : Rp K H (.pr (PoolP m) p :: L) := R.poolTo (But.refl _ _) (R.pool.mono h)
theorem g_figR (R : Rp K H L) (h : Sel (.pr (PoolP n) p) L L1) (hn : n ≤ 2 ^ 59) (q : ∀ r H', 0 ≤ r → r < 10 ^ 40 → Rp K H' (.pr (PoolP (n + 10)) p :: L1) → Q (.int r) H') : sp_figures K ([.ref p] ++ []) H Q E :=
  ⟨p, n, rfl, (R.sel h).pool, hn, fun r H' r0 r1 b d => q r H' r0 r1 ((R.sel h).poolTo b d)⟩
/-- two shared lists put together -/
theorem g_catS (R : Rp K H L) (h1 : Fc.It.sh (.ref a) (.list ds) ∈ L) (h2 : Fc.It.sh (.ref b) (.list es) ∈ L) (z : ds.length + es.length ≤ 100000) (k : ∀ c H', Rp K H' (.ow (.li .lf) (.ref c) (.list (ds ++ es)) :: L) → Q (.ref c) H') : rCat (.ref a) (.ref b) H Q := by
  obtain ⟨b', ys, e2, l2, eb, R2⟩ := R.shAll h2
  cases e2
  obtain ⟨a', xs, e1, l1, ea, R1⟩ := R2.shAll (List.mem_append_right _ h1)
  cases e1
  refine ⟨a, b, xs, ys, rfl, rfl, ea, eb, sz_le (by omega), fun p np => k p _ (Rp.mkL (xs := xs ++ ys) (ds := ds ++ es) ?_ (by rw [List.length_append, List.length_append, l1, l2]) np)⟩
  rw [each_app l1, List.append_assoc]
  exact R1
end
section
variable {K : PySem.W.Frag} {H H' : Hp} {Q : VK} {L L1 : List Fc.It} {a b p : Addr} {v : V} {d : PyData} {ds es : List PyData} {k : Nat}
/-- an item of a list of one's own with shared items -/
theorem Rp.owAt (R : Rp K H L) (h : Fc.It.ow (.li .lf) v (.list ds) ∈ L) (hd : ds[k]? = some d) : ∃ a xs x, v = .ref a ∧ H a = some (.lst xs) ∧ xs.length = ds.length ∧ xs[k]? = some x ∧ Rp K H (.sh x d :: L) := by
  obtain ⟨L', h'⟩ := sel_of_mem h
  obtain ⟨a, xs, rfl, l, R1⟩ := (R.sel h').take
  have hi : k < xs.length := by rw [l]; exact (List.getElem?_eq_some_iff.mp hd).1
  have hx : xs[k]? = some xs[k] := List.getElem?_eq_getElem hi
  have R2 := R1.shM (.tail _ (List.mem_append_left _ (each_mem hx hd)))
  refine ⟨a, xs, _, rfl, R1.topAt, l, hx, ?_⟩
  have R3 : Rp K H (.top a xs :: (each .lf xs ds ++ (.sh xs[k] d :: L'))) := R2.perm ((List.Perm.swap _ _ _).trans (.cons _ List.perm_middle.symm))
  exact (R3.put l).perm ((List.Perm.swap _ _ _).trans (.cons _ h'.perm.symm))
theorem g_ixOw (k : Nat) {i : Int} (R : Rp K H L) (h : Fc.It.ow (.li .lf) (.ref a) (.list ds) ∈ L) (hi : i = (k : Nat)) (hd : ds[k]? = some d) (q : ∀ w, Rp K H (.sh w d :: L) → Q w H) : rIxL K (.ref a) (.int i) H Q := by
  obtain ⟨b, xs, x, e, hb, _, hx, R'⟩ := R.owAt h hd
  cases e
  exact g_ixL (SqL.of hb) (by rw [hi]; exact atI_nat hx) (q x R')
/-- the last one -/
theorem g_ixOwL (R : Rp K H L) (h : Fc.It.ow (.li .lf) (.ref a) (.list (ds ++ [d])) ∈ L) (q : ∀ w, Rp K H (.sh w d :: L) → Q w H) : rIxL K (.ref a) (.int (-1)) H Q := by
  obtain ⟨b, xs, x, e, hb, l, hx, R'⟩ := R.owAt (k := ds.length) (d := d) h (by simp)
  cases e
  have e2 : xs = xs.take ds.length ++ [x] := by
    have : xs.length = ds.length + 1 := by rw [l]; simp
    rw [← take_snoc hx, List.take_of_length_le (by omega)]
  exact g_ixL (SqL.of hb) (by rw [e2]; exact atI_last _ _) (q x R')
end
theorem list_lt_of_le_ne {a b : List Int} (h : a ≤ b) (n : a ≠ b) : a < b := by
  apply Classical.byContradiction
  intro z
  exact n (List.le_antisymm h (List.not_lt.mp z))
section
variable {K : PySem.W.Frag} {σ : L2.St} {H : Hp} {Q : VK} {L : List Fc.It} {ta tb : TE} {te : L2.St → Hp → (Int → Int → Hp → Prop) → Prop} {G : Int → Int → Hp → Prop} {i j : Int}
instance : St1 (tLstRg te σ H Q) (te σ H fun a b H1 => RgOk a b ∧ ∀ q, H1 q = none → Q (.ref q) (upd H1 q (.lst (rgV a b)))) := ⟨fun h => h⟩
instance : St1 (tRg2 ta tb σ H G) (ta σ H fun x H1 => tb σ H1 fun y H2 => ∃ i j, x = .int i ∧ y = .int j ∧ G i j H2) := ⟨fun h => h⟩
instance : St1 (tRg1 ta σ H G) (ta σ H fun x H1 => ∃ n, x = .int n ∧ G 0 n H1) := ⟨fun h => h⟩
instance {G2 : Int → Int → Prop} : St1 (∃ a b, V.int i = .int a ∧ V.int j = .int b ∧ G2 a b) (G2 i j) := ⟨fun h => ⟨i, j, rfl, rfl, h⟩⟩
theorem rgV_rg (a b : Int) : rgV a b = (rg a (b - a).toNat).map V.int := by unfold rgV rg; rw [List.map_map]; rfl
/-- list(range(..)) -/
theorem g_lstRg {F : Addr → Prop} (R : Rp K H L) (h : 0 ≤ i ∧ i ≤ 16777216 ∧ 0 ≤ j ∧ j ≤ 16777216) (k : ∀ c, H c = none → Rp K (upd H c (.lst (rgV i j))) (.ow (.li .lf) (.ref c) (IL (rg i (j - i).toNat)) :: L) → F c) : RgOk i j ∧ ∀ q, H q = none → F q :=
  ⟨RgOk.of_le h.1 h.2.2.2 h.2.1 h.2.2.1, fun q nq => k q nq (by rw [rgV_rg]; exact R.mkI nq)⟩
end
/-! ### rows of one's own, changed in place -/
section
variable {K : PySem.W.Frag} {H H' : Hp} {Q : VK} {L L1 L2 : List Fc.It} {a b p : Addr} {xs ys : List V} {v x y z : V} {d e f : PyData} {ds es : List PyData} {s : Own} {i j : Int} {k n : Nat}
/-- an item exchanged for another one -/
theorem Rp.focus2 {k : Nat} (R : Rp K H (.top a xs :: (each s xs ds ++ L))) (hx : xs[k]? = some x) (hd : ds[k]? = some d) : ∃ C, Rp K H (.ow s x d :: .top a xs :: (C ++ L)) ∧ ∀ H' ys y e M, Rp K H' (.ow s y e :: .top a ys :: (C ++ M)) → Rp K H' (.top a ys :: (each s (xs.set k y) (ds.set k e) ++ M)) := by
  obtain ⟨l1, e1⟩ := List.getElem?_eq_some_iff.mp hx
  obtain ⟨l2, e2⟩ := List.getElem?_eq_some_iff.mp hd
  have ex : ∀ y, xs.set k y = xs.take k ++ y :: xs.drop (k + 1) := fun y => List.set_eq_take_append_cons_drop.trans (by rw [if_pos l1])
  have ed : ∀ e, ds.set k e = ds.take k ++ e :: ds.drop (k + 1) := fun e => List.set_eq_take_append_cons_drop.trans (by rw [if_pos l2])
  have ex0 : xs = xs.take k ++ x :: xs.drop (k + 1) := by rw [← e1, ← List.drop_eq_getElem_cons l1, List.take_append_drop]
  have ed0 : ds = ds.take k ++ d :: ds.drop (k + 1) := by rw [← e2, ← List.drop_eq_getElem_cons l2, List.take_append_drop]
  have lt : (xs.take k).length = (ds.take k).length := by rw [List.length_take, List.length_take]; omega
  have key : ∀ y e, each s (xs.set k y) (ds.set k e) = each s (xs.take k) (ds.take k) ++ .ow s y e :: each s (xs.drop (k + 1)) (ds.drop (k + 1)) := fun y e => by
    rw [ed e, ex y, each_app lt]; rfl
  have key0 : each s xs ds = each s (xs.take k) (ds.take k) ++ .ow s x d :: each s (xs.drop (k + 1)) (ds.drop (k + 1)) := by
    conv => lhs; rw [ex0, ed0]
    rw [each_app lt]; rfl
  have pm : ∀ ys y e M, List.Perm (.top a ys :: (each s (xs.take k) (ds.take k) ++ .ow s y e :: each s (xs.drop (k + 1)) (ds.drop (k + 1)) ++ M)) (.ow s y e :: .top a ys :: ((each s (xs.take k) (ds.take k) ++ each s (xs.drop (k + 1)) (ds.drop (k + 1))) ++ M)) := fun ys y e M => by
    refine List.Perm.trans (.cons _ ?_) (.swap _ _ _)
    rw [List.append_assoc, List.append_assoc]
    exact List.perm_middle
  refine ⟨each s (xs.take k) (ds.take k) ++ each s (xs.drop (k + 1)) (ds.drop (k + 1)), ?_, fun H' ys y e M R' => ?_⟩
  · rw [key0] at R
    exact R.perm (pm xs x d L)
  · rw [key y e]
    exact R'.perm (pm ys y e M).symm
/-- an own list's item is exchanged -/
theorem Rp.setOw (R : Rp K H (.ow (.li s) (.ref a) (.list ds) :: .ow s y e :: L)) (hk : k < ds.length) : ∃ xs, H a = some (.lst xs) ∧ xs.length = ds.length ∧ Rp K (upd H a (.lst (xs.set k y))) (.ow (.li s) (.ref a) (.list (ds.set k e)) :: L) := by
  obtain ⟨a', xs, ea, l, R1⟩ := R.take
  cases ea
  have hx : xs[k]? = some xs[k] := List.getElem?_eq_getElem (by omega)
  have hd : ds[k]? = some ds[k] := List.getElem?_eq_getElem hk
  obtain ⟨C, R2, back⟩ := R1.focus2 hx hd
  refine ⟨xs, R1.topAt, l, ?_⟩
  have R3 : Rp K H (.top a xs :: .ow s y e :: (C ++ L)) := by
    refine R2.tail.perm (.cons _ ?_)
    exact List.perm_middle
  have R4 := (R3.mut (ys := xs.set k y)).perm (.swap _ _ _)
  exact (back _ _ _ _ _ R4).put (by rw [List.length_set, List.length_set, l])
theorem g_setR (R : Rp K H L) (h1 : Sel (.ow (.li s) (.ref a) (.list ds)) L L1) (h2 : Sel (.ow s y e) L1 L2) (hi : i = (k : Nat)) (hk : k < ds.length) {G : Hp → Prop} (q : ∀ H', Rp K H' (.ow (.li s) (.ref a) (.list (ds.set k e)) :: L2) → G H') : rSetL (.ref a) (.int i) y H G := by
  have R1 : Rp K H (.ow (.li s) (.ref a) (.list ds) :: .ow s y e :: L2) := (R.sel h1).perm (h2.perm.cons _)
  obtain ⟨xs, ea, l, R2⟩ := R1.setOw hk
  refine ⟨a, xs, i, k, rfl, rfl, ea, ?_, q _ R2⟩
  unfold ixN
  rw [hi, if_pos (by omega), if_pos (by omega)]
  rfl
/-- a row of an own list of own rows, looked at -/
theorem g_ixRow {rows : List (List Rat)} (k : Nat) (R : Rp K H L) (m : Fc.It.ow oT (.ref a) (TD rows) ∈ L) (hi : i = (k : Nat)) (hk : k < rows.length) (q : ∀ r vs, H r = some (.lst vs) → DqAll K H vs ((rows.getD k []).map FD) → (∃ xs, H a = some (.lst xs) ∧ xs[k]? = some (.ref r)) → Q (.ref r) H) : rIxL K (.ref a) (.int i) H Q := by
  obtain ⟨xs, h1, h2⟩ := R.raw m
  obtain ⟨w, hw, hd⟩ := DqAll.get h2 (i := k) (d := FL (rows.getD k [])) (by rw [List.getElem?_map, List.getD_eq_getElem?_getD, List.getElem?_eq_getElem hk]; rfl)
  obtain ⟨r, vs, rfl, h3, h4⟩ := Dq.lstI hd
  exact g_ixL (SqL.of h1) (by rw [hi]; exact atI_nat hw) (q r vs h3 h4 ⟨xs, h1, hw⟩)
theorem g_ixCell {row : List Rat} {vs : List V} (k : Nat) (R : Rp K H L) (e : H a = some (.lst vs)) (hd : DqAll K H vs (row.map FD)) (hi : i = (k : Nat)) (hk : k < row.length) (q : ∀ c, Rp K H (.sh (.ref c) (FD (row.getD k 0)) :: L) → Q (.ref c) H) : rIxL K (.ref a) (.int i) H Q := by
  obtain ⟨w, hw, h⟩ := DqAll.get hd (i := k) (d := FD (row.getD k 0)) (by rw [List.getElem?_map, List.getD_eq_getElem?_getD, List.getElem?_eq_getElem hk]; rfl)
  obtain ⟨c, rfl, fr⟩ := dq_frR h
  exact g_ixL (SqL.of e) (by rw [hi]; exact atI_nat hw) (q c (R.flat h rfl))
/-- found[i][j] = v -/
theorem g_set2 {rows : List (List Rat)} {r : Addr} {x : Rat} (k m : Nat) (R : Rp K H L) (h1 : Sel (.ow oT (.ref a) (TD rows)) L L1) (h2 : Sel (.sh y (FD x)) L1 L2) (hk : k < rows.length) (hr : ∃ xs, H a = some (.lst xs) ∧ xs[k]? = some (.ref r)) (hj : j = (m : Nat)) (hm : m < (rows.getD k []).length) {G : Hp → Prop}
    (q : ∀ H', Rp K H' (.ow oT (.ref a) (TD (rows.set k ((rows.getD k []).set m x))) :: L2) → G H') : rSetL (.ref r) (.int j) y H G := by
  have R1 : Rp K H (.ow oT (.ref a) (TD rows) :: .sh y (FD x) :: L2) := (R.sel h1).perm (h2.perm.cons _)
  obtain ⟨a', xs, ea, l, R2⟩ := R1.take
  cases ea
  obtain ⟨xs', e', hx⟩ := hr
  obtain rfl : xs' = xs := by have := R2.topAt; rw [e'] at this; cases this; rfl
  have hd : (rows.map FL)[k]? = some (FL (rows.getD k [])) := by rw [List.getElem?_map, List.getD_eq_getElem?_getD, List.getElem?_eq_getElem hk]; rfl
  obtain ⟨C, R3, back⟩ := R2.focus2 hx hd
  have R4 : Rp K H (.ow (.li .lf) (.ref r) (FL (rows.getD k [])) :: .sh y (FD x) :: .top a xs' :: (C ++ L2)) := R3.perm (.cons _ ((List.Perm.cons _ List.perm_middle).trans (.swap _ _ _)))
  obtain ⟨vs', ev, lv, R5⟩ := R4.setOw (k := m) (by rw [List.length_map]; exact hm)
  refine ⟨r, vs', j, m, rfl, rfl, ev, ?_, ?_⟩
  · unfold ixN
    rw [List.length_map] at lv
    rw [hj, if_pos (by omega), if_pos (by omega)]
    rfl
  · refine q _ ?_
    have R6 := back _ xs' (.ref r) (FL ((rows.getD k []).set m x)) L2 (by rw [show FL ((rows.getD k []).set m x) = .list (((rows.getD k []).map FD).set m (FD x)) by rw [← List.map_set]]; exact R5)
    have ex : xs'.set k (.ref r) = xs' := by
      obtain ⟨l1, e1⟩ := List.getElem?_eq_some_iff.mp hx
      rw [← e1, List.set_getElem_self]
    rw [ex, ← List.map_set] at R6
    exact R6.put (by rw [l, List.length_map, List.length_map, List.length_set])
end
/-! ### tables by a function -/
def tabG {α : Type} (n : Nat) (g : Nat → Nat → α) : List (List α) := (List.range n).map fun a => (List.range n).map fun b => g a b
section
variable {α : Type} {n i j : Nat} {g g' : Nat → Nat → α} {d : α}
theorem tabG_len : (tabG n g).length = n := by unfold tabG; rw [List.length_map, List.length_range]
theorem tabG_row (h : i < n) : (tabG n g).getD i [] = (List.range n).map (g i) := by
  unfold tabG
  rw [List.getD_eq_getElem?_getD, List.getElem?_map, List.getElem?_range h]; rfl
theorem rowF_at {f : Nat → α} (h : j < n) : ((List.range n).map f).getD j d = f j := by
  rw [List.getD_eq_getElem?_getD, List.getElem?_map, List.getElem?_range h]; rfl
theorem row_at (h : j < n) : ((List.range n).map (g i)).getD j d = g i j := by
  rw [List.getD_eq_getElem?_getD, List.getElem?_map, List.getElem?_range h]; rfl
theorem map_range_set {β : Type} (f : Nat → β) (h : i < n) (x : β) : ((List.range n).map f).set i x = (List.range n).map fun k => if k = i then x else f k := by
  apply List.ext_getElem
  · simp
  · intro k h1 h2
    simp only [List.getElem_set, List.getElem_map, List.getElem_range]
    by_cases e : i = k
    · rw [if_pos e, if_pos e.symm]
    · rw [if_neg e, if_neg (fun z => e z.symm)]
theorem tabG_set (hi : i < n) (hj : j < n) (x : α) : (tabG n g).set i (((tabG n g).getD i []).set j x) = tabG n fun a b => if a = i ∧ b = j then x else g a b := by
  rw [tabG_row hi, map_range_set _ hj, tabG, map_range_set _ hi]
  unfold tabG
  apply List.map_congr_left
  intro a _
  by_cases e : a = i
  · subst e
    simp
  · simp [e]
theorem tabG_congr (h : ∀ a b, a < n → b < n → g a b = g' a b) : tabG n g = tabG n g' := by
  unfold tabG
  apply List.map_congr_left
  intro a ha
  apply List.map_congr_left
  intro b hb
  exact h a b (List.mem_range.mp ha) (List.mem_range.mp hb)
end
/-- whether a cut parts two points -/
def parts (c : List Int) (i j : Nat) : Bool := !decide (decide ((i : Int) ∈ c) = decide ((j : Int) ∈ c))
/-- the weights of the cuts that part two points -/
def sumW (ws : List (List Int × Rat)) (i j : Nat) : Rat := ws.foldl (fun a w => if parts w.1 i j then a + w.2 else a) 0
theorem sumW_snoc (ws : List (List Int × Rat)) (w : List Int × Rat) (i j : Nat) : sumW (ws ++ [w]) i j = if parts w.1 i j then sumW ws i j + w.2 else sumW ws i j := by
  unfold sumW; rw [List.foldl_append]; rfl
theorem parts_symm (c : List Int) (i j : Nat) : parts c i j = parts c j i := by
  unfold parts
  rw [decide_eq_decide.mpr (eq_comm (a := decide ((i : Int) ∈ c)) (b := decide ((j : Int) ∈ c)))]
theorem sumW_symm (ws : List (List Int × Rat)) (i j : Nat) : sumW ws i j = sumW ws j i := by
  unfold sumW
  rw [show (fun (a : Rat) (w : List Int × Rat) => if parts w.1 i j then a + w.2 else a) = fun (a : Rat) (w : List Int × Rat) => if parts w.1 j i then a + w.2 else a from funext fun a => funext fun w => by rw [parts_symm]]
theorem sumW_bd {b : Nat} : ∀ {ws : List (List Int × Rat)}, (∀ w ∈ ws, Bd b w.2) → ∀ i j, Bd ((b + 1) * ws.length + 1) (sumW ws i j) := fun {ws} h i j => by
  suffices H : ∀ (us : List (List Int × Rat)) (a : Rat) (k : Nat), (∀ w ∈ us, Bd b w.2) → Bd ((b + 1) * k + 1) a → Bd ((b + 1) * (k + us.length) + 1) (us.foldl (fun a w => if parts w.1 i j then a + w.2 else a) a) by
    have := H ws 0 0 h (by show Bd 1 0; exact Bd_zero (by decide))
    rwa [Nat.zero_add] at this
  intro us
  induction us with
  | nil => intro a k _ ha; exact ha
  | cons w us ih =>
    intro a k hw ha
    rw [List.foldl_cons, List.length_cons, show k + (us.length + 1) = (k + 1) + us.length by omega]
    refine ih _ (k + 1) (fun u hu => hw u (List.mem_cons_of_mem _ hu)) ?_
    have e : (b + 1) * (k + 1) + 1 = ((b + 1) * k + 1) + b + 1 := by rw [Nat.mul_add]; omega
    rw [e]
    split
    · exact Bd_add ha (hw w List.mem_cons_self)
    · exact ha.mono (by omega)
/-! ### sets of ints -/
section
variable {P : Program} {w : World} {A : Around} {E : Value → Shared → Prop} {s : Shared}
/-- an empty set's object -/
abbrev setO0 (w : World) : Obj := { cls := .type "set", dict := none, data := .set #[] 0 (.fresh 0 0 (!w.params.followText "set-order")) }
theorem set_ofL {l : Addr} {its : Array Value} {ns : List Int} {Q : Value → Shared → Prop} (calm : A.handled = none) (hl : s.heap.IsList l its) (ht : IntsAre its.toList ns) (few : ns.length + 1 < scanBound)
    (q : ∀ (h' : Heap) (tk c : Nat), SetR w h' s.heap.objs.size (fun j => decide (j ∈ ns)) c → (∀ b o, s.heap.get? b = some o → h'.get? b = some o) → Q (.ref s.heap.objs.size) { s with heap := h', toks := tk }) :
    wpAny (model P w) A (call (.type "set") [.ref l]) Q E s := by
  have many : its.size = ns.length := by rw [← Array.length_toList]; exact IntsAre.length ht
  have ⟨c0, t0, m0⟩ := F.called_set.mro
  have i1 := F.called_set.made; have i2 := F.called_set.sub; have i3 := F.called_set.notType; have i4 := F.called_set.canCreate; have i5 := F.typeCall_set_1 (.ref l)
  refine wpAny_call (codeAny_of_tree ?_)
  show wpAny _ _ (callAny (.type "set") _) _ _ _
  refine wpAny_pure ⟨Code.quiet_builtin _ (by decide +kernel), codeAny_builtin F.entry_type_call ?_⟩
  rw [Around.under_plain (weight_type_call_type "set" [.ref l] []) rfl]
  repeat (any_goals (first | assumption | wp_step))
  refine codeAny_mono (code_set_led1 (.ref l) (E := E) (Q₁ := fun v u => v = .ref s.heap.objs.size ∧ u = { s with heap := s.heap.push (setO0 w) }) ⟨rfl, rfl⟩) fun r u hr => ?_
  match r, hr with
  | .error e, hr => exact hr
  | .ok (.ret v), hr =>
    obtain ⟨rfl, rfl⟩ := hr
    have n1 : (s.heap.push (setO0 w)).get? s.heap.objs.size = some (setO0 w) := Heap.get?_push_size _ rfl
    have n2 : Shared.TypeIs { s with heap := s.heap.push (setO0 w) } (.ref s.heap.objs.size) "set" := ⟨_, n1, rfl⟩
    have j1 := F.called_set.init.lookup; have j2 := F.called_set.init.bind (.ref s.heap.objs.size)
    repeat (any_goals (first | assumption | wp_step))
    refine codeAny_mono (codeAny_call_builtin (R := wants (fun v u => v = .none ∧ ∃ h' tk c, u = { s with heap := h', toks := tk } ∧ SetR w h' s.heap.objs.size (fun j => decide (j ∈ ns)) c ∧ (∀ b o, s.heap.get? b = some o → h'.get? b = some o)) E)
      F.called_set.init.plain F.entry_set_init (check_set_init_1 n2 ?_)) fun r2 u2 hr2 => ?_
    · have ⟨⟨oc, od, oo, os⟩, lo, lc, ln, ld⟩ := hl
      have ec : oc = .type "list" := lc
      have ed : oo = .seq its ln := ld
      subst ec ed
      have lo' : (s.heap.push (setO0 w)).get? l = some { cls := .type "list", dict := od, data := .seq its ln, slots := os } := Heap.get?_push_of_some _ lo
      have k1 := F.sub_list_set; have k2 := F.sub_list_frozenset
      have k3 : (Value.type "list" == Value.type "dict") = false := by decide
      have l1 : (s.heap.push (setO0 w)).IsList l its := ⟨_, lo', rfl, ln, rfl⟩
      unfold Builtin.«set.__init__» noKeywords Builtin.Frozenset.updateFrom
      generalize hI : pyIter = pI
      wp_walk
      subst hI
      refine wpAny_pyIter_list l1 (wpAny_bind (wpAny_runValue ?_))
      have below : l < s.heap.objs.size := Heap.lt_size lo
      have cm : A.in1.in1.in1.handled = none := by simp [calm]
      have ne1 : l ≠ (s.heap.push (setO0 w)).objs.size := by rw [Heap.size_push]; exact Nat.ne_of_lt (Nat.lt_succ_of_lt below)
      have ni : s.heap.objs.size ∉ [(s.heap.push (setO0 w)).objs.size, l] := by
        rw [Heap.size_push]
        simp only [List.mem_cons, List.not_mem_nil, or_false, not_or]
        exact ⟨Nat.ne_of_lt (Nat.lt_succ_self _), Nat.ne_of_gt below⟩
      refine set_update_ints ((Walks.list cm _ l ne1 its).toS) s.heap.objs.size ni ns many few (fun i v hv => ?_) (its.size - 0) 0 _ (by omega) (Nat.zero_le _) ⟨⟨_, Heap.get?_push_size _ rfl, rfl, rfl⟩, l1.push _⟩ ⟨0, Nat.le_refl 0, setR_new_at (Heap.get?_push_of_some _ n1)⟩ fun u3 c3 mv _ R3 => ?_
      · have hi : i < ns.length := by rw [← many]; exact (Array.getElem?_eq_some_iff.mp hv).1
        have ⟨t, e⟩ := IntsAre.int_at ht i v (by rw [Array.getElem?_toList]; exact hv)
        exact ⟨ns[i], t, List.getElem?_eq_getElem hi, by rw [e, List.getD_eq_getElem?_getD, List.getElem?_eq_getElem hi]; rfl⟩
      · obtain ⟨h3, g3, d3, t3, o3⟩ := u3
        have e1 : g3 = s.gens := mv.gens
        have e2 : d3 = s.drawn := mv.drawn
        have e3 : o3 = s.os := mv.os
        subst e1 e2 e3
        show wpAny _ _ _ _ _ _
        refine wpAny_pure ?_
        show wpAny _ _ (ret Value.none) _ _ _
        refine wpAny_pure ⟨rfl, h3, t3, c3, rfl, R3, fun b o e => ?_⟩
        have lt := Heap.lt_size e
        refine mv.heap b o ?_ (Heap.get?_push_of_some _ (Heap.get?_push_of_some _ e))
        rw [Heap.size_push]
        simp only [List.mem_cons, List.not_mem_nil, or_false, not_or]
        exact ⟨Nat.ne_of_lt lt, Nat.ne_of_lt (Nat.lt_succ_of_lt lt)⟩
    · match r2, hr2 with
      | .error e, hr2 => exact hr2
      | .ok (.ret v), hr2 =>
        obtain ⟨rfl, h', tk, c, rfl, R2, keep⟩ := hr2
        repeat (any_goals (first | assumption | wp_step))
        exact q _ _ _ R2 keep
      | .ok .next, hr2 => exact hr2.elim
  | .ok .next, hr => exact hr.elim
end
/-- the unlike ones -/
def nub : List Int → List Int
  | [] => []
  | n :: ns => if n ∈ ns then nub ns else n :: nub ns
theorem nub_mem {k : Int} : ∀ {ns : List Int}, k ∈ nub ns ↔ k ∈ ns
  | [] => Iff.rfl
  | n :: ns => by
    have ih := nub_mem (k := k) (ns := ns)
    by_cases h : n ∈ ns
    · rw [nub, if_pos h, ih, List.mem_cons]
      exact ⟨.inr, fun z => z.elim (fun e => e ▸ h) id⟩
    · rw [nub, if_neg h, List.mem_cons, List.mem_cons, ih]
theorem nub_nodup : ∀ (ns : List Int), (nub ns).Nodup
  | [] => .nil
  | n :: ns => by
    by_cases h : n ∈ ns
    · rw [nub, if_pos h]; exact nub_nodup ns
    · rw [nub, if_neg h]; exact List.nodup_cons.mpr ⟨fun z => h (nub_mem.mp z), nub_nodup ns⟩
theorem nub_le : ∀ (ns : List Int), (nub ns).length ≤ ns.length
  | [] => Nat.le_refl 0
  | n :: ns => by
    have ih := nub_le ns
    by_cases h : n ∈ ns
    · rw [nub, if_pos h, List.length_cons]; omega
    · rw [nub, if_neg h, List.length_cons, List.length_cons]; omega
theorem nub_id {ns : List Int} (h : ns.Nodup) : nub ns = ns := by
  induction ns with
  | nil => rfl
  | cons n ns ih =>
    obtain ⟨a, b⟩ := List.nodup_cons.mp h
    rw [nub, if_neg a, ih b]
theorem nub_full {ns : List Int} : (nub ns).length = ns.length ↔ ns.Nodup := by
  constructor
  · intro h
    induction ns with
    | nil => exact .nil
    | cons n ns ih =>
      have := nub_le ns
      by_cases q : n ∈ ns
      · rw [nub, if_pos q, List.length_cons] at h; omega
      · rw [nub, if_neg q, List.length_cons, List.length_cons] at h
        exact List.nodup_cons.mpr ⟨q, ih (by omega)⟩
  · intro h; rw [nub_id h]
/-- unlike ones of the same members are as many -/
theorem nd_len : ∀ {l m : List Int}, l.Nodup → m.Nodup → (∀ k, k ∈ l ↔ k ∈ m) → l.length = m.length := by
  intro l
  induction l with
  | nil =>
    intro m _ _ h
    cases m with
    | nil => rfl
    | cons a t => exact absurd ((h a).mpr List.mem_cons_self) (by simp)
  | cons a t ih =>
    intro m d1 d2 h
    obtain ⟨a1, a2⟩ := List.nodup_cons.mp d1
    have ha : a ∈ m := (h a).mp List.mem_cons_self
    have e := ih (m := m.erase a) a2 (d2.erase a) fun k => by
      rw [d2.mem_erase_iff, ← h k, List.mem_cons]
      exact ⟨fun z => ⟨fun q => a1 (q ▸ z), .inr z⟩, fun ⟨p, q⟩ => q.elim (fun q => absurd q p) id⟩
    have e2 := List.length_erase_of_mem ha
    have : 0 < m.length := List.length_pos_of_mem ha
    rw [List.length_cons, e]; omega
/-- rising ones of the same members are the same -/
theorem rise_eq : ∀ {l m : List Int}, l.Pairwise (· < ·) → m.Pairwise (· < ·) → (∀ k, k ∈ l ↔ k ∈ m) → l = m := by
  intro l
  induction l with
  | nil =>
    intro m _ _ h
    cases m with
    | nil => rfl
    | cons a t => exact absurd ((h a).mpr List.mem_cons_self) (by simp)
  | cons a t ih =>
    intro m d1 d2 h
    cases m with
    | nil => exact absurd ((h a).mp List.mem_cons_self) (by simp)
    | cons b u =>
      obtain ⟨a1, a2⟩ := List.pairwise_cons.mp d1
      obtain ⟨b1, b2⟩ := List.pairwise_cons.mp d2
      have e : a = b := by
        rcases List.mem_cons.mp ((h a).mp List.mem_cons_self) with z | z
        · exact z
        · rcases List.mem_cons.mp ((h b).mpr List.mem_cons_self) with y | y
          · exact y.symm
          · have := b1 a z; have := a1 b y; omega
      subst e
      rw [ih a2 b2 fun k => ⟨fun z => ?_, fun z => ?_⟩]
      · rcases List.mem_cons.mp ((h k).mp (List.mem_cons_of_mem _ z)) with y | y
        · have := a1 k z; omega
        · exact y
      · rcases List.mem_cons.mp ((h k).mpr (List.mem_cons_of_mem _ z)) with y | y
        · have := b1 k z; omega
        · exact y
/-- the unlike ones, rising -/
def sortN (ns : List Int) : List Int := (nub ns).mergeSort
theorem sortN_mem {k : Int} {ns : List Int} : k ∈ sortN ns ↔ k ∈ ns := by rw [sortN, List.mem_mergeSort, nub_mem]
theorem sortN_len (ns : List Int) : (sortN ns).length = (nub ns).length := List.length_mergeSort _
theorem sortN_rise (ns : List Int) : (sortN ns).Pairwise (· < ·) := by
  have p : (sortN ns).Perm (nub ns) := List.mergeSort_perm _ _
  have d : (sortN ns).Nodup := p.nodup_iff.mpr (nub_nodup ns)
  have s := List.pairwise_mergeSort (le := fun a b : Int => decide (a ≤ b)) (fun a b c => by simpa using fun h1 h2 => Int.le_trans h1 h2) (fun a b => by simpa using Int.le_total a b) (nub ns)
  have s' : (sortN ns).Pairwise fun a b => a ≤ b := s.imp fun h => by simpa using h
  refine (s'.and d).imp fun ⟨h1, h2⟩ => ?_
  omega
theorem sortN_id {ns : List Int} (h : ns.Pairwise (· < ·)) : sortN ns = ns := rise_eq (sortN_rise ns) h fun _ => sortN_mem
theorem sortN_eq {ns : List Int} : ns = sortN ns ↔ ns.Pairwise (· < ·) := ⟨fun h => by rw [h]; exact sortN_rise ns, fun h => (sortN_id h).symm⟩

theorem setR_card {w : World} {h : Heap} {a : Addr} {ns : List Int} {c : Nat} (R : SetR w h a (fun j => decide (j ∈ ns)) c) : c = (nub ns).length := by
  obtain ⟨o, es, ep, t, ho, hx, hd, g, nd, hm, hb, hf, hn, _⟩ := R
  rw [← hn, ← Array.length_toList, ← List.length_map (f := keyOf)]
  exact nd_len nd (nub_nodup ns) fun k => by rw [← hm k, nub_mem, decide_eq_true_eq]

section
variable {X : Cx}
/-- len(set(xs)) -/
def tLenSet (K : PySem.W.Frag) (ta : TE) : TE := fun σ H Q => ta σ H fun x H1 => ∃ (l : Addr) (ns : List Int), x = V.ref l ∧ SqL K H1 l (ns.map V.int) ∧ ns.length < 2000 ∧ Q (.int ((nub ns).length : Nat)) H1
theorem pe_lenSet {K : PySem.W.Frag} {a : Expr} {ta : TE} {p p2 q pos : Pos} (hg : Gl X "len") (hm : X.mg "len" = none) (hg2 : Gl X "set") (hm2 : X.mg "set" = none) (ha : PE X a ta) (hc : X.calm = true := by rfl) (eK : X.K = K := by rfl)
    (na : starEach [a] X.env = (false, eval a X.env) :: starEach [] X.env := by rfl) : PE X (.Call (.Name "len" p) [.Call (.Name "set" p2) [a] [] q] [] pos) (tLenSet K ta) := by
  subst eK
  refine ⟨fun pins s σ H Q I h => Call_ (ld_blt I hg hm PySem.boot_len (PyProof.Rows.callWith_builtin1 (PyProof.Rows.args_cons ?_ rfl) rfl rfl))⟩
  refine Call_ (ld_blt I hg2 hm2 PyProof.Rows.boot_set (PyProof.Rows.callWith_type1 (PyProof.Rows.args_cons (thn (ha.run pins s σ H _ I h) fun v s1 ⟨x, H1, I1, r1, l, ns, e, hq, few, q1⟩ => PyProof.Rows.args_nil ?_) na) na rfl))
  subst e; cases r1
  obtain ⟨its, r, pl, hz⟩ := I1.list hq
  refine set_ofL (I1.ok.hd hc) pl.isList (ns := ns) (by simpa using r.ints) (by unfold scanBound; omega) fun h' tk c R keep => PyProof.Rows.args_nil ?_
  have ec := setR_card R
  obtain ⟨o, es, ep, t, ho, hex, hd, _, _, _, hb, hf, hn, _⟩ := R
  have small := nub_le ns
  exact call_len_set ho hex hd hf (by rw [hn]; omega) ⟨.int ((nub ns).length : Nat), H1, (I1.kept keep).tok _, ⟨_, by rw [hn, ec]⟩, q1⟩
/-- sorted(set(xs)) -/
def tSortSet (K : PySem.W.Frag) (ta : TE) : TE := fun σ H Q => ta σ H fun x H1 => ∃ (l : Addr) (ns : List Int), x = V.ref l ∧ SqL K H1 l (ns.map V.int) ∧ ns.length < 64 ∧ ∀ p : Addr, H1 p = none → Q (.ref p) (upd H1 p (.lst ((sortN ns).map V.int)))
theorem pe_sortSet {K : PySem.W.Frag} {a : Expr} {ta : TE} {p p2 q pos : Pos} (hg : Gl X "sorted") (hm : X.mg "sorted" = none) (hg2 : Gl X "set") (hm2 : X.mg "set" = none) (ha : PE X a ta) (hc : X.calm = true := by rfl) (eK : X.K = K := by rfl)
    (na : starEach [a] X.env = (false, eval a X.env) :: starEach [] X.env := by rfl) : PE X (.Call (.Name "sorted" p) [.Call (.Name "set" p2) [a] [] q] [] pos) (tSortSet K ta) := by
  subst eK
  refine ⟨fun pins s σ H Q I h => Call_ (ld_blt I hg hm PyProof.Rows.boot_sorted (PyProof.Rows.callWith_builtin1 (PyProof.Rows.args_cons ?_ rfl) rfl rfl))⟩
  refine Call_ (ld_blt I hg2 hm2 PyProof.Rows.boot_set (PyProof.Rows.callWith_type1 (PyProof.Rows.args_cons (thn (ha.run pins s σ H _ I h) fun v s1 ⟨x, H1, I1, r1, l, ns, e, hq, few, q1⟩ => PyProof.Rows.args_nil ?_) na) na rfl))
  subst e; cases r1
  obtain ⟨its, r, pl, hz⟩ := I1.list hq
  refine set_ofL (I1.ok.hd hc) pl.isList (ns := ns) (by simpa using r.ints) (by unfold scanBound; omega) fun h' tk c R keep => PyProof.Rows.args_nil ?_
  have ec := setR_card R
  have small := nub_le ns
  have I2 : Inv X pins σ H1 { s1 with heap := h', toks := tk } := I1.kept keep
  refine sorted_set (s := { s1 with heap := h', toks := tk }) R (I2.ok.hd hc) (by omega) fun u p out c2 ks k g o hp hgt hi hs hm hl => ?_
  have hn : H1 p = none := I2.hok.fresh hp
  have e : ks = sortN ns := rise_eq hs (sortN_rise ns) fun j => by rw [hm j, decide_eq_true_eq, sortN_mem]
  subst e
  have hlen : ((sortN ns).map V.int).length ≤ sizeLine := by rw [List.length_map, hl, sizeLine_eq]; omega
  have J : Inv X pins σ (upd H1 p (.lst ((sortN ns).map V.int))) { ({ s1 with heap := h', toks := tk } : Shared) with heap := u.heap, gens := u.gens, drawn := u.drawn, toks := u.toks } :=
    I2.call (ch := []) (Un.laid k hp hn) (I2.hok.laid k hp ⟨hlen, out.toList, c2, vals_of_ints hi, hgt⟩) (by rw [g]; exact I2.bare) (fun _ z => nomatch z)
  have eu : u = { ({ s1 with heap := h', toks := tk } : Shared) with heap := u.heap, gens := u.gens, drawn := u.drawn, toks := u.toks } := by
    cases u; cases s1; cases o; rfl
  rw [eu]
  exact ⟨.ref p, _, J, rfl, q1 p hn⟩
/-- len({x, y, z}) of names -/
def tLen3 (i j k : Nat) : TE := fun σ H Q => ∃ x y z : Int, σ[i]? = some (some (.int x)) ∧ σ[j]? = some (some (.int y)) ∧ σ[k]? = some (some (.int z)) ∧ Q (.int ((nub [x, y, z]).length : Nat)) H
/-- a set under way -/
theorem fill_one {P : Program} {w : World} {A : Around} {E : Value → Shared → Prop} {u : Bool} {D : Addr} {s : Shared} {S : Int → Bool} {n : Nat} {x : Int} {t : Tok} {vs : List Value} {Q : Value → Shared → Prop} (R : s.heap.SetOf (intKind P w) D S n) (small : n < 2000)
    (q : ∀ h' n', h'.SetOf (intKind P w) D (fun j => S j || decide (j = x)) n' → n' = (if S x = true then n else n + 1) → (∀ b o, b ≠ D → s.heap.get? b = some o → h'.get? b = some o) → PySem.W.KdsFill (model P w) A E u D Q vs { s with heap := h', toks := s.toks + 1 }) :
    PySem.W.KdsFill (model P w) A E u D Q (.int x t :: vs) s := by
  refine PySem.W.kds_fill_cons ?_
  unfold setAdd
  refine wpAny_holding (wpAny_bind ((intKind P w).pyHash (k := x) (intKind_is _ _ _ _) ?_))
  exact wpAny_setAddHashed_of (knd := intKind P w) (s := { s with toks := s.toks + 1 }) (intKind_is _ _ _ _) rfl R (by unfold scanBound; omega) fun h' sb R' => q h' _ R' rfl fun b o hb e => (sb.2 b hb).trans e
/-- a name's value, where it stands -/
theorem ld_var {i : Nat} {x : Str} {pos : Pos} {v : V} {pins : List (Addr × Obj)} {σ : L2.St} {H : Hp} {s : Shared} {E : Value → Shared → Prop} (hN : X.N[i]? = some x) (hv : Vis X.env.scope x) (hd : (x == ("__debug__" : Str)) = false) (hcd : (x == ("__classdict__" : Str)) = false)
    (I : Inv X pins σ H s) (e : σ[i]? = some (some v)) : ∃ u, RelV v u ∧ ∀ Q : Value → Shared → Prop, Q u s → wpAny (model X.prog X.w) X.A (eval (.Name x pos) X.env) Q E s := by
  have ⟨m, hn, hl⟩ := I.loc
  have ⟨u, r, l⟩ := hl i x v hN e hv
  refine ⟨u, r, fun Q fin => ?_⟩
  rcases l with ⟨hk, hm⟩ | ⟨hk, c, hc, hcell⟩
  · exact wpAny_Name (wpAny_loadName_local I.ok.kind hk hn hm fin) hd
  · exact hk.elim (fun hk => wpAny_Name (wpAny_loadName_cell I.ok.kind hk hc hcell fin) hd) fun hk => wpAny_Name (wpAny_loadName_free I.ok.kind hk hc hcell fin hcd) hd
theorem pe_len3 {i j k : Nat} {a b c : Str} {p q pos p1 p2 p3 : Pos} (hg : Gl X "len") (hm : X.mg "len" = none) (hcd : PySem.W.kdsCode X.K X.env.code = true)
    (n1 : X.N[i]? = some a := by rfl) (n2 : X.N[j]? = some b := by rfl) (n3 : X.N[k]? = some c := by rfl)
    (v1 : Vis X.env.scope a := by first | exact Or.inl rfl | exact Or.inr (Or.inl rfl) | exact Or.inr (Or.inr rfl)) (v2 : Vis X.env.scope b := by first | exact Or.inl rfl | exact Or.inr (Or.inl rfl) | exact Or.inr (Or.inr rfl))
    (v3 : Vis X.env.scope c := by first | exact Or.inl rfl | exact Or.inr (Or.inl rfl) | exact Or.inr (Or.inr rfl))
    (d : ([a, b, c].all fun x => !(x == ("__debug__" : Str)) && !(x == ("__classdict__" : Str))) = true := by decide) :
    PE X (.Call (.Name "len" p) [.Set [.Name a p1, .Name b p2, .Name c p3] 0 q] [] pos) (tLen3 i j k) := by
  refine ⟨fun pins s σ H Q I h => Call_ (ld_blt I hg hm PySem.boot_len (PyProof.Rows.callWith_builtin1 (PyProof.Rows.args_cons ?_ rfl) rfl rfl))⟩
  obtain ⟨x, y, z, e1, e2, e3, h⟩ := h
  have d1 : ∀ x ∈ [a, b, c], (x == ("__debug__" : Str)) = false ∧ (x == ("__classdict__" : Str)) = false := fun x hx => by
    have := List.all_eq_true.mp d x hx
    simpa using this
  have ⟨da, da'⟩ := d1 a (by simp)
  have ⟨db, db'⟩ := d1 b (by simp)
  have ⟨dc, dc'⟩ := d1 c (by simp)
  rw [arm_eval_Set]
  refine wpAny_bind (wpAny_standAt (wpAny_bind (PySem.W.kds_main I.kIn hcd fun _ => ?_)))
  rw [PySem.W.kds_star _ (by rfl), List.map_map]
  have hx : displayRoad 0 [.Name a p1, .Name b p2, .Name c p3] = .oneByOne := by
    have hn : [Expr.Name a p1, .Name b p2, .Name c p3].all (constantsAlone 8) = false := by
      rw [List.all_cons, show constantsAlone 8 (.Name a p1) = (a == ("__debug__" : Str)) from rfl, da]; rfl
    unfold displayRoad
    rw [if_neg (Nat.lt_irrefl 0), if_neg (by simp), if_neg (by rw [hn]; decide)]
  have hr : (displayRoad 0 [.Name a p1, .Name b p2, .Name c p3] == DisplayRoad.unsure) = false := by rw [hx]; rfl
  refine PySem.W.kds_core (ts := (evalEach [.Name a p1, .Name b p2, .Name c p3] X.env).map fun t => do let v ← t; standAt q; pure v) (by rw [hx]; rfl) (List.findIdx?_eq_none_iff.mpr fun x hx => ?_) (by rw [List.length_map, PySem.W.kds_len]; exact Nat.le_of_ble_eq_true rfl) (by rw [List.map_map]; rfl) fun led => ?_
  · obtain ⟨t, _, rfl⟩ := List.mem_map.mp hx
    rfl
  rw [hr]
  refine PySem.W.kds_all q _ _ _ ?_
  have N0 := (setObjOf_fresh (knd := intKind X.prog X.w) led).setOf (Heap.get?_push_size s.heap rfl) (by decide)
  have I0 : Inv X pins σ H { s with heap := s.heap.push { cls := .type "set", dict := none, data := .set #[] 0 (.fresh 0 0 led) } } := I.kept (t' := s.toks) fun b o e => Heap.get?_push_of_some _ e
  have ⟨u1, ⟨t1, r1⟩, w1⟩ := ld_var (pos := p1) (E := X.xe) n1 v1 da da' I0 e1
  have ⟨u2, ⟨t2, r2⟩, w2⟩ := ld_var (pos := p2) (E := X.xe) n2 v2 db db' I0 e2
  have ⟨u3, ⟨t3, r3⟩, w3⟩ := ld_var (pos := p3) (E := X.xe) n3 v3 dc dc' I0 e3
  subst r1 r2 r3
  refine w1 _ (w2 _ (w3 _ ?_))
  refine fill_one N0 (by decide) fun h1 m1 R1 E1 K1 => ?_
  refine fill_one (s := { s with heap := h1, toks := s.toks + 1 }) R1 (by rw [E1]; decide) fun h2 m2 R2 E2 K2 => ?_
  refine fill_one (s := { s with heap := h2, toks := s.toks + 1 + 1 }) R2 (by rw [E2, E1]; split <;> decide) fun h3 m3 R3 E3 K3 => ?_
  refine PySem.W.kds_fill_nil rfl (PyProof.Rows.args_nil ?_)
  obtain ⟨o, es, ep, t, ho, hex, hd, _, _, _, hf, hn⟩ := R3
  have keep : ∀ b o, s.heap.get? b = some o → h3.get? b = some o := fun b o e => by
    have ne : b ≠ s.heap.objs.size := Nat.ne_of_lt (Heap.lt_size e)
    exact K3 b o ne (K2 b o ne (K1 b o ne (Heap.get?_push_of_some _ e)))
  have en : m3 = (nub [x, y, z]).length := by
    rw [E3, E2, E1]
    by_cases a1 : x = y <;> by_cases a2 : x = z <;> by_cases a3 : y = z <;> simp [nub, a1, a2, a3] <;> grind
  have small := nub_le [x, y, z]
  have : [x, y, z].length = 3 := rfl
  exact call_len_set ho hex hd hf (by rw [hn, en]; omega) ⟨.int ((nub [x, y, z]).length : Nat), H, (I.kept (t' := s.toks + 1 + 1 + 1) keep).tok _, ⟨_, by rw [hn, en]⟩, h⟩
end
/-! ### errors that are kept -/
/-- an error of the class D, caught, at a -/
def errO (D a : Addr) : HO := .ext fun h => ∃ (oe : Obj) (vs : Array Value), h.get? a = some oe ∧ Zc (.ref D) none oe ∧ oe.data = .fields vs
theorem errO_ok {P : Program} {w : World} {H : Hp} {h : Heap} {a D : Addr} {oe : Obj} {vs : Array Value} (e : h.get? a = some oe) (z : Zc (.ref D) none oe) (d : oe.data = .fields vs) : ObjOk P w H h a (errO D a) :=
  ⟨⟨oe, vs, e, z, d⟩, ⟨oe, e⟩, fun _ _ ⟨o, v, q, r⟩ k => ⟨o, v, k o q, r⟩⟩
/-- a caught error held by a pin is tracked from here on -/
theorem track {X : Cx} {pins : List (Addr × Obj)} {σ : L2.St} {H : Hp} {s : Shared} {a D : Addr} {oe : Obj} {vs : Array Value} (J : Inv X ((a, oe) :: pins) σ H s) (hz : Zc (.ref D) none oe) (hv : oe.data = .fields vs)
    (new : X.s_0.heap.get? a = none) (far : ∀ p ∈ X.pn ++ pins, p.1 ≠ a) : Inv X pins σ (upd H a (errO D a)) s := by
  have ⟨at_, free, nL, nF, nC⟩ := J.pin (a, oe) (List.mem_append_right _ List.mem_cons_self)
  have n0 : ∀ b o, X.s_0.heap.get? b = some o → b ≠ a := fun b o e z => by subst z; rw [new] at e; cases e
  have nT : ∀ {b o}, H b = some o → b ≠ a := fun {b o} e => ne_of_none e free
  have nX : ∀ x c, X.env.cells.lookup x = some c → c ≠ a := fun x c e z => by
    subst z
    obtain ⟨v, o, ho, hd⟩ := J.cell x _ e
    rw [at_] at ho
    cases ho
    exact nC _ hd
  refine ⟨J.ok, J.os, J.bare, ⟨J.base.keep, J.base.slot, fun b o e n hx => ?_, J.base.there, fun b xs e => ?_, fun b o u e => ?_, fun b ps e => ?_⟩, J.loc, J.cell, ?_, fun x c e => ?_, fun p hp => ?_, fun b u e => ?_, J.len⟩
  · rw [upd_ne (n0 b o e)]; exact J.base.free b o e n hx
  · have q := J.base.tups b xs e
    rw [upd_ne (nT q)]; exact q
  · have q := J.base.frzs b o u e
    rw [upd_ne (nT q)]; exact q
  · obtain ⟨m, q⟩ := J.base.tbls b ps e
    exact ⟨m, by rw [upd_ne (nT q)]; exact q⟩
  · rw [upd_ne (Ne.symm nL)]; exact J.free
  · rw [upd_ne (nX x c e)]; exact J.freeC x c e
  · have q := J.pin p ((List.mem_append.mp hp).elim (fun z => List.mem_append_left _ z) fun z => List.mem_append_right _ (List.mem_cons_of_mem _ z))
    exact ⟨q.1, by rw [upd_ne (far p hp)]; exact q.2.1, q.2.2⟩
  · by_cases hb : b = a
    · subst hb
      rw [upd_same] at e
      cases e
      exact errO_ok at_ hz hv
    · rw [upd_ne hb] at e
      exact (J.hok b u e).stay (fun _ _ _ q => q) (fun c q => by rw [upd_ne (nT q)]; exact q) fun c xs q => by rw [upd_ne (nT q)]; exact q

/-- what «except x as n», whose error is kept behind it, wishes of an error of the body -/
def wKeep (K : PySem.W.Frag) (c : Value) (i : Nat) (ts : Addr → L2.TS) (Wout : WX) (D : Ends) : WX := fun cls d σ H =>
  ∃ b, PySem.W.exmOne K cls c = some b ∧
    (b = true → ∃ C, cls = .ref C ∧ d = none ∧ ∀ a, H a = none → ts a { nx := fun σ' H' => D.nx (σ'.set i none) (upd H' a (errO C a)), rt := fun _ _ => False, bk := fun _ _ => False, ct := fun _ _ => False } (σ.set i (some (.ref a))) H) ∧
    (b = false → Wout cls d σ H)
section
variable {X : Cx} {x n : Str} {c : Value} {i : Nat} {body suite : List Stmt} {b₀ : Stmt} {np pos pos' : Pos} {tb : WX → L2.TS} {ts : Addr → L2.TS} {Wout : WX}
theorem ps_keep (hs : X.stack = X.env :: X.outer) (hf : X.env.frame = some X.env.locals) (hN : X.N.Nodup) (hi : X.N[i]? = some n) (hln : X.env.kindOf n = some .local) (hc : Names X x c) (tk : Takes X Wout) (hex : X.ex = [])
    (hb : ∀ (W : WX) (pn : List (Addr × Obj)) (xe : Value → Shared → Prop), Takes (X.tr pn xe) W → PassesOwn (model X.prog X.w) X.A X.env xe → PSs (X.tr pn xe) body (tb W))
    (hsu : ∀ (a : Addr) (oe : Obj) (pn : List (Addr × Obj)), PSs (X.suite a ((a, oe) :: pn)) (b₀ :: suite) (ts a)) :
    PS X (.Try body [.ExceptHandler (some (.Name x np)) (some n) (b₀ :: suite) pos'] [] [] pos) (fun D σ H => tb (wKeep X.K c i ts Wout D) D σ H) := by
  refine ⟨fun pins s σ H D I h => wpAny_Try_except (wpAny_mono ((hb (wKeep X.K c i ts Wout D) (X.pn ++ pins) (fun e u => wpAny (model X.prog X.w) X.A (noteFrame e X.env) (fun _ u2 => wpAny (model X.prog X.w) X.A (setFlight e none)
    (fun _ u3 => wpAny (model X.prog X.w) X.A (handleBy e X.env [.ExceptHandler (some (.Name x np)) (some n) (b₀ :: suite) pos']) (SP X pins D) X.xe u3) X.xe u2) X.xe u) (fun e u xx => ?_) PassesOwn.looking).run [] s σ H D (I.toTry _) h) (fun f u sp => ?_) (fun _ _ z => z))⟩
  · obtain ⟨a, B, sI, pins', σ1, H1, cls, d, rfl, J', nb, up, sky, na, os, ag, b, hb1, yes, no⟩ := xx
    have J : Inv X pins σ1 H1 sI := J'.ofTry I.ok
    have hfr : X.A.frames = some (X.env :: X.outer) := by rw [I.ok.frames, hs]
    rw [show (X.tr (X.pn ++ pins) _).stack = X.env :: X.outer from hs] at sky
    show wpAny (model X.prog X.w) X.A (noteFrame (.ref a) X.env) _ _ _
    refine Sky.land Zc.steady hfr hf sky fun h3 fl3 up3 => ?_
    have J3 : Inv X pins σ1 H1 { u with heap := h3 } := J.landed nb fl3.1 (up.trans up3) os ag
    have ⟨oe3, vs3, he3, hz3, hd3⟩ := fl3.there
    have nfr : a ∉ frs (X.env :: X.outer) := fun hm => by
      obtain ⟨_, o, e, hnf⟩ := fl3.2.2.1.mem hm
      rw [he3] at e
      cases e
      exact hnf _ hd3
    have nst : a ∉ frs X.stack := by rw [hs]; exact nfr
    have nL : a ≠ X.env.locals := fun z => nfr (List.mem_filterMap.mpr ⟨_, List.mem_cons_self, by rw [hf, z]⟩)
    have nF : a ∉ X.fs := fun hm => by
      obtain ⟨e, he, q⟩ := List.mem_filterMap.mp hm
      exact nfr (List.mem_filterMap.mpr ⟨e, List.mem_cons_of_mem _ he, q⟩)
    have nB : B.get? a = none := fl3.2.1
    have new : X.s_0.heap.get? a = none := by
      cases e : X.s_0.heap.get? a with
      | none => rfl
      | some o =>
        obtain ⟨o', e'⟩ := J.base.there a o e (by rw [hex]; exact fun z => nomatch z)
        rw [nb a o' e' nst] at nB
        cases nB
    have far : ∀ p ∈ X.pn ++ pins, p.1 ≠ a := fun p hp z => by
      obtain ⟨e, _, q, q', _⟩ := J.pin p hp
      have w := nb p.1 p.2 e (by
        rw [z]; exact nst)
      rw [z, nB] at w
      cases w
    have S3 := J3.suite he3 hd3 na nL nF
    refine wpAny_handleBy_cons (codeAny_handlers_test ?_) (by intro q; cases q)
    have LM := PySem.W.exm_one (M := model X.prog X.w) J3.kIn (fun A Q E s k q => wpAny_typeOf_ref (k _ _ he3) (by rw [hz3.1]; exact q)) hb1
    have test : ∀ {Q : Value → Shared → Prop} {E : Value → Shared → Prop}, Q c { u with heap := h3 } → wpAny (model X.prog X.w) (X.A.mark (some (.ref a))) (eval (.Name x np) X.env) Q E { u with heap := h3 } := fun q =>
      match hc with
      | ⟨hg, hdb, .inl hm⟩ => ld_glob (X := X.suite a ((a, oe3) :: (X.pn ++ pins))) S3 hg hm q hdb
      | ⟨hg, hdb, .inr ⟨hm, hv, hn⟩⟩ => ld_blt (X := X.suite a ((a, oe3) :: (X.pn ++ pins))) S3 hg hm hv q hn hdb
    refine test (LM.here ?_)
    match b, yes, no with
    | true, yes, _ =>
      obtain ⟨C, rfl, rfl, go⟩ := yes rfl
      refine codeAny_handlers_suite_as (HandSPX.lands_againZ fl3 fun h4 fl4 up4 => ?_)
      have J4 : Inv X pins σ1 H1 { u with heap := h4 } := J.landed nb fl4.1 ((up.trans up3).trans up4) os ag
      have ⟨oe4, vs4, he4, hz4, hd4⟩ := fl4.there
      refine store_ok (X := X.suite a ((a, oe4) :: (X.pn ++ pins))) (v := .ref a) (J4.suite he4 hd4 na nL nF) hN hi (.inl hln) rfl (fun s5 S5 => ?_) (.inr hln)
      refine wpAny_mono ((hsu a oe4 (X.pn ++ pins)).run [] s5 _ H1 _ S5 (go a na)) (fun f s6 sp => ?_) (fun _ _ z => z.elim)
      match f, sp with
      | .next, ⟨σ6, H6, S6, q6⟩ =>
        have J6 : Inv X ((a, oe4) :: pins) σ6 H6 s6 := ⟨I.ok, S6.os, S6.bare, S6.base, S6.loc, S6.cell, S6.free, S6.freeC, fun p hp => S6.pin p (by
          rw [List.append_nil]
          rcases List.mem_append.mp hp with z | z
          · exact List.mem_cons_of_mem _ (List.mem_append_left _ z)
          · rcases List.mem_cons.mp z with e | z
            · exact e ▸ List.mem_cons_self
            · exact List.mem_cons_of_mem _ (List.mem_append_right _ z)), S6.hok, S6.len⟩
        exact gone_ok J6 hN hi hln fun s7 J7 => ⟨_, _, track J7 hz4 hd4 new far, q6⟩
      | .brk, ⟨_, _, _, q6⟩ => exact q6.elim
      | .cont, ⟨_, _, _, q6⟩ => exact q6.elim
      | .ret _, ⟨_, _, _, _, _, q6⟩ => exact q6.elim
    | false, _, no =>
      show wpAny _ X.A (handleBy (.ref a) X.env []) _ _ _
      refine wpAny_handleBy_nil ?_
      have ⟨_, _, _, oe, vs, T, oT, _, he, hz, hd, h1, _⟩ := fl3
      unfold PySem.passOn
      refine wpAny_bind (wpAny_field he hd h1 ?_)
      rw [if_neg (by simp : ¬ ((Value.ref T == Value.none) = true))]
      have fin : wpAny (model X.prog X.w) X.A (setFlight (.ref a) X.env.frame) (fun _ s4 => wpAny (model X.prog X.w) X.A (throw (.ref a) : Sem Flow) (SP X pins D) X.xe s4) X.xe { u with heap := h3 } := by
        rw [hf]
        exact HandSPX.setFlight_upZ fl3 fun h4 hh4 up4 => wpAny_throw (tk _ _ ⟨a, B, sI, pins, σ1, H1, cls, d, rfl, J, nb, (up.trans up3).trans up4, .inr (.inr (by rw [hs]; exact hh4)), na, os, ag, no rfl⟩)
      first
        | exact wpAny_bind (wpAny_pure (wpAny_bind fin))
        | exact wpAny_bind fin
  · match f, sp with
    | .next, ⟨σ', H', J', q⟩ => exact wpAny_execs_nil ⟨σ', H', J'.ofTry I.ok, q⟩
    | .brk, ⟨σ', H', J', q⟩ => exact ⟨σ', H', J'.ofTry I.ok, q⟩
    | .cont, ⟨σ', H', J', q⟩ => exact ⟨σ', H', J'.ofTry I.ok, q⟩
    | .ret u, ⟨v, σ', H', J', r, q⟩ => exact ⟨v, σ', H', J'.ofTry I.ok, r, q⟩
end
/-- isinstance(e, c), e an error that is kept -/
def rIsX (K : PySem.W.Frag) : List V → Hp → VK → Prop := fun xs H Q => ∃ (a D : Addr) (c : V) (cv : Value) (b : Bool), xs = [.ref a, c] ∧ H a = some (errO D a) ∧ ExcC K D ∧ (∀ u, RelV c u → u = cv) ∧ PySem.W.kitOne K (.ref D) cv = some b ∧ Q (.bl b) H
theorem cr_isX {X : Cx} : CallR X (.builtin "isinstance") (rIsX X.K) := by
  intro pins s σ H xs us Q I r h
  obtain ⟨a, D, c, cv, b, rfl, ha, C, hcv, e, q⟩ := h
  match us, r with
  | [_, _], .cons rx (.cons rt .nil) =>
    cases rx
    have ec := hcv _ rt
    subst ec
    obtain ⟨⟨oe, vs, ho, hz, hd⟩, _, _⟩ := I.hok a _ ha
    have J : PySem.W.InstAt s.heap a oe D none := by
      obtain ⟨oc, od, oda, osl⟩ := oe
      obtain ⟨h1, h2⟩ := hz
      dsimp only at h1 h2 hd
      subst h1 h2 hd
      exact ⟨ho, rfl, rfl, trivial⟩
    exact PySem.W.kia_one (PySem.W.handS_kitx_exc C.hg C.hk C.hs C.hd C.ha C.hn C.ht C.hm) I.kIn J e (fun z => nomatch z) fun tk => ⟨.bl b, H, I.kept (t' := tk) fun _ _ z => z, rfl, q⟩
/-- isinstance(e, (c, ..)) -/
def rIsXT (K : PySem.W.Frag) : List V → Hp → VK → Prop := fun xs H Q => ∃ (a D t : Addr) (cs : List V) (cvs : List Value) (b : Bool), xs = [.ref a, .ref t] ∧ H a = some (errO D a) ∧ ExcC K D ∧ SqT K H t cs ∧ (∀ us, Vals cs us → us = cvs) ∧ PySem.W.kitAny K (.ref D) cvs = some b ∧ Q (.bl b) H
theorem cr_isXT {X : Cx} : CallR X (.builtin "isinstance") (rIsXT X.K) := by
  intro pins s σ H xs us Q I r h
  obtain ⟨a, D, t, cs, cvs, b, rfl, ha, C, ht, hcv, e, q⟩ := h
  match us, r with
  | [_, _], .cons rx (.cons rt .nil) =>
    cases rx; cases rt
    obtain ⟨⟨oe, vs, ho, hz, hd⟩, _, _⟩ := I.hok a _ ha
    have J : PySem.W.InstAt s.heap a oe D none := by
      obtain ⟨oc, od, oda, osl⟩ := oe
      obtain ⟨h1, h2⟩ := hz
      dsimp only at h1 h2 hd
      subst h1 h2 hd
      exact ⟨ho, rfl, rfl, trivial⟩
    obtain ⟨its, rv, ⟨⟨pc, pd, po, ps⟩, ho2, hc2, n2, hd2⟩, _⟩ := I.tuple ht
    dsimp only at hc2 hd2
    subst hc2 hd2
    have ec := hcv _ rv
    subst ec
    exact PySem.W.kia_tup (PySem.W.handS_kitx_exc C.hg C.hk C.hs C.hd C.ha C.hn C.ht C.hm) I.kIn J ho2 e (fun z => nomatch z) fun tk => ⟨.bl b, H, I.kept (t' := tk) fun _ _ z => z, rfl, q⟩
theorem k_isX {X : Cx} {K : PySem.W.Frag} (h : X.K = K := by rfl) : CallR X (.builtin "isinstance") (rIsX K) := by subst h; exact cr_isX
theorem k_isXT {X : Cx} {K : PySem.W.Frag} (h : X.K = K := by rfl) : CallR X (.builtin "isinstance") (rIsXT K) := by subst h; exact cr_isXT
/-- a class of errors of one's own -/
structure Err (K : PySem.W.Frag) (D : Addr) : Prop where
  q : PySem.W.excIn K D [.type "ValueError", .type "Exception", .type "BaseException", .type "object"] "ValueError.__new__" = true
  k : PySem.W.keepIn K (.ref D) = true
  t : PySem.W.typeIn K (.ref D) = some (.type "type")
  c : ExcC K D
/-- what isinstance says of D's errors: the own class y, the written class y -/
def IsK (K : PySem.W.Frag) (mg : Str → Option Value) (y : Str) (b : Bool) (D : Addr) : Prop := ∀ C, mg y = some (.ref C) → PySem.W.kitOne K (.ref D) (.ref C) = some b
def IsB (K : PySem.W.Frag) (y : String) (b : Bool) (D : Addr) : Prop := PySem.W.kitOne K (.ref D) (.type y) = some b
/-- what «except y» says of them -/
def HdK (K : PySem.W.Frag) (mg : Str → Option Value) (y : Str) (b : Bool) (D : Addr) : Prop := ∀ C, mg y = some (.ref C) → PySem.W.exmOne K (.ref D) (.ref C) = some b

/-- a def that may raise, by its name -/
structure CalX (P : Program) (w : World) (K : PySem.W.Frag) (mg : Str → Option Value) (base : Heap) (k : Nat) (x : Str) (sp : Sp) : Prop where
  ex : ∃ (f : Addr) (fd : FuncData) (ps : List Str), FnOk P w K mg base (L2.CX P w) k f fd ps sp ∧ mg x = some (.ref f) ∧ PySem.W.keepIn K (.ref f) = true ∧ Binds K fd ps []
section
variable {P : Program} {w : World} {K : PySem.W.Frag} {mg : Str → Option Value} {base : Heap}
theorem FnOk_lift {k : Nat} {f : Addr} {fd : FuncData} {ps : List Str} {sp : Sp} (F : FnOk P w K mg base CX0 k f fd ps sp) : FnOk P w K mg base (L2.CX P w) k f fd ps sp :=
  ⟨F.len, fun A outer s H args us vs Q E hr he hb hv hs => codeAny_mono (F.run A outer s H args us vs Q E hr he hb hv hs) fun r s' hq => match r, hq with
    | .ok (.ret _), hq => hq
    | .ok .next, hq => hq
    | .ok .brk, hq => hq
    | .ok .cont, hq => hq
    | .error _, hq => hq.elim⟩
/-- what a def keeps, or else raises -/
def spOr (sp spx : Sp) : Sp := fun vs H Q E => sp vs H Q E ∨ spx vs H Q E
theorem calX_of {x qual : Str} {st : Stmt} {f : Addr} {fd : FuncData} {ps : List Str} {k : Nat} {sp spx : Sp} (h : FnOk P w K mg base CX0 k f fd ps sp) (hx : FnOk P w K mg base (L2.CX P w) k f fd ps spx) (F : Fun K x qual st f fd) (b : Binds K fd ps []) (g : mg x = some (.ref f)) :
    CalX P w K mg base k x (spOr sp spx) :=
  ⟨⟨f, fd, ps, ⟨fun vs H Q E q => q.elim (h.len vs H Q E) (hx.len vs H Q E), fun A outer s H args us vs Q E hr he hb hv hs => hs.elim ((FnOk_lift h).run A outer s H args us vs Q E hr he hb hv) (hx.run A outer s H args us vs Q E hr he hb hv)⟩, g, F.kp, b⟩⟩
end
section
variable {X : Cx} {k j : Nat} {x : Str} {sp : Sp} {E : L2.St → XK} {p pos : Pos} {e : Expr} {es : List Expr} {t : TA}
theorem pe_cX (c : CalX X.prog X.w X.K X.mg X.base k x sp) (hr : Room j X.A) (hk : k ≤ j) (hg : Gl X x) (hx : ∀ σ, PassesAt (L2.CX X.prog X.w) X σ (E σ)) (ha : PA X (e :: es) t)
    (hdb : (x == ("__debug__" : Str)) = false := by decide) (he : starEach (e :: es) X.env = (false, eval e X.env) :: starEach es X.env := by rfl) (hpl : (backTo pos (starEach es X.env)).any (·.1) = false := by rfl) :
    PE X (.Call (.Name x p) (e :: es) [] pos) (tCallS sp E t) := by
  obtain ⟨f, fd, ps, F, hm, kp, b⟩ := c.ex
  exact pe_callS F (hr.mono hk) hg hm kp b hx ha hdb he hpl
end
/-! ### the laws' look at a caught error -/
section
variable {K : PySem.W.Frag} {mg : Str → Option Value} {H : Hp} {Q : VK} {a D C : Addr} {b : Bool} {y : Str}
theorem g_isX (h : H a = some (errO D a)) (c : ExcC K D) (k : PySem.W.kitOne K (.ref D) (.ref C) = some b) (q : Q (.bl b) H) : rIsX K [.ref a, .ref C] H Q := ⟨a, D, .ref C, .ref C, b, rfl, h, c, fun _ r => r, k, q⟩
theorem g_isXB {y : String} (h : H a = some (errO D a)) (c : ExcC K D) (k : IsB K y b D) (q : Q (.bl b) H) : rIsX K [.ref a, .ty y] H Q := ⟨a, D, .ty y, .type y, b, rfl, h, c, fun _ r => r, k, q⟩
theorem g_isXT {t : Addr} {cs : List V} {cvs : List Value} (h : H a = some (errO D a)) (c : ExcC K D) (ht : SqT K H t cs) (hc : ∀ us, Vals cs us → us = cvs) (k : PySem.W.kitAny K (.ref D) cvs = some b) (q : Q (.bl b) H) : rIsXT K [.ref a, .ref t] H Q := ⟨a, D, t, cs, cvs, b, rfl, h, c, ht, hc, k, q⟩
theorem valsR : ∀ {as : List Addr} {us : List Value}, Vals (as.map V.ref) us → us = as.map Value.ref
  | [], _, .nil => rfl
  | _ :: as, _, .cons r t => by
    cases r
    rw [valsR t]; rfl
/-- an error that the laws take for the one due: of the i-th of the four classes asked for, of no other -/
structure Due (K : PySem.W.Frag) (mg : Str → Option Value) (i : Int) (D : Addr) : Prop where
  c : ExcC K D
  v : IsB K "ValueError" true D
  n0 : IsK K mg "NoNumber" (decide (i = 0)) D
  n1 : IsK K mg "NoTable" (decide (i = 1)) D
  n2 : IsK K mg "NoPoint" (decide (i = 2)) D
  n3 : IsK K mg "NoCut" (decide (i = 3)) D
  m0 : IsK K mg "NoOrder" false D
  m1 : IsK K mg "TooMany" false D
  m2 : IsK K mg "NoWeb" false D
  m3 : IsK K mg "NoText" false D
  m4 : IsK K mg "NoName" false D
  m5 : IsK K mg "NoRow" false D
def isErr (a D : Addr) : It := .ps fun H => H a = some (errO D a)
theorem _root_.Fc.Rp.errM {L : List It} (R : Rp K H L) (m : isErr a D ∈ L) : H a = some (errO D a) := R.psOf m
def sp_lis (K : PySem.W.Frag) (mg : Str → Option Value) : Sp := fun vs H Q _ => ∃ (L : List It) (a : Addr) (i : Int) (D : Addr), vs = [.ref a, .int i] ∧ Rp K H L ∧ isErr a D ∈ L ∧ Due K mg i D ∧ ∀ H', Rp K H' L → Q (.bl true) H'
end
def sp_fraction_x (mg : Str → Option Value) : Sp := fun vs H _ E => ∃ t : Int, vs = [.int t, .int 0] ∧ ∀ D, mg "NoNumber" = some (.ref D) → E (.ref D) none H
section
variable {K : PySem.W.Frag} {mg : Str → Option Value} {H : Hp} {Q : VK} {a C : Addr} {L : List It} {σ : L2.St}
theorem _root_.Fc.Rp.err {D : Addr} (R : Rp K H L) (n : H a = none) : Rp K (upd H a (errO D a)) (isErr a D :: L) := by
  obtain ⟨ps, u, r⟩ := R
  have r' := r.same (same_new (o := errO D a) n)
  refine ⟨_, .cons (p := [_]) rfl u, r'.addps (fun _ _ s e => s _ _ e) ?_⟩
  show wo _ _ a = _
  rw [wo_out (fun z => ?_), upd_same]
  obtain ⟨xs, e⟩ := r'.lists z
  rw [upd_same] at e
  cases e
theorem g_keep {c : Value} {i : Nat} {ts : Addr → L2.TS} {W : WX} {D : Ends} (h : PySem.W.exmOne K (.ref C) c = some true)
    (q : ∀ a, H a = none → ts a { nx := fun σ' H' => D.nx (σ'.set i none) (upd H' a (errO C a)), rt := fun _ _ => False, bk := fun _ _ => False, ct := fun _ _ => False } (σ.set i (some (.ref a))) H) : wKeep K c i ts W D (.ref C) none σ H :=
  ⟨true, h, fun _ => ⟨C, rfl, rfl, q⟩, fun z => nomatch z⟩
instance {sp : Sp} {E : L2.St → XK} {t : TA} : St1 (tCallS sp E t σ H Q) (t σ H fun vs H1 => sp vs H1 Q (E σ)) := ⟨id⟩
end
section
variable {K : PySem.W.Frag} {H : Hp} {L M1 M2 M3 M4 : List It} {x y z u : V} {d e f g : PyData} {s : Own}
theorem g_l4R {G : Addr → Prop} (R : Rp K H L) (h1 : Sel (.ow s x d) L M1) (h2 : Sel (.ow s y e) M1 M2) (h3 : Sel (.ow s z f) M2 M3) (h4 : Sel (.ow s u g) M3 M4) (k : ∀ c, H c = none → Rp K (upd H c (.lst [x, y, z, u])) (.ow (.li s) (.ref c) (.list [d, e, f, g]) :: M4) → G c) : [x, y, z, u].length ≤ sizeLine ∧ ∀ p, H p = none → G p :=
  ⟨by show 4 ≤ sizeLine; decide, fun p np => k p np (Rp.mkL (xs := [x, y, z, u]) (ds := [d, e, f, g]) ((R.sel h1).perm ((h2.perm.trans ((h3.perm.trans (h4.perm.cons _)).cons _)).cons _)) rfl np)⟩
/-- a list of ints taken apart -/
theorem g_unl {n : Nat} {t : TGs} {σ : L2.St} {Q : L2.St → Hp → Prop} {ns : List Int} {a : Addr} (xs : List V) (R : Rp K H L) (h : It.ow s (.ref a) (IL ns) ∈ L) (e : ns.map V.int = xs) (l : xs.length = n) (q : t xs σ H Q) : gUnl K n t (.ref a) σ H Q := ⟨a, xs, rfl, e ▸ R.ilS h, l, q⟩
end
/-! ### lists of ints: turned about, sets of them, cuts -/
section
variable {X : Cx} {K : PySem.W.Frag} {H : Hp} {Q : VK} {L : List Fc.It} {σ : L2.St} {ta te : TE}
theorem k_revL {e : Expr} {k : Nat} {p1 p2 p3 pos : Pos} (he : PE X e te) (h : X.K = K := by rfl) : PE X (.Subscript e (.Slice none none (some (.UnaryOp .USub (.Constant (.int 1) k p1) p2)) p3) pos) (tRevL K te) := by subst h; exact pe_revL he
/-- what asks a list -/
def kRev (K : PySem.W.Frag) (Q : VK) : VK := fun x H1 => ∃ a xs, x = .ref a ∧ SqL K H1 a xs ∧ ∀ p, H1 p = none → Q (.ref p) (upd H1 p (.lst xs.reverse))
def kLenSet (K : PySem.W.Frag) (Q : VK) : VK := fun x H1 => ∃ (l : Addr) (ns : List Int), x = V.ref l ∧ SqL K H1 l (ns.map V.int) ∧ ns.length < 2000 ∧ Q (.int ((nub ns).length : Nat)) H1
def kSortSet (K : PySem.W.Frag) (Q : VK) : VK := fun x H1 => ∃ (l : Addr) (ns : List Int), x = V.ref l ∧ SqL K H1 l (ns.map V.int) ∧ ns.length < 64 ∧ ∀ p : Addr, H1 p = none → Q (.ref p) (upd H1 p (.lst ((sortN ns).map V.int)))
instance {r r' : R2} {tb tc : TE} : St1 (tChain r r' ta tb tc σ H Q) (ta σ H fun x H1 => tb σ H1 fun y H2 => r x y H2 fun z H3 => ∃ k, z = .bl k ∧ if k = true then tc σ H3 fun w H4 => r' y w H4 Q else Q (.bl false) H3) := ⟨id⟩
instance : St1 (tRevL K te σ H Q) (te σ H (kRev K Q)) := ⟨id⟩
instance : St1 (tLenSet K te σ H Q) (te σ H (kLenSet K Q)) := ⟨id⟩
instance : St1 (tSortSet K te σ H Q) (te σ H (kSortSet K Q)) := ⟨id⟩
theorem g_revI {s : Own} {a : Addr} {ns : List Int} (R : Rp K H L) (m : Fc.It.ow s (.ref a) (IL ns) ∈ L) (q : ∀ c H', Rp K H' (.ow (.li .lf) (.ref c) (IL ns.reverse) :: L) → Q (.ref c) H') : kRev K Q (.ref a) H :=
  ⟨a, _, rfl, R.ilS m, fun p np => q p _ (by rw [← List.map_reverse]; exact R.mkI np)⟩
theorem g_lenSet {s : Own} {a : Addr} {ns : List Int} (R : Rp K H L) (m : Fc.It.ow s (.ref a) (IL ns) ∈ L) (z : ns.length < 2000) (q : Q (.int ((nub ns).length : Nat)) H) : kLenSet K Q (.ref a) H := ⟨a, ns, rfl, R.ilS m, z, q⟩
theorem g_sortSet {s : Own} {a : Addr} {ns : List Int} (R : Rp K H L) (m : Fc.It.ow s (.ref a) (IL ns) ∈ L) (z : ns.length < 64) (q : ∀ c H', Rp K H' (.ow (.li .lf) (.ref c) (IL (sortN ns)) :: L) → Q (.ref c) H') : kSortSet K Q (.ref a) H :=
  ⟨a, ns, rfl, R.ilS m, z, fun p np => q p _ (R.mkI np)⟩
end
section
variable {K : PySem.W.Frag} {H : Hp} {Q : VK} {L : List Fc.It} {s s1 : Own} {x y : V} {a b : List Int}
theorem eqv_il : PyData.eqv (IL a) (IL b) = decide (a = b) := eqvAll_ints a b
theorem g_neII (R : Rp K H L) (h1 : Fc.It.ow s x (IL a) ∈ L) (h2 : Fc.It.ow s1 y (IL b) ∈ L) (q : Q (.bl (!decide (a = b))) H) : rNeD K x y H Q := g_neR R h1 h2 (Sh.il.ok (by decide)) (Sh.il.ok (by decide)) (by rw [eqv_il]; exact q)
theorem g_eqII (R : Rp K H L) (h1 : Fc.It.ow s x (IL a) ∈ L) (h2 : Fc.It.ow s1 y (IL b) ∈ L) (q : Q (.bl (decide (a = b))) H) : rEqD K x y H Q := g_eqR R h1 h2 (Sh.il.ok (by decide)) (Sh.il.ok (by decide)) (by rw [eqv_il]; exact q)
/-- the same -/
theorem g_neIs (R : Rp K H L) (h1 : Fc.It.ow s x (IL a) ∈ L) (h2 : Fc.It.ow s1 y (IL a) ∈ L) (q : Q (.bl false) H) : rNeD K x y H Q := g_neII R h1 h2 (by rw [decide_eq_true rfl]; exact q)
end
theorem Rp.ref {K : PySem.W.Frag} {H : Hp} {L : List Fc.It} {s : Own} {x : V} {ds : List PyData} (R : Rp K H L) (h : Fc.It.ow s x (.list ds) ∈ L) : ∃ a, x = .ref a := by
  have := R.dpOf h
  cases this
  exact ⟨_, rfl⟩
/-- a number is a point of n -/
def isPt (n x : Int) : Bool := decide (0 ≤ x) && decide (x < n)
/-- the points 0 .. n - 1 that (do not) stand in a list -/
def ptsIn (n : Nat) (ps : List Int) : List Int := (rg 0 n).filter fun x => decide (x ∈ ps)
def ptsOut (n : Nat) (ps : List Int) : List Int := (rg 0 n).filter fun x => !decide (x ∈ ps)
/-- the cut that some points make -/
def cutOf (n : Nat) (ps : List Int) : Option (List Int) :=
  if ps.filter (fun x => !isPt n x) = [] then
    (if (if 0 ∈ sortN ps then ptsOut n (sortN ps) else sortN ps) = [] ∨ (if 0 ∈ sortN ps then ptsOut n (sortN ps) else sortN ps).length = n then none else some (if 0 ∈ sortN ps then ptsOut n (sortN ps) else sortN ps))
  else none
def sp_cutof (K : PySem.W.Frag) : Sp := fun vs H Q _ => ∃ (L : List Fc.It) (s : Own) (x : V) (n : Nat) (ps c : List Int), vs = [.int n, x] ∧ Rp K H L ∧ Fc.It.ow s x (IL ps) ∈ L ∧ n ≤ 1000 ∧ ps.length < 64 ∧ cutOf n ps = some c ∧ ∀ r H', Rp K H' (.ow (.li .lf) (.ref r) (IL c) :: L) → Q (.ref r) H'
def sp_cutof_x (K : PySem.W.Frag) (mg : Str → Option Value) : Sp := fun vs H _ E => ∃ (L : List Fc.It) (s : Own) (x : V) (n : Nat) (ps : List Int), vs = [.int n, x] ∧ Rp K H L ∧ Fc.It.ow s x (IL ps) ∈ L ∧ n ≤ 1000 ∧ ps.length < 64 ∧ cutOf n ps = none ∧ ∀ D, mg "NoCut" = some (.ref D) → ∀ H', Rp K H' L → E (.ref D) none H'
theorem rg_mem {x : Int} {n : Nat} : x ∈ rg 0 n ↔ 0 ≤ x ∧ x < n := by
  unfold rg
  rw [List.mem_map]
  constructor
  · rintro ⟨i, hi, rfl⟩
    have := List.mem_range.mp hi
    omega
  · rintro ⟨h1, h2⟩
    exact ⟨x.toNat, List.mem_range.mpr (by omega), by omega⟩
theorem rg_rise (n : Nat) : (rg 0 n).Pairwise (· < ·) := by
  unfold rg
  rw [List.pairwise_map]
  exact List.pairwise_lt_range.imp fun h => by omega
theorem pts_len (n : Nat) (ps : List Int) : (ptsIn n ps).length + (ptsOut n ps).length = n := by
  unfold ptsIn ptsOut
  have h := List.length_eq_countP_add_countP (fun x : Int => decide (x ∈ ps)) (l := rg 0 n)
  rw [List.countP_eq_length_filter, List.countP_eq_length_filter] at h
  have l : (rg 0 n).length = n := by unfold rg; rw [List.length_map, List.length_range]
  rw [l] at h
  have e : (fun x : Int => !decide (x ∈ ps)) = fun a => decide ¬ (decide (a ∈ ps) = true) := by
    funext a; by_cases z : a ∈ ps <;> simp [z]
  rw [e]; omega
theorem cutOf_due (n : Nat) (ps : List Int) : cutOf n ps = if ptsIn n ps = [] ∨ ptsOut n ps = [] ∨ ¬ ps.filter (fun x : Int => decide (x < 0) || decide (x ≥ (n : Int))) = [] then none else some (if 0 ∈ ptsIn n ps then ptsOut n ps else ptsIn n ps) := by
  have ef : (fun x => !isPt n x) = fun x : Int => decide (x < 0) || decide (x ≥ (n : Int)) := by
    funext x
    unfold isPt
    by_cases h1 : 0 ≤ x <;> by_cases h2 : x < n <;> simp [h1, h2] <;> omega
  unfold cutOf
  rw [ef]
  by_cases hb : ps.filter (fun x : Int => decide (x < 0) || decide (x ≥ (n : Int))) = []
  · have all : ∀ x ∈ ps, 0 ≤ x ∧ x < n := fun x hx => by
      have := List.filter_eq_nil_iff.mp hb x hx
      simp at this; omega
    have e1 : sortN ps = ptsIn n ps := rise_eq (sortN_rise ps) ((rg_rise n).sublist List.filter_sublist) fun k => by
      unfold ptsIn
      rw [sortN_mem, List.mem_filter, rg_mem, decide_eq_true_eq]
      exact ⟨fun h => ⟨all k h, h⟩, fun h => h.2⟩
    have e2 : ptsOut n (sortN ps) = ptsOut n ps := by
      unfold ptsOut
      congr 1; funext x
      by_cases h : x ∈ ps
      · rw [decide_eq_true h, decide_eq_true (sortN_mem.mpr h)]
      · rw [decide_eq_false h, decide_eq_false (fun z => h (sortN_mem.mp z))]
    rw [if_pos hb, e2, e1]
    have hl := pts_len n ps
    by_cases h0 : (0 : Int) ∈ ptsIn n ps
    · simp only [if_pos h0]
      have hne : ptsIn n ps ≠ [] := fun z => by rw [z] at h0; cases h0
      have hpos := List.length_pos_iff.mpr hne
      by_cases ho : ptsOut n ps = []
      · rw [if_pos (.inl ho), if_pos (.inr (.inl ho))]
      · rw [if_neg (fun z => z.elim ho fun z => by omega), if_neg (fun z => z.elim hne fun z => z.elim ho fun z => z hb)]
    · simp only [if_neg h0]
      by_cases hi : ptsIn n ps = []
      · rw [if_pos (.inl hi), if_pos (.inl hi)]
      · by_cases ho : ptsOut n ps = []
        · rw [if_pos (.inr (by rw [ho, List.length_nil] at hl; omega)), if_pos (.inr (.inl ho))]
        · have hpos := List.length_pos_iff.mpr ho
          rw [if_neg (fun z => z.elim hi fun z => by omega), if_neg (fun z => z.elim hi fun z => z.elim ho fun z => z hb)]
  · rw [if_neg hb, if_pos (.inr (.inr hb))]
section
variable {K : PySem.W.Frag} {H : Hp} {Q : VK} {L L1 : List Fc.It} {a : Addr} {ns : List Int} {i : Int}
theorem seqIx {i : Int} {n k : Nat} (hi : i = (k : Nat)) (h : k < n) : seqIndex? i n = some k := by
  unfold seqIndex?
  subst hi
  have e : (if (k : Int) < 0 then (k : Int) + (n : Int) else (k : Int)) = (k : Int) := if_neg (by omega)
  simp only [e]
  rw [if_pos (by simp; omega), Int.toNat_natCast]
/-- an own list's int is taken out -/
theorem g_popI {k : Nat} (R : Rp K H L) (h : Sel (.ow (.li .lf) (.ref a) (IL ns)) L L1) (hi : i = (k : Nat)) (hk : k < ns.length) (b : i < 2 ^ 63) (q : ∀ H', Rp K H' (.ow (.li .lf) (.ref a) (IL (ns.eraseIdx k)) :: L1) → Q (.int ns[k]) H') : rPopAt (.ref a) [.int i] H Q := by
  obtain ⟨a', e, R1⟩ := (R.sel h).ilTop
  cases e
  refine ⟨a, _, i, k, _, rfl, rfl, R1.topAt, by omega, b, seqIx hi (by rw [List.length_map]; exact hk), by rw [List.getElem?_map, List.getElem?_eq_getElem hk]; rfl, q _ ?_⟩
  rw [L2.erase_mapI]
  exact R1.mut.il
theorem cutV_to {xs : List V} {k : Nat} (h : k ≤ xs.length) : cutV xs none (some (k : Int)) = xs.take k := by
  unfold cutV
  rw [HT.sIx_none, HT.sIx_nat, List.drop_zero, Nat.sub_zero, Nat.min_eq_left h]
theorem cutV_from {xs : List V} {k : Nat} (h : k ≤ xs.length) : cutV xs (some (k : Int)) none = xs.drop k := by
  unfold cutV
  rw [HT.sIx_none, HT.sIx_nat, Nat.min_eq_left h, List.take_of_length_le (by rw [List.length_drop]; omega)]
theorem g_slTo {k : Nat} {s : Own} (R : Rp K H L) (m : Fc.It.ow s (.ref a) (IL ns) ∈ L) (hi : i = (k : Nat)) (hk : k ≤ ns.length) (q : ∀ c H', Rp K H' (.ow (.li .lf) (.ref c) (IL (ns.take k)) :: L) → Q (.ref c) H') : rSlL K (.ref a) none (some i) H Q :=
  ⟨a, _, rfl, R.ilS m, fun p np => q p _ (by subst hi; rw [cutV_to (by rw [List.length_map]; exact hk), ← List.map_take]; exact R.mkI np)⟩
theorem g_slFrom {k : Nat} {s : Own} (R : Rp K H L) (m : Fc.It.ow s (.ref a) (IL ns) ∈ L) (hi : i = (k : Nat)) (hk : k ≤ ns.length) (q : ∀ c H', Rp K H' (.ow (.li .lf) (.ref c) (IL (ns.drop k)) :: L) → Q (.ref c) H') : rSlL K (.ref a) (some i) none H Q :=
  ⟨a, _, rfl, R.ilS m, fun p np => q p _ (by subst hi; rw [cutV_from (by rw [List.length_map]; exact hk), ← List.map_drop]; exact R.mkI np)⟩
end
/-! ### drawn tables -/
/-- distances: alike both ways, nought from a point to itself, none below nought, small enough -/
structure Tab (g : Nat → Nat → Rat) : Prop where
  sy : ∀ i j, g i j = g j i
  di : ∀ i, g i i = 0
  po : ∀ i j, 0 ≤ g i j
  bd : ∀ i j, Bd 134 (g i j)
section
variable {K : PySem.W.Frag} {H : Hp} {Q : VK} {L : List Fc.It}
/-- the display (i, 1) -/
theorem g_frI {G : Addr → Prop} {i : Int} (R : Rp K H L) (k : ∀ p, H p = none → Rp K (upd H p (.tup [.int i, .int 1])) (.sh (.ref p) (FD ((i : Int) : Rat)) :: L) → G p) : [V.int i, V.int 1].length ≤ sizeLine ∧ ∀ p, H p = none → G p :=
  ⟨two_le, fun p np => k p np (R.frN (x := ((i : Int) : Rat)) np)⟩
end
theorem g_listS {K : PySem.W.Frag} {H : Hp} {Q : VK} {L : List Fc.It} {a : Addr} {ds : List PyData} (R : Rp K H L) (m : Fc.It.sh (.ref a) (.list ds) ∈ L) (q : ∀ c H', Rp K H' (.ow (.li .lf) (.ref c) (.list ds) :: L) → Q (.ref c) H') : rListOf K [.ref a] H Q := by
  obtain ⟨b, ys, e, l, eb, R2⟩ := R.shAll m
  cases e
  exact ⟨a, ys, rfl, .inl (SqL.of eb), fun p np => q p _ (Rp.mkL R2 l np)⟩
theorem map_getD {α β : Type} (f : α → β) (d : α) (l : List α) : l.map f = (List.range l.length).map fun i => f (l.getD i d) := by
  apply List.ext_getElem
  · simp
  · intro i h1 h2
    rw [List.length_map] at h1
    simp [List.getD_eq_getElem?_getD, h1]
/-- a drawn distance -/
def sp_dist (K : PySem.W.Frag) (Pr : Rat → Prop) : Sp := fun vs H Q _ => ∃ (L L1 : List Fc.It) (p : Addr) (n : Nat), vs = [.ref p] ∧ Rp K H L ∧ Sel (.pr (PoolP n) p) L L1 ∧ n ≤ 2 ^ 50 ∧
  ∀ a x H', 0 ≤ x → Bd 134 x → Pr x → Rp K H' (.sh (.ref a) (FD x) :: .pr (PoolP (n + 30)) p :: L1) → Q (.ref a) H'
/-- a drawn table, its rows each its own -/
def sp_dtable (K : PySem.W.Frag) (Pr : Rat → Prop) (u : Nat) : Sp := fun vs H Q _ => ∃ (L L1 : List Fc.It) (p : Addr) (n m : Nat), vs = [.ref p, .int m] ∧ Rp K H L ∧ Sel (.pr (PoolP n) p) L L1 ∧ n + u ≤ 2 ^ 41 ∧ m ≤ 10 ∧
  ∀ a g H', Tab g → (∀ i j, Pr (g i j)) → Rp K H' (.ow oT (.ref a) (TD (tabG m g)) :: .pr (PoolP (n + u)) p :: L1) → Q (.ref a) H'
theorem divInt_nn {t b : Int} (ht : 0 ≤ t) (hb : 0 < b) : 0 ≤ Rat.divInt t b := by
  rcases Int.lt_or_eq_of_le ht with h | h
  · rw [Rat.divInt_eq_div, Rat.div_def]
    have h1 : (0 : Rat) < (t : Rat) := by exact_mod_cast h
    have h2 : (0 : Rat) < (b : Rat) := by exact_mod_cast hb
    exact Rat.le_of_lt (Rat.mul_pos h1 (Rat.inv_pos.mpr h2))
  · subst h
    rw [Rat.divInt_eq_div, Rat.div_def]
    simp
/-- the part for some points -/
def partT (g : Nat → Nat → Rat) (ps : List Int) : List (List Rat) := ps.map fun i => ps.map fun j => g i.toNat j.toNat
/-- points that make a part -/
def PtsOk (n : Nat) (ps : List Int) : Prop := ps ≠ [] ∧ ps.Nodup ∧ ∀ p ∈ ps, isPt n p = true
def sp_part (K : PySem.W.Frag) : Sp := fun vs H Q _ => ∃ (L : List Fc.It) (s : Own) (x y : V) (n : Nat) (g : Nat → Nat → Rat) (ps : List Int), vs = [x, y] ∧ Rp K H L ∧ Fc.It.sh x (TD (tabG n g)) ∈ L ∧ Fc.It.ow s y (IL ps) ∈ L ∧ n ≤ 1000 ∧ ps.length < 1000 ∧ PtsOk n ps ∧
  ∀ a H', Rp K H' (.ow oT (.ref a) (TD (partT g ps)) :: L) → Q (.ref a) H'
def sp_part_x (K : PySem.W.Frag) (mg : Str → Option Value) : Sp := fun vs H _ E => ∃ (L : List Fc.It) (s : Own) (x y : V) (n : Nat) (g : Nat → Nat → Rat) (ps : List Int), vs = [x, y] ∧ Rp K H L ∧ Fc.It.sh x (TD (tabG n g)) ∈ L ∧ Fc.It.ow s y (IL ps) ∈ L ∧ n ≤ 1000 ∧ ps.length < 1000 ∧ ¬ PtsOk n ps ∧
  ∀ D, mg "NoPoint" = some (.ref D) → ∀ H', Rp K H' L → E (.ref D) none H'
/-- a copy -/
def sp_copied (K : PySem.W.Frag) : Sp := fun vs H Q _ => ∃ (L : List Fc.It) (x : V) (t : List (List Rat)), vs = [x] ∧ Rp K H L ∧ Fc.It.sh x (TD t) ∈ L ∧ t.length ≤ 1000 ∧ (∀ r ∈ t, r.length ≤ 1000) ∧ ∀ a H', Rp K H' (.ow oT (.ref a) (TD t) :: L) → Q (.ref a) H'
/-- drawn points -/
def sp_points (K : PySem.W.Frag) : Sp := fun vs H Q _ => ∃ (L L1 : List Fc.It) (p : Addr) (n m : Nat), vs = [.ref p, .int m] ∧ Rp K H L ∧ Sel (.pr (PoolP n) p) L L1 ∧ n ≤ 2 ^ 50 ∧ 1 ≤ m ∧ m ≤ 1000 ∧
  ∀ a ps H', PtsOk m ps → ps.length ≤ m → Rp K H' (.ow (.li .lf) (.ref a) (IL ps) :: .pr (PoolP (n + 1100)) p :: L1) → Q (.ref a) H'
/-! ### str(X('m')) -/
open Builtin Builtin.Str in
section
variable {prog : Program} {w : World} {A : Around} {E : Value → Shared → Prop} {s : Shared} {K : PySem.W.Frag} {C e t0 : Addr}
theorem strOf_exc (hu : A.units < cLine) {m : Str} {tk : Tok} {Q : Value → Shared → Prop} (x : PySem.ExcC K C e t0 s.heap) (ht : s.heap.TupAt t0 [.str m tk]) (hs : PySem.W.findIn K (.ref C) "__str__" = some (some (.builtin "BaseException.__str__"))) (hB : PySem.W.subIn K (.ref C) (.type "BaseException") = some true)
    (hq : Q (.str m tk) s) : wpAny (model prog w) A (Builtin.Str.strOf (.ref e)) Q E s := by
  have hf : PySem.W.Looks (model prog w) s.heap (typeLookup (.ref C) "__str__") (some (.builtin "BaseException.__str__")) := PySem.W.looks_findIn x.1 hs
  unfold Builtin.Str.strOf
  repeat (first | with_reducible refine wpAny_cRoomFor hu ?_ | with_reducible refine callSpecial_C x.LT hf (PySem.F.excStr_Exception.str.bind _) (call_bexcStr_C x hB (bexcStr_C_one x ht ⟨_, rfl, ?_⟩)) | wp_step)
  exact hq
theorem str_of_exc {m : Str} {tk : Tok} {Q : Value → Shared → Prop} (hu : A.units + 64 < cLine) (x : PySem.ExcC K C e t0 s.heap) (ht : s.heap.TupAt t0 [.str m tk]) (hs : PySem.W.findIn K (.ref C) "__str__" = some (some (.builtin "BaseException.__str__"))) (hB : PySem.W.subIn K (.ref C) (.type "BaseException") = some true)
    (h : Q (.str m tk) s) : wpAny (model prog w) A (call (.type "str") [.ref e]) Q E s :=
  callType_new PySem.F.called_str (by decide) (PySem.F.typeCall_str_1 _) (PySem.F.newCall_str_1 _) (fun obj => PySem.F.args_object_init_2 obj _) PySem.F.entry_str_new
    (meets_str_new (S := fun A R s => A.in1.units < cLine ∧ PySem.ExcC K C e t0 s.heap ∧ s.heap.TupAt t0 [.str m tk] ∧ R (.ok (.ret (.str m tk))) s) fun _ _ _ _ _ ⟨hu, x, ht, hq⟩ => strOf_exc hu x ht hs hB hq) ⟨by show A.units + 1 + 1 < cLine; omega, x, ht, typeIs_str _ _ _, h⟩
end
/-- str(X('m')), X an error of one's own -/
theorem pe_strE {X : Cx} {C : Addr} {x m : Str} {j : Nat} {p p2 p3 pos pos2 : Pos} (hg : Gl X "str") (hm : X.mg "str" = none) (e : Err X.K C) (hs : PySem.W.findIn X.K (.ref C) "__str__" = some (some (.builtin "BaseException.__str__"))) (gC : X.mg x = some (.ref C)) (hgx : Gl X x) (hu : X.A.units + 64 < cLine)
    (hdb : (x == ("__debug__" : Str)) = false := by decide) : PE X (.Call (.Name "str" p) [.Call (.Name x p2) [.Constant (.str m) j p3] [] pos2] [] pos) (tC (.str m)) := by
  refine ⟨fun pins s σ H Q I h => Call_ (ld_blt I hg hm boot_str (PyProof.Rows.callWith_type1 (PyProof.Rows.args_cons ?_ (by rfl)) (by rfl) rfl))⟩
  refine wpAny_Call_Name_kw (ld_glob I hgx gC ?_ hdb)
  have he : PE X (.Constant (.str m) j p3) (tC (.str m)) := pe_str
  have st : starEach [Expr.Constant (.str m) j p3] X.env = (false, eval (.Constant (.str m) j p3) X.env) :: starEach [] X.env := rfl
  refine PySem.W.callWith_K (h₀ := X.base) I.ok.mod.kin e.k ?_ st (by rfl)
  rw [st]
  show wpAny _ _ (spliced ((false, eval (.Constant (.str m) j p3) X.env) :: backTo pos2 (starEach [] X.env))) _ _ s
  refine Calls.spliced_cons (thn (he.run pins s σ H (fun v H1 => v = .str m ∧ H = H1) I ⟨rfl, rfl⟩) fun u s1 ⟨v, H1, I1, r1, ev, eH⟩ => Calls.spliced_nil ⟨I1.kIn, ?_⟩)
  subst ev eH
  obtain ⟨tk, rfl⟩ := r1
  show wpAny _ _ (call (.ref C) [_]) _ _ _
  obtain ⟨bm, N, nm, qn, bs, hdct, sn, sub, ab, col, dd, k0, k1, k2, k3, k5, mN, hC, hN, hni, T⟩ := exc_obj I1.kIn e.q
  refine wpAny_call_exc_subT PySem.F.excBase_ValueError T hC hN hni (fun h' a hm2 => PyProof.Rows.args_nil ?_) (by show 1 ≤ sizeLine; rw [sizeLine_eq]; omega)
  have I2 := I1.kept (t' := s1.toks) hm2.keeps
  obtain ⟨t, ht, _, htt⟩ := hm2.there
  refine str_of_exc hu ⟨I2.kIn, _, _, ht, rfl, rfl, rfl⟩ ⟨_, _, htt, rfl, rfl⟩ hs e.c.hs ⟨.str m, H, I2, ⟨_, rfl⟩, h⟩
/-! ### tables hung together -/
theorem fd_map {α : Type} (f : α → Rat) (l : List α) : (l.map f).map FD = l.map fun p => FD (f p) := by rw [List.map_map]; rfl
theorem fd_app {α β : Type} (f : α → Rat) (l : List α) (f2 : β → Rat) (l2 : List β) : (l.map f).map FD ++ l2.map (fun p => FD (f2 p)) = (l.map f ++ l2.map f2).map FD := by rw [List.map_append, fd_map f2]
theorem fd_app2 {α β : Type} (f : α → Rat) (l : List α) (f2 : β → Rat) (l2 : List β) : l.map (fun p => FD (f p)) ++ l2.map (fun p => FD (f2 p)) = (l.map f ++ l2.map f2).map FD := by rw [List.map_append, fd_map f2, fd_map f]
/-- the other points -/
def oths (m : Nat) (to : Int) : List Int := (rg 0 m).filter fun z => !decide (z = to)
def hungT (n : Nat) (g : Nat → Nat → Rat) (at_ : Int) (m : Nat) (h : Nat → Nat → Rat) (to : Int) : List (List Rat) :=
  ((List.range n).map fun i => (List.range n).map (g i) ++ (oths m to).map fun p => g i at_.toNat + h p.toNat to.toNat) ++
    (oths m to).map fun p => ((List.range n).map fun i => g i at_.toNat + h p.toNat to.toNat) ++ (oths m to).map fun q => h p.toNat q.toNat
def sp_hung (K : PySem.W.Frag) : Sp := fun vs H Q _ => ∃ (L : List Fc.It) (x y : V) (n m : Nat) (g h : Nat → Nat → Rat) (at_ to : Int), vs = [x, .int at_, y, .int to] ∧ Rp K H L ∧ Fc.It.sh x (TD (tabG n g)) ∈ L ∧ Fc.It.sh y (TD (tabG m h)) ∈ L ∧ n ≤ 100 ∧ m ≤ 100 ∧
  isPt n at_ = true ∧ isPt m to = true ∧ (∀ i j, Bd 1900 (g i j)) ∧ (∀ i j, Bd 1900 (h i j)) ∧ ∀ a H', Rp K H' (.ow oT (.ref a) (TD (hungT n g at_ m h to)) :: L) → Q (.ref a) H'
def sp_hung_x (K : PySem.W.Frag) (mg : Str → Option Value) : Sp := fun vs H _ E => ∃ (L : List Fc.It) (x y : V) (n m : Nat) (g h : Nat → Nat → Rat) (at_ to : Int), vs = [x, .int at_, y, .int to] ∧ Rp K H L ∧ Fc.It.sh x (TD (tabG n g)) ∈ L ∧ Fc.It.sh y (TD (tabG m h)) ∈ L ∧ n ≤ 100 ∧ m ≤ 100 ∧
  (isPt n at_ && isPt m to) = false ∧ ∀ D, mg "NoPoint" = some (.ref D) → ∀ H', Rp K H' L → E (.ref D) none H'
theorem oths_mem {m : Nat} {to z : Int} : z ∈ oths m to ↔ (0 ≤ z ∧ z < m) ∧ z ≠ to := by
  unfold oths
  rw [List.mem_filter, rg_mem]
  simp
theorem oths_len {m : Nat} {to : Int} : (oths m to).length ≤ m := by
  unfold oths
  exact Nat.le_trans (List.length_filter_le _ _) (Nat.le_of_eq rg_len)
/-! ### two lists walked side by side -/
section
variable {K : PySem.W.Frag} {H : Hp} {σ : L2.St} {g : TG} {tt : TT} {te : TE} {tb : L2.TS} {D : Ends} {vs : List Nat} {a b p : Addr} {xs ys : List V} {Qd : Hp → Prop} {L : List Fc.It}
theorem itz_cases {xs ys : List V} (e : xs.length = ys.length) {i : Nat} {H : Hp} (h : SqL K H a xs ∧ SqL K H b ys) (hi : i ≤ xs.length) : (i = xs.length ∧ (Itz K a b).stop i H) ∨ (i < xs.length ∧ (Itz K a b).go i H ∧ ∀ v H', (Itz K a b).yld i H v H' → ∃ T x y, v = .ref T ∧ H T = none ∧ H' = upd H T (.tup [x, y]) ∧ xs[i]? = some x ∧ ys[i]? = some y) := by
  by_cases c : i < xs.length
  · refine .inr ⟨c, ⟨xs, ys, xs[i], ys[i], h.1, h.2, List.getElem?_eq_getElem c, List.getElem?_eq_getElem (by omega)⟩, fun v H' ⟨T, x, y, e1, nT, e2, h1, h2⟩ => ⟨T, x, y, e1, nT, e2, h1 _ h.1, h2 _ h.2⟩⟩
  · exact .inl ⟨by omega, xs, ys, h.1, h.2, .inl (by omega)⟩
theorem loop_zip (e : xs.length = ys.length) (Pv : Nat → L2.St → Hp → Prop) (h0 : Pv 0 σ H) (hl : ∀ i σ H, i ≤ xs.length → Pv i σ H → SqL K H a xs ∧ SqL K H b ys)
    (hs : ∀ i x y T σ H, xs[i]? = some x → ys[i]? = some y → Pv i σ H → H T = none → g (.ref T) σ (upd H T (.tup [x, y])) fun σ2 H2 => tb { D with nx := Pv (i + 1), ct := Pv (i + 1), bk := D.nx } σ2 H2) (hd : ∀ σ H, Pv xs.length σ H → D.nx σ H) : LoopF (Itz K a b) g tb D σ H := by
  refine ⟨fun i m σ H => m = xs.length - i ∧ i ≤ xs.length ∧ Pv i σ H, ⟨xs.length, rfl, Nat.zero_le _, h0⟩, ?_⟩
  rintro i m σ H ⟨rfl, hi, pv⟩
  rcases itz_cases e (hl i σ H hi pv) hi with ⟨c, st⟩ | ⟨c, go, yl⟩
  · exact .inl ⟨st, hd σ H (c ▸ pv)⟩
  · refine .inr ⟨go, Pv (i + 1), fun σ' H' h => ⟨xs.length - (i + 1), by omega, rfl, c, h⟩, fun v H' hy => ?_⟩
    obtain ⟨T, x, y, rfl, nT, rfl, hx, hy⟩ := yl v H' hy
    exact hs i x y T σ H hx hy pv nT
theorem lcl_zip (e : xs.length = ys.length) (Pv : Nat → Hp → Prop) (h0 : Pv 0 (upd H p (.lst []))) (hl : ∀ i H, i ≤ xs.length → Pv i H → SqL K H a xs ∧ SqL K H b ys)
    (hs : ∀ i x y T H, xs[i]? = some x → ys[i]? = some y → Pv i H → H T = none → g (.ref T) (wipe σ vs) (upd H T (.tup [x, y])) fun σ2 H2 => wipe σ2 vs = wipe σ vs ∧ tt σ2 H2 fun b H3 =>
      if b = true then te σ2 H3 fun y H4 => ∃ acc, H4 p = some (.lst acc) ∧ acc.length < sizeLine ∧ Pv (i + 1) (upd H4 p (.lst (acc ++ [y]))) else Pv (i + 1) H3) (hd : ∀ H, Pv xs.length H → Qd H) : LoopC (Itz K a b) g tt te vs p σ Qd H := by
  refine ⟨fun i m H => m = xs.length - i ∧ i ≤ xs.length ∧ Pv i H, ⟨xs.length, rfl, Nat.zero_le _, h0⟩, ?_⟩
  rintro i m H ⟨rfl, hi, pv⟩
  rcases itz_cases e (hl i H hi pv) hi with ⟨c, st⟩ | ⟨c, go, yl⟩
  · exact .inl ⟨st, hd H (c ▸ pv)⟩
  · refine .inr ⟨go, Pv (i + 1), fun H' h => ⟨xs.length - (i + 1), by omega, rfl, c, h⟩, fun v H' hy => ?_⟩
    obtain ⟨T, x, y, rfl, nT, rfl, hx, hy⟩ := yl v H' hy
    exact hs i x y T H hx hy pv nT
theorem lco_zip (s : Own) (Pv : Nat → List PyData → List Fc.It → Prop) (R : Rp K H L) (nL : H p = none) (h0 : Pv 0 [] L) (e : xs.length = ys.length) (sz : xs.length < 100000)
    (hl : ∀ i ds L X H', Pv i ds L → Rp K H' (X :: L) → SqL K H' a xs ∧ SqL K H' b ys)
    (turn : ∀ i x y T ds L X H', xs[i]? = some x → ys[i]? = some y → Pv i ds L → H' T = none → Rp K (upd H' T (.tup [x, y])) (X :: L) → ∀ (Qy : VK) (Qn : Hp → Prop), (∀ y d L' H4, Pv (i + 1) (ds ++ [d]) L' → Rp K H4 (.ow s y d :: X :: L') → Qy y H4) → (∀ L' H4, Pv (i + 1) ds L' → Rp K H4 (X :: L') → Qn H4) →
      g (.ref T) (wipe σ vs) (upd H' T (.tup [x, y])) fun σ2 H2 => wipe σ2 vs = wipe σ vs ∧ tt σ2 H2 fun b H3 => if b = true then te σ2 H3 Qy else Qn H3)
    (done : ∀ ds L H', Pv xs.length ds L → Rp K H' (.ow (.li s) (.ref p) (.list ds) :: L) → Qd H') : LoopC (Itz K a b) g tt te vs p σ Qd H := by
  refine lcl_zip (K := K) (a := a) (b := b) (xs := xs) (ys := ys) e (fun i H' => ∃ ds L, Pv i ds L ∧ ds.length ≤ i ∧ Rp K H' (.ow (.li s) (.ref p) (.list ds) :: L)) ⟨[], L, h0, Nat.zero_le _, R.mkL0 s nL⟩ (fun i H' _ ⟨ds, L, h, _, R⟩ => hl i ds L _ H' h R) ?_ (fun H' ⟨ds, L, h, _, R⟩ => done ds L H' h R)
  rintro i x y T H' hx hy ⟨ds, L, h, z, R⟩ nT
  have hi : i < xs.length := (List.getElem?_eq_some_iff.mp hx).1
  exact turn i x y T ds L _ H' hx hy h nT (R.same (same_new nT)) (fun y H4 => ∃ acc, H4 p = some (.lst acc) ∧ acc.length < sizeLine ∧ ∃ ds L, Pv (i + 1) ds L ∧ ds.length ≤ i + 1 ∧ Rp K (upd H4 p (.lst (acc ++ [y]))) (.ow (.li s) (.ref p) (.list ds) :: L)) _
    (fun y d L' H4 h' R' => lco_fin (W := fun H' => ∃ ds L, Pv (i + 1) ds L ∧ ds.length ≤ i + 1 ∧ Rp K H' (.ow (.li s) (.ref p) (.list ds) :: L)) R' (by omega) fun H' R'' => ⟨_, _, h', by rw [List.length_append]; exact Nat.add_le_add_right z 1, R''⟩) (fun L' H4 h' R' => ⟨ds, L', h', by omega, R'⟩)
/-- what asks two lists -/
def zipR (K : PySem.W.Frag) (R : L2.It → Hp → Prop) (vs : List V) (H1 : Hp) : Prop := ∃ a b xs ys, vs = [.ref a, .ref b] ∧ SqL K H1 a xs ∧ SqL K H1 b ys ∧ R (Itz K a b) H1
instance {ta : TA} {R : L2.It → Hp → Prop} : St1 (iZip K ta σ H R) (ta σ H (zipR K R)) := ⟨id⟩
theorem g_zip {R : L2.It → Hp → Prop} (h1 : SqL K H a xs) (h2 : SqL K H b ys) (q : R (Itz K a b) H) : zipR K R [.ref a, .ref b] H := ⟨a, b, xs, ys, rfl, h1, h2, q⟩
end
/-! ### list.index over ints; orders of points -/
theorem k_index {K : PySem.W.Frag} {X : Cx} (h : X.K = K := by rfl) : MtR X "list.index" (rIndex K) := by subst h; exact mt_index
theorem k_re {K : PySem.W.Frag} {X : Cx} {e : Expr} {T : String} {r : V → List V → Hp → VK → Prop} {to : TE} {t : TA} (h : X.K = K) (p : PE X e (tBM X.K T r to t)) : PE X e (tBM K T r to t) := by subst h; exact p
theorem eqV_int (a b : Int) : eqV (.int a) (.int b) = decide (a = b) := by
  by_cases h : a = b
  · subst h; simp [eqV]
  · simp [eqV, h]
theorem g_indexI {K : PySem.W.Frag} {H : Hp} {Q : VK} {L : List Fc.It} {s : Own} {a : Addr} {ns : List Int} {z : Int} (R : Rp K H L) (m : Fc.It.ow s (.ref a) (IL ns) ∈ L) (h : z ∈ ns) (q : Q (.int ((ns.idxOf z : Nat) : Int)) H) : rIndex K (.ref a) [.int z] H Q := by
  have hl := List.idxOf_lt_length_of_mem h
  refine ⟨a, ns.map V.int, .int z, ns.idxOf z, .int z, rfl, rfl, R.ilS m, rfl, flat_ints, ?_, by rw [eqV_int, decide_eq_true rfl], fun k z' hk hz' => ?_, q⟩
  · rw [List.getElem?_map, List.getElem?_eq_getElem hl, List.getElem_idxOf]; rfl
  · rw [List.getElem?_map] at hz'
    have hk2 : k < ns.length := by omega
    rw [List.getElem?_eq_getElem hk2] at hz'
    cases hz'
    rw [eqV_int]
    refine decide_eq_false fun e => ?_
    have := List.not_of_lt_findIdx (p := (· == z)) (xs := ns) (i := k) hk
    simp at this
    exact this e
theorem idxOf_getD {ns : List Int} {z : Int} (h : z ∈ ns) : ns.getD (ns.idxOf z) 0 = z := by
  have hl := List.idxOf_lt_length_of_mem h
  rw [List.getD_eq_getElem?_getD, List.getElem?_eq_getElem hl, List.getElem_idxOf]; rfl
theorem perm_pts {n : Nat} {ps : List Int} (h : ps.Perm (rg 0 n)) (hn : 1 ≤ n) : PtsOk n ps := by
  refine ⟨fun e => ?_, h.nodup_iff.mpr ((rg_rise n).imp fun h => by omega), fun p hp => ?_⟩
  · have := h.length_eq
    rw [e, rg_len] at this
    simp at this; omega
  · have := rg_mem.mp (h.mem_iff.mp hp)
    unfold isPt
    rw [decide_eq_true this.1, decide_eq_true this.2]; rfl
theorem take_pts {n k : Nat} {ps : List Int} (h : PtsOk n ps) (hk : 1 ≤ k) : PtsOk n (ps.take k) := by
  refine ⟨fun e => ?_, h.2.1.sublist (List.take_sublist k ps), fun p hp => h.2.2 p (List.mem_of_mem_take hp)⟩
  have := congrArg List.length e
  rw [List.length_take, List.length_nil] at this
  have l0 : ps.length ≠ 0 := fun e => h.1 (List.eq_nil_of_length_eq_zero e)
  omega
theorem pt_in {n : Nat} {ps : List Int} (h : PtsOk n ps) {p : Int} (hp : p ∈ ps) : 0 ≤ p ∧ p < n := by
  have := h.2.2 p hp
  unfold isPt at this
  simp only [Bool.and_eq_true, decide_eq_true_eq] at this
  exact this
theorem getD_mem {ps : List Int} {k : Nat} (h : k < ps.length) : ps.getD k 0 ∈ ps := by
  rw [List.getD_eq_getElem?_getD, List.getElem?_eq_getElem h]
  exact List.getElem_mem h
/-- points of points -/
theorem sub_pts {n : Nat} {ps fs : List Int} (h : PtsOk n ps) (h2 : PtsOk ps.length fs) : PtsOk n (fs.map fun p => ps.getD p.toNat 0) := by
  refine ⟨fun e => h2.1 (List.map_eq_nil_iff.mp e), ?_, fun p hp => ?_⟩
  · have inj : ∀ a ∈ fs, ∀ b ∈ fs, ps.getD a.toNat 0 = ps.getD b.toNat 0 → a = b := fun a ha b hb e => by
      have a1 := pt_in h2 ha
      have b1 := pt_in h2 hb
      have la : a.toNat < ps.length := by omega
      have lb : b.toNat < ps.length := by omega
      rw [List.getD_eq_getElem?_getD, List.getD_eq_getElem?_getD, List.getElem?_eq_getElem la, List.getElem?_eq_getElem lb] at e
      have e : ps[a.toNat] = ps[b.toNat] := e
      have pw := List.pairwise_iff_getElem.mp h.2.1
      rcases Nat.lt_trichotomy a.toNat b.toNat with c | c | c
      · exact (pw _ _ la lb c e).elim
      · omega
      · exact (pw _ _ lb la c e.symm).elim
    have nd := h2.2.1
    clear h2
    induction fs with
    | nil => exact .nil
    | cons x fs ih =>
      have ⟨n1, n2⟩ := List.nodup_cons.mp nd
      rw [List.map_cons]
      refine List.nodup_cons.mpr ⟨fun hm => ?_, ih (fun a ha b hb => inj a (.tail _ ha) b (.tail _ hb)) n2⟩
      obtain ⟨y, hy, e⟩ := List.mem_map.mp hm
      exact n1 (inj y (.tail _ hy) x (.head _) e ▸ hy)
  · obtain ⟨q, hq, rfl⟩ := List.mem_map.mp hp
    have := pt_in h2 hq
    exact h.2.2 _ (getD_mem (by omega))
/-- where each point stands -/
def backL (n : Nat) (ps : List Int) : List Int := (List.range n).map fun p : Nat => ((ps.idxOf (p : Int) : Nat) : Int)
theorem back_at {n : Nat} {ps : List Int} (h : ps.Perm (rg 0 n)) {i : Nat} (hi : i < n) : (backL n ps).getD i 0 = ((ps.idxOf (i : Int) : Nat) : Int) ∧ ps.getD ((backL n ps).getD i 0).toNat 0 = (i : Int) := by
  have e : (backL n ps).getD i 0 = ((ps.idxOf (i : Int) : Nat) : Int) := by
    unfold backL
    exact rowF_at hi
  refine ⟨e, ?_⟩
  rw [e, Int.toNat_natCast]
  exact idxOf_getD (h.mem_iff.mpr (rg_mem.mpr (by omega)))
theorem back_pts {n : Nat} {ps : List Int} (h : ps.Perm (rg 0 n)) (hn : 1 ≤ n) : PtsOk n (backL n ps) := by
  have hl : ps.length = n := by rw [h.length_eq, rg_len]
  have mem : ∀ i, i < n → (i : Int) ∈ ps := fun i hi => h.mem_iff.mpr (rg_mem.mpr (by omega))
  refine ⟨fun e => ?_, ?_, fun p hp => ?_⟩
  · have := congrArg List.length e
    unfold backL at this
    simp at this; omega
  · unfold backL
    refine List.Pairwise.map _ ?_ (List.nodup_range.imp_of_mem (fun {a b} ha hb hab => (⟨List.mem_range.mp ha, List.mem_range.mp hb, hab⟩ : a < n ∧ b < n ∧ a ≠ b)))
    rintro a b ⟨ha, hb, hab⟩ e
    have e2 : ps.idxOf (a : Int) = ps.idxOf (b : Int) := by omega
    have e3 := idxOf_getD (mem a ha)
    rw [e2, idxOf_getD (mem b hb)] at e3
    omega
  · unfold backL at hp
    obtain ⟨i, hi, rfl⟩ := List.mem_map.mp hp
    have := List.idxOf_lt_length_of_mem (mem i (List.mem_range.mp hi))
    unfold isPt
    rw [decide_eq_true (by omega), decide_eq_true (by omega)]; rfl
local macro_rules | `(tactic| walk_at "sq") => `(tactic| first
  | with_reducible assumption
  | (with_reducible refine Rp.fr (by assumption) ?_; walk_at "mem")
  | exact fr_one_at | exact fr_zero_at | exact fr_neg_at | exact fr_int_at | exact sqT_at | exact sqL_at
  | (refine' sqT_new ?e ?h; (case e => assumption); (case h => walk_at "sq"))
  | (refine' sqT_mut ?e ?h; (case e => assumption); (case h => walk_at "sq"))
  | (refine' sqT_same ?e ?h; (case e => assumption); (case h => walk_at "sq"))
  | (refine' sqT_but ?e ?e2 ?h; (case e => assumption); (case e2 => assumption); (case h => walk_at "sq"))
  | (refine' sqL_new ?e ?h; (case e => assumption); (case h => walk_at "sq"))
  | (refine' sqL_same ?e ?h; (case e => assumption); (case h => walk_at "sq")) | fail)
local macro_rules | `(tactic| walk_at "same") => `(tactic| first
  | assumption
  | exact Same.refl _
  | (refine Same.trans ?_ (same_new (by assumption)); walk_at "same")
  | (refine Same.trans ?_ (by assumption); walk_at "same") | fail)
local macro_rules | `(tactic| walk_at "k") => `(tactic| try dsimp only [L2.cxOf, L2.Cx.nox])
local macro_rules | `(tactic| walk_at "step") => `(tactic| first
  | with_reducible refine St1.pf ?_
  | (with_reducible refine' g_var ?h ?q; (case h => with_unfolding_all rfl))
  | (with_reducible refine' g_ixT ?h ?a ?q; (case h => walk_at "sq"); (case a => with_unfolding_all rfl))
  | (with_reducible refine' g_mod ?h ?q; (case h => first | assumption | omega | decide))
  | (with_reducible refine' g_powE ?h ?a ?q; (case h => exact cpow_ok (by decide)); (case a => simp only [Int.reduceToNat, Int.reducePow]; rfl))
  | (with_reducible refine' g_isiT ?h ?q; (case h => walk_at "sq"))
  | (with_reducible refine' g_lenT ?h ?q; (case h => walk_at "sq"))
  | (with_reducible refine' g_aug ?h ?q; (case h => with_unfolding_all rfl))
  | (with_reducible refine' g_eq ?h ?q; (case h => rfl)) | (with_reducible refine' g_ne ?h ?q; (case h => rfl)))
local macro_rules | `(tactic| walk_at "go") => `(tactic| repeat (walk_at "step"))
local macro_rules | `(tactic| walk_at "bd") => `(tactic| (with_reducible refine g_mul ?c ?_; (case c => first | exact mulW 4000 4000 (Bd.num (by assumption)) (Bd.de (by assumption)) | exact mulW 4000 4000 (Bd.num (by assumption)) (Bd.num (by assumption)) | exact mulW 4000 4000 (Bd.de (by assumption)) (Bd.de (by assumption)) | exact mulW 4000 4000 (Bd.de (by assumption)) (Bd.num (by assumption)))))
local macro_rules | `(tactic| walk_at "gob") => `(tactic| repeat (first | walk_at "step" | walk_at "bd"))
local macro_rules | `(tactic| walk_at "sq") => `(tactic| first | (refine' sqT_pool ?b ?e ?h; (case b => assumption); (case e => assumption); (case h => walk_at "sq")) | fail)
local macro_rules | `(tactic| walk_at "pool") => `(tactic| first | assumption | (refine Pool.new ?h ?e; (case e => assumption); (case h => walk_at "pool")) | (refine Pool.same ?h ?e; (case e => assumption); (case h => walk_at "pool")) | fail)
local macro_rules | `(tactic| walk_at "but") => `(tactic| first | assumption | exact But.refl _ _ | (refine But.newp ?h ?e; (case e => assumption); (case h => walk_at "but")) | (refine But.trans ?h ?e; (case e => first | assumption | exact But.same (by assumption)); (case h => walk_at "but")) | fail)
local macro_rules | `(tactic| walk_at "bds") => `(tactic| first
  | assumption
  | exact Bd_zero (n := 1) (by decide) | exact Bd_one | exact Bd_int (by walk_at "ibs")
  | (refine' Bd_add ?a ?b; (case a => walk_at "bds"); (case b => walk_at "bds"))
  | (refine' Bd_sub ?a ?b; (case a => walk_at "bds"); (case b => walk_at "bds"))
  | (refine' Bd_mul ?a ?b; (case a => walk_at "bds"); (case b => walk_at "bds"))
  | (refine' Bd_div ?a ?b ?c; (case a => walk_at "bds"); (case b => walk_at "bds"); (case c => first | assumption | grind | fail))
  | fail)
local macro_rules | `(tactic| walk_at "ibs") => `(tactic| first
  | assumption
  | exact IB.num (by assumption)
  | exact IB.den (by assumption)
  | (refine' IB.mul ?a ?b; (case a => walk_at "ibs"); (case b => walk_at "ibs"))
  | (refine' IB.add ?a ?b; (case a => walk_at "ibs"); (case b => walk_at "ibs"))
  | (refine' IB.sub ?a ?b; (case a => walk_at "ibs"); (case b => walk_at "ibs"))
  | exact IB.lit
  | fail)
local macro_rules | `(tactic| walk_at "deed") => `(tactic| first
  | (with_reducible refine' g_plus ?hx ?hy ?bx ?bu ?q; (case hx => walk_at "sq"); (case hy => walk_at "sq"); (case bx => exact Bd.mono (by walk_at "bds") (by decide)); (case bu => exact Bd.mono (by walk_at "bds") (by decide)); intro p np)
  | (with_reducible refine' g_minus ?hx ?hy ?bx ?bu ?q; (case hx => walk_at "sq"); (case hy => walk_at "sq"); (case bx => exact Bd.mono (by walk_at "bds") (by decide)); (case bu => exact Bd.mono (by walk_at "bds") (by decide)); intro p np)
  | (with_reducible refine' g_times ?hx ?hy ?bx ?bu ?q; (case hx => walk_at "sq"); (case hy => walk_at "sq"); (case bx => exact Bd.mono (by walk_at "bds") (by decide)); (case bu => exact Bd.mono (by walk_at "bds") (by decide)); intro p np)
  | (with_reducible refine' g_divided ?hx ?hy ?bx ?bu ?h0 ?q; (case hx => walk_at "sq"); (case hy => walk_at "sq"); (case bx => exact Bd.mono (by walk_at "bds") (by decide)); (case bu => exact Bd.mono (by walk_at "bds") (by decide)); (case h0 => first | assumption | exact den_cast _ | grind | fail); intro p np)
  | (with_reducible refine' g_below ?hx ?hy ?bx ?bu ?q; (case hx => walk_at "sq"); (case hy => walk_at "sq"); (case bx => exact Bd.mono (by walk_at "bds") (by decide)); (case bu => exact Bd.mono (by walk_at "bds") (by decide)))
  | (with_reducible refine' g_neF ?hx ?hy ?q; (case hx => walk_at "sq"); (case hy => walk_at "sq"))
  | (with_reducible refine' g_eqF ?hx ?hy ?q; (case hx => walk_at "sq"); (case hy => walk_at "sq"))
  | (with_reducible refine' g_mul ?h ?q; (case h => exact IB.mulW (by walk_at "ibs") (by walk_at "ibs") (by decide)))
  | (with_reducible refine' g_frac ?h0 ?h ?q; (case h0 => walk_at "nz"); (case h => exact IB.mono (by walk_at "ibs") (by decide)); intro p np)
  | fail)
local macro_rules | `(tactic| walk_at "nz") => `(tactic| first | assumption | exact den_ne _ | exact num_ne (by assumption) | exact neg_ne (den_ne _) | (refine Int.mul_ne_zero ?a ?b; (case a => walk_at "nz"); (case b => walk_at "nz")) | fail)
local macro_rules | `(tactic| walk_at "rat") => `(tactic| (simp only [Rat.divInt_eq_div, Rat.intCast_add, Rat.intCast_sub, Rat.intCast_mul, Rat.intCast_zero, Rat.intCast_one, num_cast]; grind [den_cast]))
local macro_rules | `(tactic| walk_at "known") => `(tactic| first | walk_at "rat" | grind | fail)
local macro_rules | `(tactic| walk_at "god") => `(tactic| repeat (first | walk_at "step" | walk_at "deed" | (with_reducible refine And.intro two_le ?_; intro p np) | with_reducible refine ifN_known (by walk_at "known") ?_ | with_reducible refine ifY_known (by walk_at "known") ?_ | fail))
local macro_rules | `(tactic| walk_at "goe") => `(tactic| repeat (first | walk_at "step" | walk_at "deed" | (with_reducible refine And.intro two_le ?_; intro p np) | with_reducible refine ifN_known (by grind) ?_ | with_reducible refine ifY_known (by grind) ?_ | with_reducible refine ifY_no (by grind) ?_ | with_reducible refine ifN_no (by grind) ?_ | fail))
local macro_rules | `(tactic| walk_at "mem") => `(tactic| (repeat (first | exact List.mem_cons_self | with_reducible refine List.mem_cons_of_mem _ ?_ | with_reducible refine List.mem_append_right _ ?_)); done)
local macro_rules | `(tactic| walk_at "sel") => `(tactic| (repeat (first | exact Sel.here | with_reducible apply Sel.there | with_reducible apply Sel.app)); done)
local macro_rules | `(tactic| walk_at "wk0") => `(tactic| (repeat (first
  | with_reducible exact Wk.refl
  | with_reducible exact Wk.nil
  | refine Wk.dup (L1 := _) (by walk_at "sel") ?_
  | refine Wk.dupP (L1 := _) (by walk_at "sel") ?_
  | refine Wk.take (L1 := _) (by walk_at "sel") ?_
  | refine Wk.drop ?_
  | refine Wk.dropA ?_)); done)
local macro_rules | `(tactic| walk_at "wk1") => `(tactic| first | exact WkC.pf | walk_at "wk0")
local macro_rules | `(tactic| walk_at "wk") => `(tactic| exact Rp.wk (by assumption) (by walk_at "wk1"))
local macro_rules | `(tactic| walk_at "stepR") => `(tactic| first
  | walk_at "step"
  | (with_reducible refine' g_lenS ?R ?m ?q; (case R => assumption); (case m => walk_at "mem"))
  | (with_reducible refine' g_lenTS ?R ?m ?q; (case R => assumption); (case m => walk_at "mem"))
  | (with_reducible refine' g_inR ?R ?m ?q; (case R => assumption); (case m => walk_at "mem"))
  | (with_reducible refine' g_niR ?R ?m ?q; (case R => assumption); (case m => walk_at "mem"))
  | (with_reducible refine' g_isiLR ?R ?m ?q; (case R => assumption); (case m => walk_at "mem"))
  | (with_reducible refine' g_isiTR ?R ?m ?q; (case R => assumption); (case m => walk_at "mem"))
  | (with_reducible refine' g_isiLTR ?R ?m ?q; (case R => assumption); (case m => walk_at "mem"))
  | (with_reducible refine' g_isiTLR ?R ?m ?q; (case R => assumption); (case m => walk_at "mem"))
  | (with_reducible refine' g_eqFR ?R ?m ?m2 ?q; (case R => assumption); (case m => walk_at "mem"); (case m2 => walk_at "mem"))
  | (with_reducible refine' g_neFR ?R ?m ?m2 ?q; (case R => assumption); (case m => walk_at "mem"); (case m2 => walk_at "mem"))
  | (with_reducible refine' g_eqNI ?R ?m ?m2 ?q; (case R => assumption); (case m => walk_at "mem"); (case m2 => walk_at "mem"))
  | (with_reducible refine' g_neNI ?R ?m ?m2 ?q; (case R => assumption); (case m => walk_at "mem"); (case m2 => walk_at "mem"))
  | (with_reducible refine' g_gTup ?h ?l ?q; (case h => walk_at "sq"); (case l => with_unfolding_all rfl))
  | (refine' tBMq ?h ?q; (case h => refine' tyLR ?R ?m; (case R => assumption); (case m => walk_at "mem")))
  | fail)
local macro_rules | `(tactic| walk_at "goR") => `(tactic| repeat (walk_at "stepR"))
local macro_rules | `(tactic| walk_at "dtake") => `(tactic| (refine' g_dtakeR ?R ?h ?a ?b ?q; (case R => assumption); (case h => walk_at "sel"); (case a => first | decide | omega); (case b => first | decide | omega)))
local macro_rules | `(tactic| walk_at "take") => `(tactic| (refine' g_takeR ?R ?h ?n ?a ?b ?q; (case R => assumption); (case h => walk_at "sel"); (case n => first | decide | omega); (case a => first | decide | omega); (case b => first | decide | omega)))
/-! ### the text -/
def topS (i : Nat) : Stmt := PySem.Challenge.pw_farcuts_k11_whole_tables_in_parts.main.body.getD i (.Pass ⟨0, 0, 0, 0⟩)
abbrev s_common_of : Stmt := topS 6
abbrev N_common_of : List Str := ["one", "other"]
abbrev P_common_of : List Str := ["one", "other"]
theorem sc_common_of : FnScope N_common_of P_common_of (defScope s_common_of) := ⟨rfl, rfl, rfl, by decide +kernel, rfl, by decide +kernel, by decide +kernel⟩
abbrev s_fraction : Stmt := topS 7
abbrev N_fraction : List Str := ["top", "bottom", "by"]
abbrev P_fraction : List Str := ["top", "bottom"]
theorem sc_fraction : FnScope N_fraction P_fraction (defScope s_fraction) := ⟨rfl, rfl, rfl, by decide +kernel, rfl, by decide +kernel, by decide +kernel⟩
abbrev s_plus : Stmt := topS 8
abbrev N_plus : List Str := ["q", "r"]
abbrev P_plus : List Str := ["q", "r"]
theorem sc_plus : FnScope N_plus P_plus (defScope s_plus) := ⟨rfl, rfl, rfl, by decide +kernel, rfl, by decide +kernel, by decide +kernel⟩
abbrev s_times : Stmt := topS 9
abbrev N_times : List Str := ["q", "r"]
abbrev P_times : List Str := ["q", "r"]
theorem sc_times : FnScope N_times P_times (defScope s_times) := ⟨rfl, rfl, rfl, by decide +kernel, rfl, by decide +kernel, by decide +kernel⟩
abbrev s_is_below : Stmt := topS 10
abbrev N_is_below : List Str := ["q", "r"]
abbrev P_is_below : List Str := ["q", "r"]
theorem sc_is_below : FnScope N_is_below P_is_below (defScope s_is_below) := ⟨rfl, rfl, rfl, by decide +kernel, rfl, by decide +kernel, by decide +kernel⟩
abbrev s_is_whole : Stmt := topS 13
abbrev N_is_whole : List Str := ["thing"]
abbrev P_is_whole : List Str := ["thing"]
theorem sc_is_whole : FnScope N_is_whole P_is_whole (defScope s_is_whole) := ⟨rfl, rfl, rfl, by decide +kernel, rfl, by decide +kernel, by decide +kernel⟩
abbrev s_is_fraction : Stmt := topS 14
abbrev N_is_fraction : List Str := ["thing"]
abbrev P_is_fraction : List Str := ["thing"]
theorem sc_is_fraction : FnScope N_is_fraction P_is_fraction (defScope s_is_fraction) := ⟨rfl, rfl, rfl, by decide +kernel, rfl, by decide +kernel, by decide +kernel⟩
abbrev s_is_table : Stmt := topS 15
abbrev N_is_table : List Str := ["thing", "row", "one", "i", "j"]
abbrev P_is_table : List Str := ["thing"]
theorem sc_is_table : FnScope N_is_table P_is_table (defScope s_is_table) := ⟨rfl, rfl, rfl, by decide +kernel, rfl, by decide +kernel, by decide +kernel⟩
abbrev s_first_short : Stmt := topS 16
abbrev N_first_short : List Str := ["table", "many", "i", "j", "k"]
abbrev P_first_short : List Str := ["table"]
theorem sc_first_short : FnScope N_first_short P_first_short (defScope s_first_short) := ⟨rfl, rfl, rfl, by decide +kernel, rfl, by decide +kernel, by decide +kernel⟩
abbrev s_part_of : Stmt := topS 17
abbrev N_part_of : List Str := ["table", "points", "point", "one", "other"]
abbrev P_part_of : List Str := ["table", "points"]
theorem sc_part_of : FnScope N_part_of P_part_of (defScope s_part_of) := ⟨rfl, rfl, rfl, by decide +kernel, rfl, by decide +kernel, by decide +kernel⟩
abbrev s_added : Stmt := topS 18
abbrev N_added : List Str := ["table", "other", "row", "other_row", "one", "more"]
abbrev P_added : List Str := ["table", "other"]
theorem sc_added : FnScope N_added P_added (defScope s_added) := ⟨rfl, rfl, rfl, by decide +kernel, rfl, by decide +kernel, by decide +kernel⟩
abbrev s_times_table : Stmt := topS 19
abbrev N_times_table : List Str := ["q", "table", "row", "one"]
abbrev P_times_table : List Str := ["q", "table"]
theorem sc_times_table : FnScope N_times_table P_times_table (defScope s_times_table) := ⟨rfl, rfl, rfl, by decide +kernel, rfl, by decide +kernel, by decide +kernel⟩
abbrev s_hung_together : Stmt := topS 20
abbrev N_hung_together : List Str := ["table", "point", "other", "other_point", "there", "place", "found", "row", "ahead", "behind"]
abbrev P_hung_together : List Str := ["table", "point", "other", "other_point"]
theorem sc_hung_together : FnScope N_hung_together P_hung_together (defScope s_hung_together) := ⟨rfl, rfl, rfl, by decide +kernel, rfl, by decide +kernel, by decide +kernel⟩
abbrev s_l_pool : Stmt := topS 22
abbrev N_l_pool : List Str := ["script", "k", "cell"]
abbrev P_l_pool : List Str := ["script", "k"]
theorem sc_l_pool : FnScope N_l_pool P_l_pool (defScope s_l_pool) := ⟨rfl, rfl, rfl, by decide +kernel, rfl, by decide +kernel, by decide +kernel⟩
abbrev s_l_take : Stmt := topS 23
abbrev N_l_take : List Str := ["pool", "many", "found", "step", "mark"]
abbrev P_l_take : List Str := ["pool", "many"]
theorem sc_l_take : FnScope N_l_take P_l_take (defScope s_l_take) := ⟨rfl, rfl, rfl, by decide +kernel, rfl, by decide +kernel, by decide +kernel⟩
abbrev s_l_lowest : Stmt := topS 24
abbrev N_l_lowest : List Str := ["top", "bottom", "one", "other"]
abbrev P_l_lowest : List Str := ["top", "bottom"]
theorem sc_l_lowest : FnScope N_l_lowest P_l_lowest (defScope s_l_lowest) := ⟨rfl, rfl, rfl, by decide +kernel, rfl, by decide +kernel, by decide +kernel⟩
abbrev s_l_distance : Stmt := topS 25
abbrev N_l_distance : List Str := ["pool", "kind"]
abbrev P_l_distance : List Str := ["pool"]
theorem sc_l_distance : FnScope N_l_distance P_l_distance (defScope s_l_distance) := ⟨rfl, rfl, rfl, by decide +kernel, rfl, by decide +kernel, by decide +kernel⟩
abbrev s_l_line : Stmt := topS 26
abbrev N_l_line : List Str := ["pool", "many", "places", "point", "one", "other"]
abbrev P_l_line : List Str := ["pool", "many"]
theorem sc_l_line : FnScope N_l_line P_l_line (defScope s_l_line) := ⟨rfl, rfl, rfl, by decide +kernel, rfl, by decide +kernel, by decide +kernel⟩
abbrev s_l_table : Stmt := topS 27
abbrev N_l_table : List Str := ["pool", "many", "kind", "found", "one", "other", "far"]
abbrev P_l_table : List Str := ["pool", "many"]
theorem sc_l_table : FnScope N_l_table P_l_table (defScope s_l_table) := ⟨rfl, rfl, rfl, by decide +kernel, rfl, by decide +kernel, by decide +kernel⟩
abbrev s_l_order : Stmt := topS 28
abbrev N_l_order : List Str := ["pool", "many", "left", "found", "turn"]
abbrev P_l_order : List Str := ["pool", "many"]
theorem sc_l_order : FnScope N_l_order P_l_order (defScope s_l_order) := ⟨rfl, rfl, rfl, by decide +kernel, rfl, by decide +kernel, by decide +kernel⟩
abbrev s_l_parts_right : Stmt := topS 29
abbrev N_l_parts_right : List Str := ["pool", "one", "other", "order", "back", "point", "some", "few", "place"]
abbrev P_l_parts_right : List Str := ["pool", "one", "other"]
theorem sc_l_parts_right : FnScope N_l_parts_right P_l_parts_right (defScope s_l_parts_right) := ⟨rfl, rfl, rfl, by decide +kernel, rfl, by decide +kernel, by decide +kernel⟩
abbrev s_l_sums_right : Stmt := topS 30
abbrev N_l_sums_right : List Str := ["pool", "one", "other", "q", "r"]
abbrev P_l_sums_right : List Str := ["pool", "one", "other"]
theorem sc_l_sums_right : FnScope N_l_sums_right P_l_sums_right (defScope s_l_sums_right) := ⟨rfl, rfl, rfl, by decide +kernel, rfl, by decide +kernel, by decide +kernel⟩
abbrev s_l_hung_right : Stmt := topS 31
abbrev N_l_hung_right : List Str := ["pool", "one", "other", "at", "to", "whole", "way_back", "behind", "there", "ahead", "place", "both_long"]
abbrev P_l_hung_right : List Str := ["pool", "one", "other"]
theorem sc_l_hung_right : FnScope N_l_hung_right P_l_hung_right (defScope s_l_hung_right) := ⟨rfl, rfl, rfl, by decide +kernel, rfl, by decide +kernel, by decide +kernel⟩
abbrev s_law : Stmt := topS 32
abbrev N_law : List Str := ["script", "k", "pool", "one", "other", "last"]
abbrev P_law : List Str := ["script"]
theorem sc_law : FnScope N_law P_law (defScope s_law) := ⟨rfl, rfl, rfl, by decide +kernel, rfl, by decide +kernel, by decide +kernel⟩
/-- the built-in names that the text leaves as they are -/
structure Tx (K : PySem.W.Frag) (mg : Str → Option Value) : Prop where
  abs_ : mg "abs" = none
  bool_ : mg "bool" = none
  int_ : mg "int" = none
  isinstance_ : mg "isinstance" = none
  len_ : mg "len" = none
  list_ : mg "list" = none
  max_ : mg "max" = none
  min_ : mg "min" = none
  range_ : mg "range" = none
  set_ : mg "set" = none
  tuple_ : mg "tuple" = none
  zip_ : mg "zip" = none
  c_NOUGHT : ∃ a, mg "NOUGHT" = some (.ref a) ∧ ∀ H, SqT K H a [.int 0, .int 1]
section
variable {P : Program} {w : World} {K : PySem.W.Frag} {mg : Str → Option Value} {base : Heap}
theorem ok_common_of {f : Addr} {fd : FuncData} (F : Fun K "common_of" "common_of" s_common_of f fd) (T : Tx K mg) : FnOk P w K mg base CX0 1 f fd P_common_of sp_common := by
  refine F.ok sc_common_of (fun vs H Q E h => ?_) (fun cdv A outer s H vs Q E hr h => ?_)
  · obtain ⟨a, b, rfl, _⟩ := h
    rfl
  · obtain ⟨a, b, rfl, q⟩ := h
    refine ⟨_, (pss_cons (ps_while PassesOwn.never (pt_cmpR op_ne (pv 1) pe_int (nomark _))
  (pss_one (ps_par (i := 0) (j := 1) rfl sc_common_of.nd rfl rfl (by decide) rfl rfl (pa_cons (pv 1) (pa_cons (pe_op op_modN (pv 0) (pv 1)) pa_nil)) rfl)))
  (pss_one (ps_ret (pe_callB cr_abs (by rfl) T.abs_ (by decide +kernel) (pa_cons (pv 0) pa_nil))))), ?_⟩
    walk_at "k"
    walk_at "step"
    refine while_by (fun σ H' => ∃ x y : Int, σ = [some (.int x), some (.int y)] ∧ H' = H ∧ Int.gcd x y = Int.gcd a b) (fun σ _ => match σ with | [_, some (.int y)] => y.natAbs | _ => 0)
      ⟨a, b, rfl, rfl, rfl⟩ ?_ ?_
    · rintro σ H' ⟨x, y, rfl, rfl, e⟩
      walk_at "go"
      refine ifND (fun h => ?_) (fun h => ?_)
      · walk_at "go"
        refine g_modN h ?_
        walk_at "go"
        exact ⟨⟨y, x.fmod y, rfl, rfl, (gcd_fmod x y).trans e⟩, fmod_small x y h⟩
      · walk_at "go"
        subst h
        rw [abs_gcd0, e]
        exact q
    · intro σ H Q Q' h t
      obtain ⟨v, e1, i, k, e3, q⟩ := t
      exact ⟨v, e1, i, k, e3, h _ _ q⟩
end
section
variable {P : Program} {w : World} {K : PySem.W.Frag} {mg : Str → Option Value} {base : Heap}
theorem ok_fraction {f : Addr} {fd : FuncData} (F : Fun K "fraction" "fraction" s_fraction f fd) (T : Tx K mg) (c_common_of : Cal P w K mg base 1 "common_of" sp_common []) : FnOk P w K mg base CX0 2 f fd P_fraction sp_fraction := by
  refine F.ok sc_fraction (fun vs H Q E h => ?_) (fun cdv A outer s H vs Q E hr h => ?_)
  · obtain ⟨a, b, rfl, _⟩ := h
    rfl
  · obtain ⟨t, b, rfl, hb, hl, q⟩ := h
    refine ⟨_, (pss_cons (ps_if (pt_cmpR op_eq (pv 1) pe_int (nomark _))
  (pss_one ps_never)
  pss_nil)
  (pss_cons (ps_set (i := 2) sc_fraction.nd rfl (Or.inl rfl) (pe_c c_common_of hr (by decide) rfl (pa_cons (pv 0) (pa_cons (pv 1) pa_nil))))
  (pss_cons (ps_if (pt_cmpR op_lt (pv 1) pe_int (nomark _))
  (pss_one (ps_set (i := 2) sc_fraction.nd rfl (Or.inl rfl) (pe_op op_sub pe_int (pv 2))))
  pss_nil)
  (pss_one (ps_ret (pe_tup (pa_cons (pe_op op_fdivV (pv 0) (pv 2)) (pa_cons (pe_op op_fdivV (pv 1) (pv 2)) pa_nil)))))))), ?_⟩
    walk_at "k"
    walk_at "go"
    refine ifD (fun h => absurd h hb) (fun _ => ?_)
    walk_at "go"
    refine ⟨t, b, rfl, ?_⟩
    walk_at "go"
    have hg := gcd_lt (t := t) hb hl
    have hp := gcd_pos' (t := t) hb
    refine ifD (fun h => ?_) (fun h => ?_)
    · walk_at "go"
      refine g_divV (divV 8500 (by omega) (by omega)) ?_
      walk_at "go"
      refine g_divV (divV 8500 (by omega) (by omega)) ?_
      walk_at "go"
      refine ⟨(by show 2 ≤ sizeLine; decide), fun p np => ?_⟩
      have := q p np
      unfold FV at this
      rw [divInt_num t b hb, divInt_den t b hb, if_pos h, if_pos h] at this
      rw [Int.zero_sub]
      exact this
    · walk_at "go"
      refine g_divV (divV 8500 (by omega) (by omega)) ?_
      walk_at "go"
      refine g_divV (divV 8500 (by omega) (by omega)) ?_
      walk_at "go"
      refine ⟨(by show 2 ≤ sizeLine; decide), fun p np => ?_⟩
      have := q p np
      unfold FV at this
      rw [divInt_num t b hb, divInt_den t b hb, if_neg h, if_neg h] at this
      exact this
end
section
variable {P : Program} {w : World} {K : PySem.W.Frag} {mg : Str → Option Value} {base : Heap}
theorem ok_plus {f : Addr} {fd : FuncData} (F : Fun K "plus" "plus" s_plus f fd) (T : Tx K mg) (c_fraction : Cal P w K mg base 2 "fraction" sp_fraction []) : FnOk P w K mg base CX0 3 f fd P_plus (sp2F K (fun x y => x + y) fun x y => True) := by
  refine F.ok sc_plus (fun vs H Q E h => ?_) (fun cdv A outer s H vs Q E hr h => ?_)
  · obtain ⟨a, b, x, y, rfl, _⟩ := h
    rfl
  · obtain ⟨a, b, x, y, rfl, hx, hy, bx, by', hpre, q⟩ := h
    refine ⟨_, (pss_one (ps_ret (pe_c c_fraction hr (by decide) rfl (pa_cons (pe_op op_add (pe_op op_mulW (pe_ix (k_ixT (K := K)) (pv 0) pe_int (fun _ _ => rfl)) (pe_ix (k_ixT (K := K)) (pv 1) pe_int (fun _ _ => rfl))) (pe_op op_mulW (pe_ix (k_ixT (K := K)) (pv 1) pe_int (fun _ _ => rfl)) (pe_ix (k_ixT (K := K)) (pv 0) pe_int (fun _ _ => rfl)))) (pa_cons (pe_op op_mulW (pe_ix (k_ixT (K := K)) (pv 0) pe_int (fun _ _ => rfl)) (pe_ix (k_ixT (K := K)) (pv 1) pe_int (fun _ _ => rfl))) pa_nil))))), ?_⟩
    walk_at "k"
    have dx := den_pos' x
    have dy := den_pos' y
    walk_at "gob"
    refine ⟨_, _, rfl, ?_, ?_, fun p np => ?_⟩
    · exact Int.ne_of_gt (Int.mul_pos dx dy)
    · exact Nat.lt_trans (natAbs_mul_lt bx.2 by'.2) (Nat.pow_lt_pow_right (by decide) (by decide))
    · have := q p np
      dsimp only at this
      rw [← plus_eq] at this
      exact this
end
section
variable {P : Program} {w : World} {K : PySem.W.Frag} {mg : Str → Option Value} {base : Heap}
theorem ok_times {f : Addr} {fd : FuncData} (F : Fun K "times" "times" s_times f fd) (T : Tx K mg) (c_fraction : Cal P w K mg base 2 "fraction" sp_fraction []) : FnOk P w K mg base CX0 3 f fd P_times (sp2F K (fun x y => x * y) fun x y => True) := by
  refine F.ok sc_times (fun vs H Q E h => ?_) (fun cdv A outer s H vs Q E hr h => ?_)
  · obtain ⟨a, b, x, y, rfl, _⟩ := h
    rfl
  · obtain ⟨a, b, x, y, rfl, hx, hy, bx, by', hpre, q⟩ := h
    refine ⟨_, (pss_one (ps_ret (pe_c c_fraction hr (by decide) rfl (pa_cons (pe_op op_mulW (pe_ix (k_ixT (K := K)) (pv 0) pe_int (fun _ _ => rfl)) (pe_ix (k_ixT (K := K)) (pv 1) pe_int (fun _ _ => rfl))) (pa_cons (pe_op op_mulW (pe_ix (k_ixT (K := K)) (pv 0) pe_int (fun _ _ => rfl)) (pe_ix (k_ixT (K := K)) (pv 1) pe_int (fun _ _ => rfl))) pa_nil))))), ?_⟩
    walk_at "k"
    have dx := den_pos' x
    have dy := den_pos' y
    walk_at "gob"
    refine ⟨_, _, rfl, ?_, ?_, fun p np => ?_⟩
    · exact Int.ne_of_gt (Int.mul_pos dx dy)
    · exact Nat.lt_trans (natAbs_mul_lt bx.2 by'.2) (Nat.pow_lt_pow_right (by decide) (by decide))
    · have := q p np
      dsimp only at this
      rw [← times_eq] at this
      exact this
end
section
variable {P : Program} {w : World} {K : PySem.W.Frag} {mg : Str → Option Value} {base : Heap}
theorem ok_is_below {f : Addr} {fd : FuncData} (F : Fun K "is_below" "is_below" s_is_below f fd) (T : Tx K mg) : FnOk P w K mg base CX0 1 f fd P_is_below (sp_below K) := by
  refine F.ok sc_is_below (fun vs H Q E h => ?_) (fun cdv A outer s H vs Q E hr h => ?_)
  · obtain ⟨a, b, x, y, rfl, _⟩ := h
    rfl
  · obtain ⟨a, b, x, y, rfl, hx, hy, bx, by', q⟩ := h
    refine ⟨_, (pss_one (ps_ret (pe_cmpR op_lt (pe_op op_mulW (pe_ix (k_ixT (K := K)) (pv 0) pe_int (fun _ _ => rfl)) (pe_ix (k_ixT (K := K)) (pv 1) pe_int (fun _ _ => rfl))) (pe_op op_mulW (pe_ix (k_ixT (K := K)) (pv 1) pe_int (fun _ _ => rfl)) (pe_ix (k_ixT (K := K)) (pv 0) pe_int (fun _ _ => rfl))) (nomark _)))), ?_⟩
    walk_at "k"
    walk_at "go"
    refine g_mul (mulW 4000 4000 bx.1 by'.2) ?_
    walk_at "go"
    refine g_mul (mulW 4000 4000 by'.1 bx.2) ?_
    walk_at "go"
    rw [lt_eq]
    exact q
end
/-! ### the first three points out of order -/
def firstS (n : Nat) (f : Nat → Nat → Nat → Bool) : Option (Nat × Nat × Nat) :=
  (List.range n).findSome? fun i => (List.range n).findSome? fun j => (List.range n).findSome? fun k => if f i j k then some (i, j, k) else none
theorem fs_none {α : Type} {n : Nat} {f : Nat → Option α} : (List.range n).findSome? f = none ↔ ∀ i, i < n → f i = none := by
  rw [List.findSome?_eq_none_iff]
  exact ⟨fun h i hi => h i (List.mem_range.mpr hi), fun h i hi => h i (List.mem_range.mp hi)⟩
theorem fs_hit {α : Type} {n i : Nat} {f : Nat → Option α} {y : α} (h : ∀ j, j < i → f j = none) (e : f i = some y) (hi : i < n) : (List.range n).findSome? f = some y := by
  induction n with
  | zero => omega
  | succ n ih =>
    rw [List.range_succ, List.findSome?_append]
    by_cases c : i < n
    · rw [ih c]; rfl
    · have : i = n := by omega
      subst this
      rw [fs_none.mpr h]
      simp [e]
/-- these three: unlike, the first farther from the last than by way of the middle one -/
def shortB (g : Nat → Nat → Rat) (i j k : Nat) : Bool := decide (i ≠ j) && decide (j ≠ k) && decide (i ≠ k) && decide (g i j + g j k < g i k)
/-- three points, or none, as data -/
abbrev SD : Option (Nat × Nat × Nat) → PyData
  | none => .none
  | some (i, j, k) => .tuple [.int (i : Int), .int (j : Int), .int (k : Int)]
def sp_short (K : PySem.W.Frag) : Sp := fun vs H Q _ => ∃ (L : List Fc.It) (x : V) (n : Nat) (g : Nat → Nat → Rat), vs = [x] ∧ Rp K H L ∧ Fc.It.sh x (TD (tabG n g)) ∈ L ∧ n ≤ 1000 ∧ (∀ i j, Bd 1900 (g i j)) ∧ ∀ v H', Rp K H' (.sh v (SD (firstS n (shortB g))) :: L) → Q v H'
theorem nub3 (i j k : Nat) : (nub [(i : Int), (j : Int), (k : Int)]).length = 3 ↔ i ≠ j ∧ j ≠ k ∧ i ≠ k := by
  have h := nub_full (ns := [(i : Int), (j : Int), (k : Int)])
  rw [show [(i : Int), (j : Int), (k : Int)].length = 3 from rfl] at h
  rw [h]
  simp only [List.nodup_cons, List.mem_cons, List.not_mem_nil, or_false, not_or, not_false_eq_true, List.nodup_nil, and_true]
  omega
section
variable {P : Program} {w : World} {K : PySem.W.Frag} {mg : Str → Option Value} {base : Heap}
/-- a def by its body, its code object known -/
theorem okC {x qual : Str} {st : Stmt} {f : Addr} {fd : FuncData} {N ps : List Str} {k : Nat} {sp : Sp} (F : Fun K x qual st f fd) (S : FnScope N ps (defScope st)) (len : ∀ vs H Q E, sp vs H Q E → vs.length = ps.length)
    (body : ∀ cdv, PySem.W.codeIn K cdv qual = true → ∀ (A : Around) (outer : List Env) (s : Shared) (H : Hp) (vs : List V) (Q : VK) (E : XK), Room k (A.deeper (envOfC qual (defScope st) s.heap.objs.size f cdv)) → sp vs H Q E →
      ∃ t, PSs (cxOf CX0 P w K mg base N qual (defScope st) f cdv A outer s H E).nox (defBody st) t ∧ t { nx := fun _ H' => Q .non H', rt := Q } (start N vs) H) : FnOk P w K mg base CX0 (k + 1) f fd ps sp := by
  have ⟨_, _, _, _, _, _, cdv, _, _, e, lk, hcd⟩ := F.ex
  subst e
  refine fn_of lk hcd S len fun A outer s H vs Q E hr h => ?_
  have ⟨t, ht, q⟩ := body cdv hcd A outer s H vs Q E hr h
  exact ⟨t, ht.nox, q⟩
theorem ok_first_short {f : Addr} {fd : FuncData} (F : Fun K "first_short" "first_short" s_first_short f fd) (T : Tx K mg) (c_plus : Cal P w K mg base 3 "plus" (sp2F K (fun x y => x + y) fun x y => True) []) (c_is_below : Cal P w K mg base 1 "is_below" (sp_below K) []) : FnOk P w K mg base CX0 4 f fd P_first_short (sp_short K) := by
  refine okC F sc_first_short (fun vs H Q E h => ?_) (fun cdv hcd A outer s H vs Q E hr h => ?_)
  · obtain ⟨_, _, _, _, rfl, _⟩ := h
    rfl
  · obtain ⟨L, x, n, g, rfl, R, hx, hn, bg, q⟩ := h
    refine ⟨_, (pss_cons (ps_set (i := 1) sc_first_short.nd rfl (Or.inl rfl) (pe_callB (k_len (K := K)) (by rfl) T.len_ (by decide +kernel) (pa_cons (pv 0) pa_nil)))
  (pss_cons (ps_for PassesOwn.never rfl (pi_range1 (by rfl) T.range_ (pa_cons (pv 1) pa_nil)) (pg_name (i := 2) sc_first_short.nd rfl (Or.inl rfl))
  (pss_one (ps_for PassesOwn.never rfl (pi_range1 (by rfl) T.range_ (pa_cons (pv 1) pa_nil)) (pg_name (i := 3) sc_first_short.nd rfl (Or.inl rfl))
  (pss_one (ps_for PassesOwn.never rfl (pi_range1 (by rfl) T.range_ (pa_cons (pv 1) pa_nil)) (pg_name (i := 4) sc_first_short.nd rfl (Or.inl rfl))
  (pss_one (ps_if (PW.pt (pw_and (pt_cmpR op_eq (pe_len3 (i := 2) (j := 3) (k := 4) (by rfl) T.len_ (kdsCode_of hcd)) pe_int (nomark _)) (pw_and1 (pt_val (pe_c c_is_below hr (by decide) rfl (pa_cons (pe_c c_plus hr (by decide) rfl (pa_cons (pe_ix (k_ixL (K := K)) (pe_ix (k_ixL (K := K)) (pv 0) (pv 2) (fun _ _ => rfl)) (pv 3) (fun _ _ => rfl)) (pa_cons (pe_ix (k_ixL (K := K)) (pe_ix (k_ixL (K := K)) (pv 0) (pv 3) (fun _ _ => rfl)) (pv 4) (fun _ _ => rfl)) pa_nil))) (pa_cons (pe_ix (k_ixL (K := K)) (pe_ix (k_ixL (K := K)) (pv 0) (pv 2) (fun _ _ => rfl)) (pv 4) (fun _ _ => rfl)) pa_nil)))))))
  (pss_one (ps_ret (pe_tup (pa_cons (pv 2) (pa_cons (pv 3) (pa_cons (pv 4) pa_nil))))))
  pss_nil)))))))
  (pss_one (ps_ret pe_non)))), ?_⟩
    have R := R.shM hx
    obtain ⟨x, rfl⟩ := sh_lst R
    walk_at "goR"
    rw [List.length_map, tabG_len]
    have b4 : ∀ i j, Bd 4000 (g i j) := fun i j => (bg i j).mono (by decide)
    refine g_rng1 (by omega) ?_
    refine loop_range (fun i σ H' => ∃ y2 y3 y4, σ = [some (.ref x), some (.int n), y2, y3, y4] ∧ (∀ i', i' < i → ∀ j k, j < n → k < n → shortB g i' j k = false) ∧ Rp K H' (.sh (.ref x) (TD (tabG n g)) :: L)) ⟨_, _, _, rfl, (fun _ h => by omega), R⟩ ?_ ?_
    · rintro i σ H1 hi ⟨y2, y3, y4, rfl, ni, R⟩
      have hi : i < n := by omega
      walk_at "goR"
      refine g_rng1 (by omega) ?_
      refine loop_range (fun j σ H' => ∃ y3 y4, σ = [some (.ref x), some (.int n), some (.int (0 + i)), y3, y4] ∧ (∀ j', j' < j → ∀ k, k < n → shortB g i j' k = false) ∧ Rp K H' (.sh (.ref x) (TD (tabG n g)) :: L)) ⟨_, _, rfl, (fun _ h => by omega), R⟩ ?_ ?_
      · rintro j σ H2 hj ⟨y3, y4, rfl, nj, R⟩
        have hj : j < n := by omega
        walk_at "goR"
        refine g_rng1 (by omega) ?_
        refine loop_range (fun k σ H' => ∃ y4, σ = [some (.ref x), some (.int n), some (.int (0 + i)), some (.int (0 + j)), y4] ∧ (∀ k', k' < k → shortB g i j k' = false) ∧ Rp K H' (.sh (.ref x) (TD (tabG n g)) :: L)) ⟨_, rfl, (fun _ h => by omega), R⟩ ?_ ?_
        · rintro k σ H3 hk ⟨y4, rfl, nk, R⟩
          have hk : k < n := by omega
          walk_at "goR"
          refine ⟨0 + i, 0 + j, 0 + k, rfl, rfl, rfl, ?_⟩
          rw [Int.zero_add, Int.zero_add, Int.zero_add]
          walk_at "goR"
          refine ifD (fun h3 => ?_) (fun h3 => ?_)
          · have h3 := (nub3 i j k).mp (by omega)
            walk_at "goR"
            refine g_ixM i [] R mem_here (by omega) (by rw [tabG_len]; omega) fun w R => ?_
            obtain ⟨w, rfl⟩ := sh_lst R
            rw [tabG_row hi] at R
            walk_at "goR"
            refine g_ixM j 0 R mem_here (by omega) (by rw [List.length_map, List.length_range]; omega) fun c1 R => ?_
            obtain ⟨c1, rfl⟩ := sh_tup R
            rw [rowF_at hj] at R
            walk_at "goR"
            refine g_ixM j [] R (ws := tabG n g) (f := FL) (by walk_at "mem") (by omega) (by rw [tabG_len]; omega) fun w2 R => ?_
            obtain ⟨w2, rfl⟩ := sh_lst R
            rw [tabG_row hj] at R
            walk_at "goR"
            refine g_ixM k 0 R mem_here (by omega) (by rw [List.length_map, List.length_range]; omega) fun c2 R => ?_
            obtain ⟨c2, rfl⟩ := sh_tup R
            rw [rowF_at hk] at R
            walk_at "goR"
            refine g_plusR R (a := c1) (b := c2) (q := g i j) (r := g j k) (by walk_at "mem") (by walk_at "mem") (b4 i j) (b4 j k) fun c3 H4 R => ?_
            walk_at "goR"
            refine g_ixM i [] R (ws := tabG n g) (f := FL) (a := x) (by walk_at "mem") (by omega) (by rw [tabG_len]; omega) fun w3 R => ?_
            obtain ⟨w3, rfl⟩ := sh_lst R
            rw [tabG_row hi] at R
            walk_at "goR"
            refine g_ixM k 0 R mem_here (by omega) (by rw [List.length_map, List.length_range]; omega) fun c4 R => ?_
            obtain ⟨c4, rfl⟩ := sh_tup R
            rw [rowF_at hk] at R
            walk_at "goR"
            refine g_belowR R (a := c3) (b := c4) (q := g i j + g j k) (r := g i k) (by walk_at "mem") (by walk_at "mem") ((Bd_add (bg i j) (bg j k)).mono (by decide)) (b4 i k) ?_
            walk_at "goR"
            refine ifD (fun h => ?_) (fun h => ?_)
            · have hs : shortB g i j k = true := by
                unfold shortB
                rw [decide_eq_true h3.1, decide_eq_true h3.2.1, decide_eq_true h3.2.2, decide_eq_true h]; rfl
              walk_at "goR"
              refine g_tupIR (ns := [(i : Int), (j : Int), (k : Int)]) R rfl (by simp) fun t nt R => ?_
              have e : firstS n (shortB g) = some (i, j, k) := by
                refine fs_hit (fun i' hi' => ?_) (fs_hit (fun j' hj' => ?_) (fs_hit (fun k' hk' => ?_) ?_ hk) hj) hi
                · exact fs_none.mpr fun j hj => fs_none.mpr fun k hk => by rw [ni i' hi' j k hj hk]; rfl
                · exact fs_none.mpr fun k hk => by rw [nj j' hj' k hk]; rfl
                · rw [nk k' hk']; rfl
                · rw [hs]; rfl
              refine q _ _ ?_
              rw [e]
              exact R.wk (L' := .sh (.ref t) (SD (some (i, j, k))) :: L) (by walk_at "wk1")
            · have hs : shortB g i j k = false := by
                unfold shortB
                rw [decide_eq_false h, Bool.and_false]
              walk_at "goR"
              refine ⟨_, rfl, fun k' hk' => ?_, by walk_at "wk"⟩
              by_cases e : k' = k
              · rw [e]; exact hs
              · exact nk k' (by omega)
          · have h3 : ¬ (i ≠ j ∧ j ≠ k ∧ i ≠ k) := fun z => h3 (by have := (nub3 i j k).mpr z; omega)
            have hs : shortB g i j k = false := by
              unfold shortB
              by_cases a1 : i = j
              · simp [a1]
              · by_cases a2 : j = k
                · simp [a2]
                · have a3 : i = k := by omega
                  simp [a3]
            walk_at "goR"
            refine ⟨_, rfl, fun k' hk' => ?_, by walk_at "wk"⟩
            by_cases e : k' = k
            · rw [e]; exact hs
            · exact nk k' (by omega)
        · rintro σ H3 ⟨y4, rfl, nk, R⟩
          refine ⟨_, _, rfl, fun j' hj' k hk => ?_, R⟩
          by_cases e : j' = j
          · rw [e]; exact nk k (by omega)
          · exact nj j' (by omega) k hk
      · rintro σ H2 ⟨y3, y4, rfl, nj, R⟩
        refine ⟨_, _, _, rfl, fun i' hi' j k hj hk => ?_, R⟩
        by_cases e : i' = i
        · rw [e]; exact nj j (by omega) k hk
        · exact ni i' (by omega) j k hj hk
    · rintro σ H1 ⟨y2, y3, y4, rfl, ni, R⟩
      walk_at "goR"
      refine q _ _ ?_
      have e : firstS n (shortB g) = none := fs_none.mpr fun i hi => fs_none.mpr fun j hj => fs_none.mpr fun k hk => by rw [ni i (by omega) j k hj hk]; rfl
      rw [e]
      exact (R.wk (L' := L) (by walk_at "wk1")).non
end
/-! ### parts of tables, hung tables, as tables by number -/
theorem riseI_eq : ∀ {a b : List Int}, a.Pairwise (· < ·) → b.Pairwise (· < ·) → (∀ x, x ∈ a ↔ x ∈ b) → a = b
  | [], [], _, _, _ => rfl
  | [], y :: b, _, _, h => by have := (h y).mpr (.head _); cases this
  | x :: a, [], _, _, h => by have := (h x).mp (.head _); cases this
  | x :: a, y :: b, h1, h2, h => by
    have ⟨p1, p2⟩ := List.pairwise_cons.mp h1
    have ⟨q1, q2⟩ := List.pairwise_cons.mp h2
    have e : x = y := by
      rcases List.mem_cons.mp ((h x).mp (.head _)) with e | m1
      · exact e
      · rcases List.mem_cons.mp ((h y).mpr (.head _)) with e | m2
        · exact e.symm
        · have := q1 x m1; have := p1 y m2; omega
    subst e
    rw [riseI_eq p2 q2 fun z => ⟨fun hz => ?_, fun hz => ?_⟩]
    · rcases List.mem_cons.mp ((h z).mp (.tail _ hz)) with e | m
      · have := p1 z hz; omega
      · exact m
    · rcases List.mem_cons.mp ((h z).mpr (.tail _ hz)) with e | m
      · have := q1 z hz; omega
      · exact m
theorem partT_tab (g : Nat → Nat → Rat) (ps : List Int) : partT g ps = tabG ps.length fun i j => g (ps.getD i 0).toNat (ps.getD j 0).toNat := by
  unfold partT tabG
  rw [map_getD (fun i : Int => ps.map fun j : Int => g i.toNat j.toNat) 0 ps]
  refine List.map_congr_left fun i _ => ?_
  rw [map_getD (fun j : Int => g (ps.getD i 0).toNat j.toNat) 0 ps]
/-- the other points, by number -/
def oth (to k : Nat) : Nat := if k < to then k else k + 1
theorem oths_tab {m to : Nat} (h : to < m) : oths m (to : Int) = (List.range (m - 1)).map fun k => ((oth to k : Nat) : Int) := by
  refine riseI_eq ((rg_rise m).filter _) ?_ fun z => ?_
  · rw [List.pairwise_map]
    refine List.pairwise_lt_range.imp fun {a b} hab => ?_
    unfold oth
    split <;> split <;> omega
  · rw [oths_mem, List.mem_map]
    constructor
    · rintro ⟨⟨h1, h2⟩, h3⟩
      by_cases c : z < to
      · exact ⟨z.toNat, List.mem_range.mpr (by omega), by unfold oth; rw [if_pos (by omega)]; omega⟩
      · exact ⟨z.toNat - 1, List.mem_range.mpr (by omega), by unfold oth; rw [if_neg (by omega)]; omega⟩
    · rintro ⟨k, hk, rfl⟩
      have := List.mem_range.mp hk
      unfold oth
      split <;> omega
def hungG (n : Nat) (g : Nat → Nat → Rat) (at_ : Nat) (h : Nat → Nat → Rat) (to : Nat) (a b : Nat) : Rat :=
  if a < n then (if b < n then g a b else g a at_ + h (oth to (b - n)) to) else (if b < n then g b at_ + h (oth to (a - n)) to else h (oth to (a - n)) (oth to (b - n)))
theorem range_app (n k : Nat) {α : Type} (f : Nat → α) : (List.range (n + k)).map f = (List.range n).map f ++ (List.range k).map fun i => f (n + i) := by
  rw [List.range_add, List.map_append, List.map_map]; rfl
theorem hungT_tab {n m at_ to : Nat} {g h : Nat → Nat → Rat} (ht : to < m) : hungT n g (at_ : Int) m h (to : Int) = tabG (n + (m - 1)) (hungG n g at_ h to) := by
  unfold hungT tabG
  rw [oths_tab ht, range_app, List.map_map]
  congr 1
  · refine List.map_congr_left fun i hi => ?_
    have hi := List.mem_range.mp hi
    rw [range_app, List.map_map]
    congr 1
    · refine List.map_congr_left fun j hj => ?_
      have hj := List.mem_range.mp hj
      unfold hungG
      rw [if_pos hi, if_pos hj]
    · refine List.map_congr_left fun j hj => ?_
      unfold hungG
      rw [if_pos hi, if_neg (by omega), show n + j - n = j by omega]
      rfl
  · refine List.map_congr_left fun p hp => ?_
    show ((List.range n).map fun i => g i (at_ : Int).toNat + h ((oth to p : Nat) : Int).toNat (to : Int).toNat) ++ ((List.range (m - 1)).map fun k => ((oth to k : Nat) : Int)).map (fun q => h ((oth to p : Nat) : Int).toNat q.toNat) = _
    rw [range_app, List.map_map]
    congr 1
    · refine List.map_congr_left fun j hj => ?_
      have hj := List.mem_range.mp hj
      unfold hungG
      rw [if_neg (by omega), if_pos hj, show n + p - n = p by omega]
      rfl
    · refine List.map_congr_left fun j hj => ?_
      unfold hungG
      rw [if_neg (by omega), if_neg (by omega), show n + p - n = p by omega, show n + j - n = j by omega]
      rfl
/-- where the other one's points are -/
def posn (n at_ to p : Nat) : Nat := if p < to then n + p else if p = to then at_ else n + (p - 1)
theorem oth_pos {n at_ to p : Nat} (h : p ≠ to) : posn n at_ to p ≥ n ∧ oth to (posn n at_ to p - n) = p := by
  unfold posn
  by_cases c : p < to
  · rw [if_pos c]
    refine ⟨by omega, ?_⟩
    unfold oth
    rw [if_pos (by omega)]; omega
  · rw [if_neg c, if_neg h]
    refine ⟨by omega, ?_⟩
    unfold oth
    rw [if_neg (by omega)]; omega
theorem pos_to {n at_ to : Nat} : posn n at_ to to = at_ := by
  unfold posn
  rw [if_neg (by omega), if_pos rfl]
theorem hungG_pp {n at_ to : Nat} {g h : Nat → Nat → Rat} (ha : at_ < n) (gz : ∀ i, g i i = 0) (hs : ∀ i j, h i j = h j i) (hz : ∀ i, h i i = 0) (p q : Nat) : hungG n g at_ h to (posn n at_ to p) (posn n at_ to q) = h p q := by
  by_cases c1 : p = to
  · subst c1
    rw [pos_to]
    by_cases c2 : q = p
    · subst c2
      rw [pos_to]
      unfold hungG
      rw [if_pos ha, if_pos ha, gz, hz]
    · obtain ⟨h1, h2⟩ := oth_pos (n := n) (at_ := at_) c2
      unfold hungG
      rw [if_pos ha, if_neg (by omega), h2, gz, Rat.zero_add, hs]
  · obtain ⟨h1, h2⟩ := oth_pos (n := n) (at_ := at_) c1
    by_cases c2 : q = to
    · subst c2
      rw [pos_to]
      unfold hungG
      rw [if_neg (by omega), if_pos ha, h2, gz, Rat.zero_add]
    · obtain ⟨h3, h4⟩ := oth_pos (n := n) (at_ := at_) c2
      unfold hungG
      rw [if_neg (by omega), if_neg (by omega), h2, h4]
theorem hungG_pl {n at_ to : Nat} {g h : Nat → Nat → Rat} (ha : at_ < n) (gs : ∀ i j, g i j = g j i) (hz : ∀ i, h i i = 0) (p : Nat) {b : Nat} (hb : b < n) : hungG n g at_ h to (posn n at_ to p) b = g b at_ + h p to := by
  by_cases c1 : p = to
  · subst c1
    rw [pos_to, hz, Rat.add_zero]
    unfold hungG
    rw [if_pos ha, if_pos hb, gs]
  · obtain ⟨h1, h2⟩ := oth_pos (n := n) (at_ := at_) c1
    unfold hungG
    rw [if_neg (by omega), if_pos hb, h2]
theorem hungG_sy {n at_ to : Nat} {g h : Nat → Nat → Rat} (gs : ∀ i j, g i j = g j i) (hs : ∀ i j, h i j = h j i) (a b : Nat) : hungG n g at_ h to a b = hungG n g at_ h to b a := by
  unfold hungG
  by_cases c1 : a < n <;> by_cases c2 : b < n
  · rw [if_pos c1, if_pos c2, if_pos c2, if_pos c1, gs]
  · rw [if_pos c1, if_neg c2, if_neg c2, if_pos c1]
  · rw [if_neg c1, if_pos c2, if_pos c2, if_neg c1]
  · rw [if_neg c1, if_neg c2, if_neg c2, if_neg c1, hs]
theorem hungG_di {n at_ to : Nat} {g h : Nat → Nat → Rat} (gz : ∀ i, g i i = 0) (hz : ∀ i, h i i = 0) (a : Nat) : hungG n g at_ h to a a = 0 := by
  unfold hungG
  by_cases c1 : a < n
  · rw [if_pos c1, if_pos c1, gz]
  · rw [if_neg c1, if_neg c1, hz]
theorem hungG_po {n at_ to : Nat} {g h : Nat → Nat → Rat} (gp : ∀ i j, 0 ≤ g i j) (hp : ∀ i j, 0 ≤ h i j) (a b : Nat) : 0 ≤ hungG n g at_ h to a b := by
  unfold hungG
  by_cases c1 : a < n <;> by_cases c2 : b < n
  · rw [if_pos c1, if_pos c2]; exact gp _ _
  · rw [if_pos c1, if_neg c2]; exact Rat.add_nonneg (gp _ _) (hp _ _)
  · rw [if_neg c1, if_pos c2]; exact Rat.add_nonneg (gp _ _) (hp _ _)
  · rw [if_neg c1, if_neg c2]; exact hp _ _
theorem hungG_bd {n at_ to N : Nat} {g h : Nat → Nat → Rat} (gb : ∀ i j, Bd N (g i j)) (hb : ∀ i j, Bd N (h i j)) (a b : Nat) : Bd (N + N + 1) (hungG n g at_ h to a b) := by
  unfold hungG
  by_cases c1 : a < n <;> by_cases c2 : b < n
  · rw [if_pos c1, if_pos c2]; exact (gb _ _).mono (by omega)
  · rw [if_pos c1, if_neg c2]; exact Bd_add (gb _ _) (hb _ _)
  · rw [if_neg c1, if_pos c2]; exact Bd_add (gb _ _) (hb _ _)
  · rw [if_neg c1, if_neg c2]; exact (hb _ _).mono (by omega)
/-- the triangles -/
def TriR (n : Nat) (g : Nat → Nat → Rat) : Prop := ∀ i j k, i < n → j < n → k < n → g i j ≤ g i k + g k j
theorem long_iffR {n : Nat} {g : Nat → Nat → Rat} (di : ∀ i, g i i = 0) (po : ∀ i j, 0 ≤ g i j) : firstS n (shortB g) = none ↔ TriR n g := by
  constructor
  · intro h i j k hi hj hk
    by_cases c1 : i = k
    · subst c1; rw [di i, Rat.zero_add]; exact Rat.le_refl
    by_cases c2 : k = j
    · subst c2; rw [di k, Rat.add_zero]; exact Rat.le_refl
    by_cases c3 : i = j
    · subst c3; rw [di i]; exact Rat.add_nonneg (po _ _) (po _ _)
    unfold firstS at h
    have h1 := fs_none.mp (fs_none.mp (fs_none.mp h i hi) k hk) j hj
    by_cases c : shortB g i k j = true
    · rw [if_pos c] at h1; cases h1
    · unfold shortB at c
      rw [decide_eq_true c1, decide_eq_true c2, decide_eq_true c3, Bool.true_and, Bool.true_and, Bool.true_and, decide_eq_true_eq] at c
      exact Rat.not_lt.mp c
  · intro h
    unfold firstS
    refine fs_none.mpr fun i hi => fs_none.mpr fun j hj => fs_none.mpr fun k hk => ?_
    have e : shortB g i j k = false := by
      unfold shortB
      rw [decide_eq_false (Rat.not_lt.mpr (h i k j hi hk hj)), Bool.and_false]
    rw [e]; rfl
theorem hung_tri {n m at_ to : Nat} {g h : Nat → Nat → Rat} (ha : at_ < n) (ht : to < m) (gs : ∀ i j, g i j = g j i) (gz : ∀ i, g i i = 0) (gp : ∀ i j, 0 ≤ g i j) (hs : ∀ i j, h i j = h j i) (hz : ∀ i, h i i = 0) (hp : ∀ i j, 0 ≤ h i j) :
    TriR (n + (m - 1)) (hungG n g at_ h to) ↔ TriR n g ∧ TriR m h := by
  constructor
  · intro t
    constructor
    · intro i j k hi hj hk
      have := t i j k (by omega) (by omega) (by omega)
      unfold hungG at this
      rw [if_pos hi, if_pos hj, if_pos hi, if_pos hk, if_pos hk, if_pos hj] at this
      exact this
    · intro i j k hi hj hk
      have pl : ∀ p, p < m → posn n at_ to p < n + (m - 1) := fun p hp => by
        unfold posn
        split
        · omega
        · split <;> omega
      have := t _ _ _ (pl i hi) (pl j hj) (pl k hk)
      rw [hungG_pp ha gz hs hz, hungG_pp ha gz hs hz, hungG_pp ha gz hs hz] at this
      exact this
  · rintro ⟨t1, t2⟩ i j k hi hj hk
    have ol : ∀ a, a < n + (m - 1) → ¬ a < n → oth to (a - n) < m := fun a h1 h2 => by
      unfold oth; split <;> omega
    by_cases c1 : i < n <;> by_cases c2 : j < n <;> by_cases c3 : k < n <;> unfold hungG <;> simp only [c1, c2, c3, if_true, if_false]
    · exact t1 i j k c1 c2 c3
    · have := t1 i j at_ c1 c2 ha
      have := hp (oth to (k - n)) to
      have := gs j at_
      grind
    · have := t1 i at_ k c1 ha c3
      grind
    · have := t2 (oth to (j - n)) to (oth to (k - n)) (ol j hj c2) ht (ol k hk c3)
      have := hs (oth to (j - n)) (oth to (k - n))
      grind
    · have := t1 j at_ k c2 ha c3
      have := gs j k
      grind
    · have := t2 (oth to (i - n)) to (oth to (k - n)) (ol i hi c1) ht (ol k hk c3)
      grind
    · have := t2 (oth to (i - n)) (oth to (j - n)) to (ol i hi c1) (ol j hj c2) ht
      have := gp k at_
      have := hs to (oth to (j - n))
      grind
    · exact t2 _ _ _ (ol i hi c1) (ol j hj c2) (ol k hk c3)
theorem rg_app (n : Int) (a b : Nat) : rg n (a + b) = rg n a ++ rg (n + a) b := by
  unfold rg
  rw [range_app]
  congr 1
  refine List.map_congr_left fun i _ => ?_
  omega
theorem there_eq {n m at_ to : Nat} (ht : to < m) : ((rg (n : Int) (m - 1)).take to ++ [(at_ : Int)]) ++ (rg (n : Int) (m - 1)).drop to = (List.range m).map fun p => ((posn n at_ to p : Nat) : Int) := by
  obtain ⟨k, hk⟩ : ∃ k, m = to + (1 + k) := ⟨m - 1 - to, by omega⟩
  subst hk
  rw [show to + (1 + k) - 1 = to + k by omega, rg_app, List.take_left' (by rw [rg_len]), List.drop_left' (by rw [rg_len]), range_app to (1 + k), range_app 1 k, List.append_assoc]
  congr 1
  · unfold rg
    refine List.map_congr_left fun i hi => ?_
    have := List.mem_range.mp hi
    unfold posn
    rw [if_pos (by omega)]; omega
  · congr 1
    · show [(at_ : Int)] = [((posn n at_ to (to + 0) : Nat) : Int)]
      rw [Nat.add_zero, pos_to]
    · unfold rg
      refine List.map_congr_left fun i hi => ?_
      unfold posn
      rw [if_neg (by omega), if_neg (by omega)]; omega
theorem posn_cases (n at_ to k : Nat) : (k < to ∧ posn n at_ to k = n + k) ∨ (k = to ∧ posn n at_ to k = at_) ∨ (to < k ∧ posn n at_ to k = n + (k - 1)) := by
  unfold posn
  by_cases c : k < to
  · exact .inl ⟨c, if_pos c⟩
  · by_cases c2 : k = to
    · exact .inr (.inl ⟨c2, by rw [if_neg c, if_pos c2]⟩)
    · exact .inr (.inr ⟨by omega, by rw [if_neg c, if_neg c2]⟩)
theorem there_pts {n m at_ to : Nat} (ha : at_ < n) (ht : to < m) : PtsOk (n + (m - 1)) ((List.range m).map fun p => ((posn n at_ to p : Nat) : Int)) := by
  refine ⟨fun e => ?_, ?_, fun p hp => ?_⟩
  · have := congrArg List.length e
    simp at this; omega
  · refine List.Pairwise.map _ ?_ (List.nodup_range.imp_of_mem (fun {a b} ha hb hab => (⟨List.mem_range.mp ha, List.mem_range.mp hb, hab⟩ : a < m ∧ b < m ∧ a ≠ b)))
    rintro a b ⟨h1, h2, h3⟩ e
    have e : posn n at_ to a = posn n at_ to b := by omega
    rcases posn_cases n at_ to a with ⟨c1, e1⟩ | ⟨c1, e1⟩ | ⟨c1, e1⟩ <;> rcases posn_cases n at_ to b with ⟨c2, e2⟩ | ⟨c2, e2⟩ | ⟨c2, e2⟩ <;> omega
  · obtain ⟨i, hi, rfl⟩ := List.mem_map.mp hp
    have := List.mem_range.mp hi
    have h : posn n at_ to i < n + (m - 1) := by
      unfold posn
      split
      · omega
      · split <;> omega
    unfold isPt
    rw [decide_eq_true (by omega), decide_eq_true (by omega)]; rfl
theorem all_pts {n m at_ to : Nat} (ha : at_ < n) (ht : to < m) : PtsOk (n + (m - 1)) (((List.range m).map fun p => ((posn n at_ to p : Nat) : Int)) ++ oths n (at_ : Int)) := by
  obtain ⟨h1, h2, h3⟩ := there_pts (n := n) (at_ := at_) ha ht
  refine ⟨fun e => h1 (List.append_eq_nil_iff.mp e).1, List.nodup_append.mpr ⟨h2, ?_, fun a ha' b hb e => ?_⟩, fun p hp => ?_⟩
  · exact ((rg_rise n).filter _).imp fun h => by omega
  · subst e
    obtain ⟨i, hi, e⟩ := List.mem_map.mp ha'
    have ho := oths_mem.mp hb
    unfold posn at e
    split at e
    · omega
    · split at e <;> omega
  · rcases List.mem_append.mp hp with hp | hp
    · exact h3 p hp
    · have ho := oths_mem.mp hp
      unfold isPt
      rw [decide_eq_true (by omega), decide_eq_true (by omega)]; rfl
theorem first_pts {n N : Nat} (hn : 1 ≤ n) (h : n ≤ N) : PtsOk N (rg 0 n) := by
  refine ⟨fun e => ?_, (rg_rise n).imp fun h => by omega, fun p hp => ?_⟩
  · have := congrArg List.length e
    rw [rg_len] at this
    simp at this; omega
  · have := rg_mem.mp hp
    unfold isPt
    rw [decide_eq_true (by omega), decide_eq_true (by omega)]; rfl
theorem part_first {n : Nat} {g : Nat → Nat → Rat} {at_ to : Nat} {h : Nat → Nat → Rat} : partT (hungG n g at_ h to) (rg 0 n) = tabG n g := by
  rw [partT_tab, rg_len]
  refine tabG_congr fun i j hi hj => ?_
  have e : ∀ k, k < n → ((rg 0 n).getD k 0).toNat = k := fun k hk => by
    unfold rg
    rw [rowF_at hk]; omega
  rw [e i hi, e j hj]
  unfold hungG
  rw [if_pos hi, if_pos hj]
theorem part_there {n m at_ to : Nat} {g h : Nat → Nat → Rat} (ha : at_ < n) (gz : ∀ i, g i i = 0) (hs : ∀ i j, h i j = h j i) (hz : ∀ i, h i i = 0) : partT (hungG n g at_ h to) ((List.range m).map fun p => ((posn n at_ to p : Nat) : Int)) = tabG m h := by
  rw [partT_tab, List.length_map, List.length_range]
  refine tabG_congr fun i j hi hj => ?_
  rw [rowF_at hi, rowF_at hj, Int.toNat_natCast, Int.toNat_natCast, hungG_pp ha gz hs hz]
theorem part_all {n m at_ to : Nat} {g h : Nat → Nat → Rat} (ha : at_ < n) (ht : to < m) (gs : ∀ i j, g i j = g j i) (gz : ∀ i, g i i = 0) (hs : ∀ i j, h i j = h j i) (hz : ∀ i, h i i = 0) :
    partT (hungG n g at_ h to) (((List.range m).map fun p => ((posn n at_ to p : Nat) : Int)) ++ oths n (at_ : Int)) = hungT m h (to : Int) n g (at_ : Int) := by
  rw [partT_tab, hungT_tab ha, oths_tab ha, List.length_append, List.length_map, List.length_map, List.length_range, List.length_range]
  have e1 : ∀ k, k < m → ((((List.range m).map fun p => ((posn n at_ to p : Nat) : Int)) ++ (List.range (n - 1)).map fun k => ((oth at_ k : Nat) : Int)).getD k 0).toNat = posn n at_ to k := fun k hk => by
    rw [List.getD_eq_getElem?_getD, List.getElem?_append_left (by simpa using hk), ← List.getD_eq_getElem?_getD, rowF_at hk, Int.toNat_natCast]
  have e2 : ∀ k, ¬ k < m → k < m + (n - 1) → ((((List.range m).map fun p => ((posn n at_ to p : Nat) : Int)) ++ (List.range (n - 1)).map fun k => ((oth at_ k : Nat) : Int)).getD k 0).toNat = oth at_ (k - m) := fun k hk hk2 => by
    rw [List.getD_eq_getElem?_getD, List.getElem?_append_right (by simpa using hk), List.length_map, List.length_range, ← List.getD_eq_getElem?_getD, rowF_at (by omega), Int.toNat_natCast]
  have ol : ∀ k, ¬ k < m → k < m + (n - 1) → oth at_ (k - m) < n := fun k h1 h2 => by unfold oth; split <;> omega
  refine tabG_congr fun i j hi hj => ?_
  by_cases c1 : i < m <;> by_cases c2 : j < m
  · rw [e1 i c1, e1 j c2, hungG_pp ha gz hs hz]
    unfold hungG
    rw [if_pos c1, if_pos c2]
  · rw [e1 i c1, e2 j c2 hj, hungG_pl ha gs hz _ (ol j c2 hj)]
    unfold hungG
    rw [if_pos c1, if_neg c2, Rat.add_comm]
  · rw [e2 i c1 hi, e1 j c2, hungG_sy gs hs, hungG_pl ha gs hz _ (ol i c1 hi)]
    unfold hungG
    rw [if_neg c1, if_pos c2, Rat.add_comm]
  · rw [e2 i c1 hi, e2 j c2 hj]
    unfold hungG
    rw [if_pos (ol i c1 hi), if_pos (ol j c2 hj), if_neg c1, if_neg c2]
theorem g_isSD {K : PySem.W.Frag} {H : Hp} {Q : VK} {L : List Fc.It} {v : V} {o : Option (Nat × Nat × Nat)} (R : Rp K H (.sh v (SD o) :: L)) (q : Q (.bl o.isNone) H) : rIsN v .non H Q := by
  cases o with
  | none =>
    obtain rfl := sh_non R
    exact ⟨rfl, q⟩
  | some t =>
    obtain ⟨i, j, k⟩ := t
    obtain ⟨v, rfl⟩ := sh_tup R
    exact ⟨rfl, q⟩
section
variable {P : Program} {w : World} {K : PySem.W.Frag} {mg : Str → Option Value} {base : Heap}
def sp_iswhole : Sp := fun vs H Q _ => ∃ i : Int, vs = [.int i] ∧ Q (.bl true) H
theorem ok_is_whole {f : Addr} {fd : FuncData} (F : Fun K "is_whole" "is_whole" s_is_whole f fd) (T : Tx K mg) : FnOk P w K mg base CX0 1 f fd P_is_whole sp_iswhole := by
  refine F.ok sc_is_whole (fun vs H Q E h => ?_) (fun cdv A outer s H vs Q E hr h => ?_)
  · obtain ⟨_, rfl, _⟩ := h
    rfl
  · obtain ⟨i, rfl, q⟩ := h
    refine ⟨_, (pss_one (ps_ret (pe_and (pe_callB (k_isi (K := K)) (by rfl) T.isinstance_ (by decide +kernel) (pa_cons (pv 0) (pa_cons (pe_bltn (v := .ty "int") (by rfl) T.int_ (by decide +kernel) rfl) pa_nil))) (pe_one (pe_not (pe_callB (k_isi (K := K)) (by rfl) T.isinstance_ (by decide +kernel) (pa_cons (pv 0) (pa_cons (pe_bltn (v := .ty "bool") (by rfl) T.bool_ (by decide +kernel) rfl) pa_nil)))))))), ?_⟩
    walk_at "goR"
    first | exact q | (refine ifY_known rfl ?_; walk_at "goR"; exact q)
def sp_isfrac (K : PySem.W.Frag) : Sp := fun vs H Q _ => ∃ (L : List Fc.It) (a : Addr) (x : Rat), vs = [.ref a] ∧ Rp K H L ∧ Fc.It.sh (.ref a) (FD x) ∈ L ∧ ∀ H', Rp K H' L → Q (.bl true) H'
theorem ok_is_fraction {f : Addr} {fd : FuncData} (F : Fun K "is_fraction" "is_fraction" s_is_fraction f fd) (T : Tx K mg) (c_common_of : Cal P w K mg base 1 "common_of" sp_common []) (c_is_whole : Cal P w K mg base 1 "is_whole" sp_iswhole []) : FnOk P w K mg base CX0 2 f fd P_is_fraction (sp_isfrac K) := by
  refine F.ok sc_is_fraction (fun vs H Q E h => ?_) (fun cdv A outer s H vs Q E hr h => ?_)
  · obtain ⟨_, _, _, rfl, _⟩ := h
    rfl
  · obtain ⟨L, a, x, rfl, R, hx, q⟩ := h
    refine ⟨_, (pss_cons (ps_if (PW.pt (pw_or (pt_not (pt_val (pe_callB (k_isi (K := K)) (by rfl) T.isinstance_ (by decide +kernel) (pa_cons (pv 0) (pa_cons (pe_bltn (v := .ty "tuple") (by rfl) T.tuple_ (by decide +kernel) rfl) pa_nil))))) (pw_or (pt_cmpR op_ne (pe_callB (k_len (K := K)) (by rfl) T.len_ (by decide +kernel) (pa_cons (pv 0) pa_nil)) pe_int (nomark _)) (pw_or (pt_not (pt_val (pe_c c_is_whole hr (by decide) rfl (pa_cons (pe_ix (k_ixT (K := K)) (pv 0) pe_int (fun _ _ => rfl)) pa_nil)))) (pw_or1 (pt_not (pt_val (pe_c c_is_whole hr (by decide) rfl (pa_cons (pe_ix (k_ixT (K := K)) (pv 0) pe_int (fun _ _ => rfl)) pa_nil)))))))))
  (pss_one (ps_ret pe_bl))
  pss_nil)
  (pss_one (ps_ret (pe_and (pe_cmpR op_gt (pe_ix (k_ixT (K := K)) (pv 0) pe_int (fun _ _ => rfl)) pe_int (nomark _)) (pe_one (pe_cmpR op_eq (pe_c c_common_of hr (by decide) rfl (pa_cons (pe_ix (k_ixT (K := K)) (pv 0) pe_int (fun _ _ => rfl)) (pa_cons (pe_ix (k_ixT (K := K)) (pv 0) pe_int (fun _ _ => rfl)) pa_nil))) pe_int (nomark _))))))), ?_⟩
    have dx := den_pos' x
    walk_at "goR"
    refine g_isiTR R hx ?_
    walk_at "goR"
    refine g_lenTS R hx ?_
    walk_at "goR"
    refine ifN_known rfl ?_
    walk_at "goR"
    refine g_ixTI (k := 0) R (a := a) (ds := [.int x.num, .int (x.den : Int)]) hx rfl rfl ?_
    walk_at "goR"
    refine ⟨_, rfl, ?_⟩
    walk_at "goR"
    refine g_ixTI (k := 1) R (a := a) (ds := [.int x.num, .int (x.den : Int)]) hx rfl rfl ?_
    walk_at "goR"
    refine ⟨_, rfl, ?_⟩
    walk_at "goR"
    refine g_ixTI (k := 1) R (a := a) (ds := [.int x.num, .int (x.den : Int)]) hx rfl rfl ?_
    walk_at "goR"
    refine ifY_known (by omega) ?_
    walk_at "goR"
    refine g_ixTI (k := 0) R (a := a) (ds := [.int x.num, .int (x.den : Int)]) hx rfl rfl ?_
    walk_at "goR"
    refine g_ixTI (k := 1) R (a := a) (ds := [.int x.num, .int (x.den : Int)]) hx rfl rfl ?_
    walk_at "goR"
    refine ⟨_, _, rfl, ?_⟩
    walk_at "goR"
    have e : Int.gcd x.num (x.den : Int) = 1 := by
      rw [Int.gcd_eq_natAbs_gcd_natAbs, Int.natAbs_natCast]
      exact x.reduced
    rw [e]
    exact q _ R
/-- a table it is -/
def sp_istab (K : PySem.W.Frag) : Sp := fun vs H Q _ => ∃ (L : List Fc.It) (x : V) (n : Nat) (g : Nat → Nat → Rat), vs = [x] ∧ Rp K H L ∧ Fc.It.sh x (TD (tabG n g)) ∈ L ∧ 1 ≤ n ∧ n ≤ 1000 ∧ (∀ i j, g i j = g j i) ∧ (∀ i, g i i = 0) ∧ (∀ i j, 0 ≤ g i j) ∧ ∀ H', Rp K H' L → Q (.bl true) H'
theorem ok_is_table {f : Addr} {fd : FuncData} (F : Fun K "is_table" "is_table" s_is_table f fd) (T : Tx K mg) (c_is_fraction : Cal P w K mg base 2 "is_fraction" (sp_isfrac K) []) : FnOk P w K mg base CX0 3 f fd P_is_table (sp_istab K) := by
  obtain ⟨a_NOUGHT, g_NOUGHT, t_NOUGHT⟩ := T.c_NOUGHT
  refine F.ok sc_is_table (fun vs H Q E h => ?_) (fun cdv A outer s H vs Q E hr h => ?_)
  · obtain ⟨_, _, _, _, rfl, _⟩ := h
    rfl
  · obtain ⟨L, x, n, g, rfl, R, hx, hn1, hn, sy, di, po, q⟩ := h
    refine ⟨_, (pss_cons (ps_if (PW.pt (pw_or (pt_not (pt_val (pe_callB (k_isi (K := K)) (by rfl) T.isinstance_ (by decide +kernel) (pa_cons (pv 0) (pa_cons (pe_bltn (v := .ty "list") (by rfl) T.list_ (by decide +kernel) rfl) pa_nil))))) (pw_or1 (pt_cmpR (k_eqD (K := K) hr.units) (pv 0) (pe_lst pa_nil) (nomark _)))))
  (pss_one (ps_ret pe_bl))
  pss_nil)
  (pss_cons (ps_for PassesOwn.never rfl (k_piL (K := K) (pv 0)) (pg_name (i := 1) sc_is_table.nd rfl (Or.inl rfl))
  (pss_cons (ps_if (PW.pt (pw_or (pt_not (pt_val (pe_callB (k_isi (K := K)) (by rfl) T.isinstance_ (by decide +kernel) (pa_cons (pv 1) (pa_cons (pe_bltn (v := .ty "list") (by rfl) T.list_ (by decide +kernel) rfl) pa_nil))))) (pw_or1 (pt_cmpR op_ne (pe_callB (k_len (K := K)) (by rfl) T.len_ (by decide +kernel) (pa_cons (pv 1) pa_nil)) (pe_callB (k_len (K := K)) (by rfl) T.len_ (by decide +kernel) (pa_cons (pv 0) pa_nil)) (nomark _)))))
  (pss_one (ps_ret pe_bl))
  pss_nil)
  (pss_one (ps_if (pt_cmpR (k_neD (K := K) hr.units) (pe_lc (own := [("one", 2)]) (g := gName 2) rfl sc_is_table.nd (k_piL (K := K) (pv 1)) (blkOk_by (own := [("one", 2)]) (N := N_is_table) (sc := defScope s_is_table) (by decide +kernel)) (fun _ _ _ _ _ => (pg_name (i := 2) sc_is_table.nd rfl (Or.inl rfl))) (fun _ _ _ _ _ => (pts_one (PW.pt (pw_or (pt_not (pt_val (pe_c c_is_fraction hr (by decide) rfl (pa_cons (pv 2) pa_nil)))) (pw_or1 (pt_cmpR op_lt (pe_ix (k_ixT (K := K)) (pv 2) pe_int (fun _ _ => rfl)) pe_int (nomark _))))))) (fun _ _ _ _ _ => (pv 2))) (pe_lst pa_nil) (nomark _))
  (pss_one (ps_ret pe_bl))
  pss_nil))))
  (pss_cons (ps_for PassesOwn.never rfl (pi_range1 (by rfl) T.range_ (pa_cons (pe_callB (k_len (K := K)) (by rfl) T.len_ (by decide +kernel) (pa_cons (pv 0) pa_nil)) pa_nil)) (pg_name (i := 3) sc_is_table.nd rfl (Or.inr rfl))
  (pss_one (ps_if (PW.pt (pw_or (pt_cmpR (k_neD (K := K) hr.units) (pe_ix (k_ixL (K := K)) (pe_ix (k_ixL (K := K)) (pv 0) (pv 3) (fun _ _ => rfl)) (pv 3) (fun _ _ => rfl)) (pe_glob (v := .ref a_NOUGHT) rfl g_NOUGHT rfl) (nomark _)) (pw_or1 (pt_cmpR (k_neD (K := K) hr.units) (pe_lc (own := [("j", 4)]) (g := gName 4) rfl sc_is_table.nd (pi_range1 (by rfl) T.range_ (pa_cons (pv 3) pa_nil)) (blkOk_by (own := [("j", 4)]) (N := N_is_table) (sc := defScope s_is_table) (by decide +kernel)) (fun _ _ _ _ _ => (pg_name (i := 4) sc_is_table.nd rfl (Or.inl rfl))) (fun _ _ _ _ _ => (pts_one (pt_cmpR (k_neD (K := K) hr.units) (pe_ix (k_ixL (K := K)) (pe_ix (k_ixL (K := K)) (pv 0) (pv 3) (fun _ _ => rfl)) (pv 4) (fun _ _ => rfl)) (pe_ix (k_ixL (K := K)) (pe_ix (k_ixL (K := K)) (pv 0) (pv 4) (fun _ _ => rfl)) (pv 3) (fun _ _ => rfl)) (nomark _)))) (fun _ _ _ _ _ => (pv 4))) (pe_lst pa_nil) (nomark _)))))
  (pss_one (ps_ret pe_bl))
  pss_nil)))
  (pss_one (ps_ret pe_bl))))), ?_⟩
    obtain ⟨x, rfl⟩ := R.ref hx
    walk_at "goR"
    refine g_isiLR R hx ?_
    walk_at "goR"
    refine g_l0R .lf R fun e0 ne0 R => ?_
    generalize upd H e0 _ = H1 at R ⊢
    walk_at "goR"
    refine g_eqNR R (x := .ref x) (y := .ref e0) (.tail _ hx) mem_here Sh.td.ok ?_
    have ne : ¬ ((tabG n g).map FL = []) := fun e => by
      have := congrArg List.length e
      rw [List.length_map, tabG_len] at this
      simp at this; omega
    walk_at "goR"
    refine ifY_no ne ?_
    have R := R.tail
    walk_at "goR"
    have R := R.shM hx
    obtain ⟨_, xs, e, lx, _, R⟩ := R.sv (v := .ref x) (ds := (tabG n g).map FL) mem_here
    cases e
    rw [List.length_map, tabG_len] at lx
    have R : Rp K H1 (.sh (.ref x) (TD (tabG n g)) :: .ps (Sv K x xs ((tabG n g).map FL)) :: L) := R.wk (by walk_at "wk1")
    refine g_ilR (R.svL (by walk_at "mem")) ?_
    have rowG : ∀ {i : Nat}, i < n → (tabG n g)[i]? = some ((List.range n).map (g i)) := fun hi => by
      unfold tabG
      rw [List.getElem?_map, List.getElem?_range hi]; rfl
    refine loop_list (K := K) (a := x) (xs := xs) (fun i σ H' => ∃ y1 y2 y3 y4, σ = [some (.ref x), y1, y2, y3, y4] ∧ Rp K H' (.sh (.ref x) (TD (tabG n g)) :: .ps (Sv K x xs ((tabG n g).map FL)) :: L)) ⟨_, _, _, _, rfl, R⟩ (fun i σ H' _ ⟨_, _, _, _, _, R⟩ => R.svL (by walk_at "mem")) ?_ ?_
    · clear R
      rintro i v σ H2 hv ⟨y1, y2, y3, y4, rfl, R⟩
      have hi : i < n := by rw [← lx]; exact (List.getElem?_eq_some_iff.mp hv).1
      have R := R.svAt (by walk_at "mem") hv (d := FL ((List.range n).map (g i))) (by rw [List.getElem?_map, rowG hi]; rfl)
      obtain ⟨v, rfl⟩ := sh_lst R
      walk_at "goR"
      rw [List.length_map, List.length_map, List.length_range, List.length_map, tabG_len]
      refine ifN_known rfl ?_
      walk_at "goR"
      obtain ⟨_, zs, e, lz, _, R⟩ := R.sv (v := .ref v) mem_here
      cases e
      rw [List.length_map, List.length_map, List.length_range] at lz
      refine g_ilR (R.svL mem_here) ?_
      have R := R.wk (L' := .ps (Sv K v zs (((List.range n).map (g i)).map FD)) :: .sh (.ref x) (TD (tabG n g)) :: .ps (Sv K x xs ((tabG n g).map FL)) :: L) (by walk_at "wk1")
      intro C nC
      refine lco_list (xs := zs) .lf (fun j ds L' => ds = [] ∧ L' = .ps (Sv K v zs (((List.range n).map (g i)).map FD)) :: .sh (.ref x) (TD (tabG n g)) :: .ps (Sv K x xs ((tabG n g).map FL)) :: L) R nC ⟨rfl, rfl⟩ (by omega) ?_ ?_ ?_
      · rintro j ds L' X H3 ⟨rfl, rfl⟩ R
        exact R.svL (by walk_at "mem")
      · rintro j u ds L' X H3 hu ⟨rfl, rfl⟩ R Qy Qn q1 q2
        have hj : j < n := by rw [← lz]; exact (List.getElem?_eq_some_iff.mp hu).1
        have R := R.svAt (by walk_at "mem") hu (d := FD (g i j)) (by rw [List.getElem?_map, List.getElem?_map, List.getElem?_range hj]; rfl)
        obtain ⟨u, rfl⟩ := sh_tup R
        walk_at "goR"
        refine ⟨rfl, ?_⟩
        walk_at "goR"
        refine ⟨_, u, g i j, rfl, R, mem_here, fun H4 R => ?_⟩
        walk_at "goR"
        refine g_ixTI (k := 0) R (a := u) (ds := [.int (g i j).num, .int ((g i j).den : Int)]) mem_here rfl rfl ?_
        walk_at "goR"
        have := Rat.num_nonneg.mpr (po i j)
        refine ifY_no (by omega) ?_
        exact q2 _ _ ⟨rfl, rfl⟩ R.tail
      · rintro ds L' H3 ⟨rfl, rfl⟩ R
        have R : Rp K H3 (.ow oI (.ref C) (IL []) :: _) := R
        walk_at "goR"
        refine g_l0R .lf R fun e1 ne1 R => ?_
        generalize upd H3 e1 _ = H4 at R ⊢
        walk_at "goR"
        refine ifN_known rfl ?_
        walk_at "goR"
        exact ⟨_, _, _, _, rfl, R.wk (by walk_at "wk1")⟩
    · clear R
      rintro σ H2 ⟨y1, y2, y3, y4, rfl, R⟩
      walk_at "goR"
      rw [List.length_map, tabG_len]
      refine g_rng1 (by omega) ?_
      have gd : ∀ {k : Nat}, k < n → (tabG n g).getD k [] = (List.range n).map (g k) := fun hk => tabG_row hk
      have R := R.wk (L' := .sh (.ref x) (TD (tabG n g)) :: L) (by walk_at "wk1")
      refine loop_range (fun i σ H' => ∃ y1 y2 y3 y4, σ = [some (.ref x), y1, y2, y3, y4] ∧ Rp K H' (.sh (.ref x) (TD (tabG n g)) :: L)) ⟨_, _, _, _, rfl, R⟩ ?_ ?_
      · clear R y1 y2 y3 y4
        rintro i σ H3 hi ⟨y1, y2, y3, y4, rfl, R⟩
        have hi : i < n := by omega
        have cell : ∀ {H' : Hp} {L' : List Fc.It} {Q' : V → Hp → Prop} {i j : Nat} {z1 : Int}, Rp K H' L' → Fc.It.sh (.ref x) (TD (tabG n g)) ∈ L' → z1 = (i : Int) → i < n → (∀ r, Rp K H' (.sh (.ref r) (FL ((List.range n).map (g i))) :: L') → Q' (.ref r) H') → rIxL K (.ref x) (.int z1) H' Q' := fun {H' L' Q' i j z1} R hm hz hi q' => by
          refine g_ixM (f := FL) (ws := tabG n g) i [] R hm hz (by rw [tabG_len]; exact hi) fun w R => ?_
          rw [gd hi] at R
          obtain ⟨r, rfl⟩ := sh_lst R
          exact q' r R
        walk_at "goR"
        refine cell (i := i) (j := i) R mem_here (by omega) hi fun r1 R => ?_
        walk_at "goR"
        refine g_ixM (f := FD) (ws := (List.range n).map (g i)) i 0 R mem_here (by omega) (by rw [List.length_map, List.length_range]; exact hi) fun c1 R => ?_
        rw [row_at hi, di i] at R
        obtain ⟨c1, rfl⟩ := sh_tup R
        walk_at "goR"
        have R : Rp K H3 (.sh (.ref a_NOUGHT) (FD 0) :: _) := R.flat (.tup (t_NOUGHT _) (.cons (.int _) (.cons (.int _) .nil))) rfl
        refine g_neFR R (a := c1) (b := a_NOUGHT) (by walk_at "mem") mem_here ?_
        walk_at "goR"
        refine ifN_known rfl ?_
        walk_at "goR"
        refine g_rng1 (by omega) ?_
        have R := R.wk (L' := .sh (.ref x) (TD (tabG n g)) :: L) (by walk_at "wk1")
        intro C nC
        refine lcfI_range (fun _ => false) R nC (by omega) ?_ ?_
        · intro j X H4 hj R Qy Qn q1 q2
          have hj : j < n := by omega
          walk_at "goR"
          refine ⟨rfl, ?_⟩
          walk_at "goR"
          refine cell (i := i) (j := j) R (by walk_at "mem") (by omega) hi fun r2 R => ?_
          walk_at "goR"
          refine g_ixM (f := FD) (ws := (List.range n).map (g i)) j 0 R mem_here (by omega) (by rw [List.length_map, List.length_range]; exact hj) fun c2 R => ?_
          rw [row_at hj] at R
          obtain ⟨c2, rfl⟩ := sh_tup R
          walk_at "goR"
          refine cell (i := j) (j := i) R (by walk_at "mem") (by omega) hj fun r3 R => ?_
          walk_at "goR"
          refine g_ixM (f := FD) (ws := (List.range n).map (g j)) i 0 R mem_here (by omega) (by rw [List.length_map, List.length_range]; exact hi) fun c3 R => ?_
          rw [row_at hi] at R
          obtain ⟨c3, rfl⟩ := sh_tup R
          walk_at "goR"
          refine ifN_known (sy i j) ?_
          exact q2 rfl _ (R.wk (by walk_at "wk1"))
        · intro H4 R
          rw [List.filter_eq_nil_iff.mpr (fun _ _ => by decide)] at R
          walk_at "goR"
          refine g_l0R .lf R fun e1 ne1 R => ?_
          generalize upd H4 e1 _ = H5 at R ⊢
          walk_at "goR"
          refine ifN_known rfl ?_
          walk_at "goR"
          exact ⟨_, _, _, _, rfl, R.wk (by walk_at "wk1")⟩
      · clear R y1 y2 y3 y4
        rintro σ H3 ⟨y1, y2, y3, y4, rfl, R⟩
        walk_at "goR"
        exact q _ R.tail
end
section
variable {P : Program} {w : World} {K : PySem.W.Frag} {mg : Str → Option Value} {base : Heap}
/-- put together, place by place -/
def sp_added (K : PySem.W.Frag) : Sp := fun vs H Q _ => ∃ (L : List Fc.It) (x y : V) (n : Nat) (g h : Nat → Nat → Rat), vs = [x, y] ∧ Rp K H L ∧ Fc.It.sh x (TD (tabG n g)) ∈ L ∧ Fc.It.sh y (TD (tabG n h)) ∈ L ∧ n ≤ 100 ∧ (∀ i j, Bd 1900 (g i j)) ∧ (∀ i j, Bd 1900 (h i j)) ∧
  ∀ a H', Rp K H' (.ow oT (.ref a) (TD (tabG n fun i j => g i j + h i j)) :: L) → Q (.ref a) H'
theorem rowG {n i : Nat} {g : Nat → Nat → Rat} (hi : i < n) : (tabG n g)[i]? = some ((List.range n).map (g i)) := by
  unfold tabG
  rw [List.getElem?_map, List.getElem?_range hi]; rfl
theorem cellG {n j : Nat} {f : Nat → Rat} (hj : j < n) : ((List.range n).map f)[j]? = some (f j) := by
  rw [List.getElem?_map, List.getElem?_range hj]; rfl
theorem ok_added {f : Addr} {fd : FuncData} (F : Fun K "added" "added" s_added f fd) (T : Tx K mg) (c_plus : Cal P w K mg base 3 "plus" (sp2F K (fun x y => x + y) fun x y => True) []) : FnOk P w K mg base CX0 4 f fd P_added (sp_added K) := by
  refine F.ok sc_added (fun vs H Q E h => ?_) (fun cdv A outer s H vs Q E hr h => ?_)
  · obtain ⟨_, _, _, _, _, _, rfl, _⟩ := h
    rfl
  · obtain ⟨L, x, y, n, g, h, rfl, R, hx, hy, hn, bg, bh, q⟩ := h
    refine ⟨_, (pss_cons (ps_if (pt_cmpR op_ne (pe_callB (k_len (K := K)) (by rfl) T.len_ (by decide +kernel) (pa_cons (pv 0) pa_nil)) (pe_callB (k_len (K := K)) (by rfl) T.len_ (by decide +kernel) (pa_cons (pv 1) pa_nil)) (nomark _))
  (pss_one ps_never)
  pss_nil)
  (pss_one (ps_ret (pe_lc (own := [("row", 2), ("other_row", 3)]) (tt := tYes) rfl sc_added.nd (k_zip (K := K) (by rfl) T.zip_ (pa_cons (pv 0) (pa_cons (pv 1) pa_nil))) (blkOk_by (own := [("row", 2), ("other_row", 3)]) (N := N_added) (sc := defScope s_added) (by decide +kernel)) (fun _ _ _ _ _ => (k_tup (K := K) (n := 2) rfl (pgs_cons (pg_name (i := 2) sc_added.nd rfl (Or.inl rfl)) (pgs_cons (pg_name (i := 3) sc_added.nd rfl (Or.inl rfl)) pgs_nil)))) (fun _ _ _ _ _ => pts_nil) (fun _ _ _ _ _ => (pe_lc (own := [("one", 4), ("more", 5)]) (tt := tYes) rfl sc_added.nd (k_zip (K := K) (by rfl) T.zip_ (pa_cons (pv 2) (pa_cons (pv 3) pa_nil))) (blkOk_by (own := [("one", 4), ("more", 5)]) (by rfl)) (fun _ _ _ _ _ => (k_tup (K := K) (n := 2) rfl (pgs_cons (pg_name (i := 4) sc_added.nd rfl (Or.inl rfl)) (pgs_cons (pg_name (i := 5) sc_added.nd rfl (Or.inl rfl)) pgs_nil)))) (fun _ _ _ _ _ => pts_nil) (fun _ _ _ _ _ => (pe_c c_plus hr (by decide) rfl (pa_cons (pv 4) (pa_cons (pv 5) pa_nil)))))))))), ?_⟩
    have R := (R.shM hx).shM (.tail _ hy)
    obtain ⟨y, rfl⟩ := sh_lst R
    obtain ⟨x, rfl⟩ := sh_lst R.tail
    walk_at "goR"
    rw [List.length_map, List.length_map, tabG_len, tabG_len]
    refine ifND (fun h => absurd rfl h) (fun _ => ?_)
    walk_at "goR"
    have bg4 : ∀ i j, Bd 4000 (g i j) := fun i j => (bg i j).mono (by decide)
    have bh4 : ∀ i j, Bd 4000 (h i j) := fun i j => (bh i j).mono (by decide)
    obtain ⟨x', xs, e, lx, _, R⟩ := R.sv (v := .ref x) (ds := (tabG n g).map FL) (by walk_at "mem")
    cases e
    obtain ⟨y', ys, e, ly, _, R⟩ := R.sv (v := .ref y) (ds := (tabG n h).map FL) (by walk_at "mem")
    cases e
    rw [List.length_map, tabG_len] at lx ly
    refine g_zip (R.svL (by walk_at "mem")) (R.svL mem_here) ?_
    have R := R.wk (L' := .ps (Sv K y ys ((tabG n h).map FL)) :: .ps (Sv K x xs ((tabG n g).map FL)) :: L) (by walk_at "wk1")
    intro C nC
    refine lco_zip (xs := xs) (ys := ys) (.li .lf) (fun i ds L' => ds = (List.range i).map (fun i => FL ((List.range n).map fun j => g i j + h i j)) ∧ L' = .ps (Sv K y ys ((tabG n h).map FL)) :: .ps (Sv K x xs ((tabG n g).map FL)) :: L) R nC ⟨rfl, rfl⟩ (by omega) (by omega) ?_ ?_ ?_
    · rintro i ds L' X H9 ⟨rfl, rfl⟩ R
      exact ⟨R.svL (by walk_at "mem"), R.svL (by walk_at "mem")⟩
    · rintro i v1 v2 T0 ds L' X H9 h1 h2 ⟨rfl, rfl⟩ nT R Qy Qn q1 q2
      have hi : i < n := by rw [← lx]; exact (List.getElem?_eq_some_iff.mp h1).1
      have R := R.svAt (by walk_at "mem") h1 (d := FL ((List.range n).map (g i))) (by rw [List.getElem?_map, rowG hi]; rfl)
      obtain ⟨v1, rfl⟩ := sh_lst R
      have R := R.svAt (by walk_at "mem") h2 (d := FL ((List.range n).map (h i))) (by rw [List.getElem?_map, rowG hi]; rfl)
      obtain ⟨v2, rfl⟩ := sh_lst R
      have st : SqT K (upd H9 T0 (.tup [.ref v1, .ref v2])) T0 [.ref v1, .ref v2] := sqT_at
      generalize upd H9 T0 _ = H10 at R st ⊢
      walk_at "goR"
      refine ⟨rfl, ?_⟩
      walk_at "goR"
      obtain ⟨w2, zs2, e, l2, _, R⟩ := R.sv (v := .ref v2) mem_here
      cases e
      obtain ⟨w1, zs1, e, l1, _, R⟩ := R.sv (v := .ref v1) (ds := ((List.range n).map (g i)).map FD) (by walk_at "mem")
      cases e
      rw [List.length_map, List.length_map, List.length_range] at l1 l2
      refine g_zip (R.svL mem_here) (R.svL (by walk_at "mem")) ?_
      have R := R.wk (L' := .ps (Sv K v1 zs1 (((List.range n).map (g i)).map FD)) :: .ps (Sv K v2 zs2 (((List.range n).map (h i)).map FD)) :: X :: .ps (Sv K y ys ((tabG n h).map FL)) :: .ps (Sv K x xs ((tabG n g).map FL)) :: L) (by walk_at "wk1")
      intro D nD
      refine lco_zip (xs := zs1) (ys := zs2) .lf (fun j ds L' => ds = (List.range j).map (fun j => FD (g i j + h i j)) ∧ L' = .ps (Sv K v1 zs1 (((List.range n).map (g i)).map FD)) :: .ps (Sv K v2 zs2 (((List.range n).map (h i)).map FD)) :: X :: .ps (Sv K y ys ((tabG n h).map FL)) :: .ps (Sv K x xs ((tabG n g).map FL)) :: L) R nD ⟨rfl, rfl⟩ (by omega) (by omega) ?_ ?_ ?_
      · rintro j ds L' X2 H11 ⟨rfl, rfl⟩ R
        exact ⟨R.svL (by walk_at "mem"), R.svL (by walk_at "mem")⟩
      · rintro j u1 u2 T1 ds L' X2 H11 h3 h4 ⟨rfl, rfl⟩ nT2 R Qy2 Qn2 q3 q4
        have hj : j < n := by rw [← l1]; exact (List.getElem?_eq_some_iff.mp h3).1
        have R := R.svAt (by walk_at "mem") h3 (d := FD (g i j)) (by rw [List.getElem?_map, cellG hj]; rfl)
        obtain ⟨u1, rfl⟩ := sh_tup R
        have R := R.svAt (by walk_at "mem") h4 (d := FD (h i j)) (by rw [List.getElem?_map, cellG hj]; rfl)
        obtain ⟨u2, rfl⟩ := sh_tup R
        have st2 : SqT K (upd H11 T1 (.tup [.ref u1, .ref u2])) T1 [.ref u1, .ref u2] := sqT_at
        generalize upd H11 T1 _ = H12 at R st2 ⊢
        walk_at "goR"
        refine ⟨rfl, ?_⟩
        walk_at "goR"
        refine g_plusR R (a := u1) (b := u2) (q := g i j) (r := h i j) (by walk_at "mem") (by walk_at "mem") (bg4 i j) (bh4 i j) fun c3 H13 R => ?_
        exact q3 _ _ _ _ ⟨by rw [List.range_succ, List.map_append]; rfl, rfl⟩ (R.wk (by walk_at "wk1"))
      · rintro ds L' H11 ⟨rfl, rfl⟩ R
        rw [l1] at R
        refine q1 _ (FL ((List.range n).map fun j => g i j + h i j)) _ _ ⟨by rw [List.range_succ, List.map_append]; rfl, rfl⟩ ?_
        rw [show FL ((List.range n).map fun j => g i j + h i j) = .list ((List.range n).map fun j => FD (g i j + h i j)) from congrArg PyData.list (fd_map _ _)]
        exact R.wk (by walk_at "wk1")
    · rintro ds L' H9 ⟨rfl, rfl⟩ R
      rw [lx] at R
      walk_at "goR"
      refine q C _ (R.wk (L' := .ow oT (.ref C) (TD (tabG n fun i j => g i j + h i j)) :: L) ?_)
      rw [show TD (tabG n fun i j => g i j + h i j) = .list ((List.range n).map fun i => FL ((List.range n).map fun j => g i j + h i j)) by unfold TD tabG; rw [List.map_map]; rfl]
      walk_at "wk1"
end
section
variable {P : Program} {w : World} {K : PySem.W.Frag} {mg : Str → Option Value} {base : Heap}
/-- so many times -/
def sp_timest (K : PySem.W.Frag) : Sp := fun vs H Q _ => ∃ (L : List Fc.It) (a : Addr) (x : V) (n : Nat) (g : Nat → Nat → Rat) (c : Rat), vs = [.ref a, x] ∧ Rp K H L ∧ Fc.It.sh (.ref a) (FD c) ∈ L ∧ Fc.It.sh x (TD (tabG n g)) ∈ L ∧ n ≤ 100 ∧ (∀ i j, Bd 1900 (g i j)) ∧ Bd 1900 c ∧ 0 ≤ c.num ∧
  ∀ a H', Rp K H' (.ow oT (.ref a) (TD (tabG n fun i j => c * g i j)) :: L) → Q (.ref a) H'
theorem ok_times_table {f : Addr} {fd : FuncData} (F : Fun K "times_table" "times_table" s_times_table f fd) (T : Tx K mg) (c_times : Cal P w K mg base 3 "times" (sp2F K (fun x y => x * y) fun x y => True) []) : FnOk P w K mg base CX0 4 f fd P_times_table (sp_timest K) := by
  refine F.ok sc_times_table (fun vs H Q E h => ?_) (fun cdv A outer s H vs Q E hr h => ?_)
  · obtain ⟨_, _, _, _, _, _, rfl, _⟩ := h
    rfl
  · obtain ⟨L, a, x, n, g, c, rfl, R, ha, hx, hn, bg, bc, c0, q⟩ := h
    refine ⟨_, (pss_cons (ps_if (pt_cmpR op_lt (pe_ix (k_ixT (K := K)) (pv 0) pe_int (fun _ _ => rfl)) pe_int (nomark _))
  (pss_one ps_never)
  pss_nil)
  (pss_one (ps_ret (pe_lc (own := [("row", 2)]) (g := gName 2) (tt := tYes) rfl sc_times_table.nd (k_piL (K := K) (pv 1)) (blkOk_by (own := [("row", 2)]) (N := N_times_table) (sc := defScope s_times_table) (by decide +kernel)) (fun _ _ _ _ _ => (pg_name (i := 2) sc_times_table.nd rfl (Or.inl rfl))) (fun _ _ _ _ _ => pts_nil) (fun _ _ _ _ _ => (pe_lc (own := [("one", 3)]) (g := gName 3) (tt := tYes) rfl sc_times_table.nd (k_piL (K := K) (pv 2)) (blkOk_by (own := [("one", 3)]) (by rfl)) (fun _ _ _ _ _ => (pg_name (i := 3) sc_times_table.nd rfl (Or.inl rfl))) (fun _ _ _ _ _ => pts_nil) (fun _ _ _ _ _ => (pe_c c_times hr (by decide) rfl (pa_cons (pv 0) (pa_cons (pv 3) pa_nil)))))))))), ?_⟩
    have R := (R.shM ha).shM (.tail _ hx)
    obtain ⟨x, rfl⟩ := sh_lst R
    have bg4 : ∀ i j, Bd 4000 (g i j) := fun i j => (bg i j).mono (by decide)
    have bc4 : Bd 4000 c := bc.mono (by decide)
    walk_at "goR"
    refine g_ixTI (k := 0) R (a := a) (ds := [.int c.num, .int (c.den : Int)]) (by walk_at "mem") rfl rfl ?_
    walk_at "goR"
    refine ifD (fun h => by omega) (fun _ => ?_)
    walk_at "goR"
    obtain ⟨x', xs, e, lx, _, R⟩ := R.sv (v := .ref x) (ds := (tabG n g).map FL) (by walk_at "mem")
    cases e
    rw [List.length_map, tabG_len] at lx
    refine g_ilR (R.svL mem_here) ?_
    have R := R.wk (L' := .sh (.ref a) (FD c) :: .ps (Sv K x xs ((tabG n g).map FL)) :: L) (by walk_at "wk1")
    intro C nC
    refine lco_list (xs := xs) (.li .lf) (fun i ds L' => ds = (List.range i).map (fun i => FL ((List.range n).map fun j => c * g i j)) ∧ L' = .sh (.ref a) (FD c) :: .ps (Sv K x xs ((tabG n g).map FL)) :: L) R nC ⟨rfl, rfl⟩ (by omega) ?_ ?_ ?_
    · rintro i ds L' X H9 ⟨rfl, rfl⟩ R
      exact R.svL (by walk_at "mem")
    · rintro i v1 ds L' X H9 h1 ⟨rfl, rfl⟩ R Qy Qn q1 q2
      have hi : i < n := by rw [← lx]; exact (List.getElem?_eq_some_iff.mp h1).1
      have R := R.svAt (by walk_at "mem") h1 (d := FL ((List.range n).map (g i))) (by rw [List.getElem?_map, rowG hi]; rfl)
      obtain ⟨v1, rfl⟩ := sh_lst R
      walk_at "goR"
      refine ⟨rfl, ?_⟩
      walk_at "goR"
      obtain ⟨w1, zs1, e, l1, _, R⟩ := R.sv (v := .ref v1) (ds := ((List.range n).map (g i)).map FD) (by walk_at "mem")
      cases e
      rw [List.length_map, List.length_map, List.length_range] at l1
      refine g_ilR (R.svL mem_here) ?_
      have R := R.wk (L' := .ps (Sv K v1 zs1 (((List.range n).map (g i)).map FD)) :: X :: .sh (.ref a) (FD c) :: .ps (Sv K x xs ((tabG n g).map FL)) :: L) (by walk_at "wk1")
      intro D nD
      refine lco_list (xs := zs1) .lf (fun j ds L' => ds = (List.range j).map (fun j => FD (c * g i j)) ∧ L' = .ps (Sv K v1 zs1 (((List.range n).map (g i)).map FD)) :: X :: .sh (.ref a) (FD c) :: .ps (Sv K x xs ((tabG n g).map FL)) :: L) R nD ⟨rfl, rfl⟩ (by omega) ?_ ?_ ?_
      · rintro j ds L' X2 H11 ⟨rfl, rfl⟩ R
        exact R.svL (by walk_at "mem")
      · rintro j u1 ds L' X2 H11 h3 ⟨rfl, rfl⟩ R Qy2 Qn2 q3 q4
        have hj : j < n := by rw [← l1]; exact (List.getElem?_eq_some_iff.mp h3).1
        have R := R.svAt (by walk_at "mem") h3 (d := FD (g i j)) (by rw [List.getElem?_map, cellG hj]; rfl)
        obtain ⟨u1, rfl⟩ := sh_tup R
        walk_at "goR"
        refine ⟨rfl, ?_⟩
        walk_at "goR"
        refine g_timesR R (a := a) (b := u1) (q := c) (r := g i j) (by walk_at "mem") (by walk_at "mem") bc4 (bg4 i j) fun c3 H13 R => ?_
        exact q3 _ _ _ _ ⟨by rw [List.range_succ, List.map_append]; rfl, rfl⟩ (R.wk (by walk_at "wk1"))
      · rintro ds L' H11 ⟨rfl, rfl⟩ R
        rw [l1] at R
        refine q1 _ (FL ((List.range n).map fun j => c * g i j)) _ _ ⟨by rw [List.range_succ, List.map_append]; rfl, rfl⟩ ?_
        rw [show FL ((List.range n).map fun j => c * g i j) = .list ((List.range n).map fun j => FD (c * g i j)) from congrArg PyData.list (fd_map _ _)]
        exact R.wk (by walk_at "wk1")
    · rintro ds L' H9 ⟨rfl, rfl⟩ R
      rw [lx] at R
      walk_at "goR"
      refine q C _ (R.wk (L' := .ow oT (.ref C) (TD (tabG n fun i j => c * g i j)) :: L) ?_)
      rw [show TD (tabG n fun i j => c * g i j) = .list ((List.range n).map fun i => FL ((List.range n).map fun j => c * g i j)) by unfold TD tabG; rw [List.map_map]; rfl]
      walk_at "wk1"
end
section
variable {P : Program} {w : World} {K : PySem.W.Frag} {mg : Str → Option Value} {base : Heap}
theorem ok_part_of {f : Addr} {fd : FuncData} (F : Fun K "part_of" "part_of" s_part_of f fd) (T : Tx K mg) : FnOk P w K mg base CX0 1 f fd P_part_of (sp_part K) := by
  refine F.ok sc_part_of (fun vs H Q E h => ?_) (fun cdv A outer s H vs Q E hr h => ?_)
  · obtain ⟨_, _, _, _, _, _, _, rfl, _⟩ := h
    rfl
  · obtain ⟨L, s0, x, y, n, g, ps, rfl, R, hx, hy, hn, lp, ok, q⟩ := h
    refine ⟨_, (pss_cons (ps_if (PW.pt (pw_or (pt_cmpR (k_eqD (K := K) hr.units) (pv 1) (pe_lst pa_nil) (nomark _)) (pw_or1 (pt_cmpR op_lt (pe_lenSet (K := K) (by rfl) T.len_ (by rfl) T.set_ (pv 1)) (pe_callB (k_len (K := K)) (by rfl) T.len_ (by decide +kernel) (pa_cons (pv 1) pa_nil)) (nomark _)))))
  (pss_one ps_never)
  pss_nil)
  (pss_cons (ps_if (pt_cmpR (k_neD (K := K) hr.units) (pe_lc (own := [("point", 2)]) (g := gName 2) rfl sc_part_of.nd (k_piL (K := K) (pv 1)) (blkOk_by (own := [("point", 2)]) (N := N_part_of) (sc := defScope s_part_of) (by decide +kernel)) (fun _ _ _ _ _ => (pg_name (i := 2) sc_part_of.nd rfl (Or.inl rfl))) (fun _ _ _ _ _ => (pts_one (pt_not (pt_chain op_le op_lt pe_int (pv 2) (pe_callB (k_len (K := K)) (by rfl) T.len_ (by decide +kernel) (pa_cons (pv 0) pa_nil)))))) (fun _ _ _ _ _ => (pv 2))) (pe_lst pa_nil) (nomark _))
  (pss_one ps_never)
  pss_nil)
  (pss_one (ps_ret (pe_lc (own := [("one", 3)]) (g := gName 3) (tt := tYes) rfl sc_part_of.nd (k_piL (K := K) (pv 1)) (blkOk_by (own := [("one", 3)]) (N := N_part_of) (sc := defScope s_part_of) (by decide +kernel)) (fun _ _ _ _ _ => (pg_name (i := 3) sc_part_of.nd rfl (Or.inr rfl))) (fun _ _ _ _ _ => pts_nil) (fun _ _ _ _ _ => (pe_lc (own := [("other", 4)]) (g := gName 4) (tt := tYes) rfl sc_part_of.nd (k_piL (K := K) (pv 1)) (blkOk_by (own := [("other", 4)]) (by rfl)) (fun _ _ _ _ _ => (pg_name (i := 4) sc_part_of.nd rfl (Or.inl rfl))) (fun _ _ _ _ _ => pts_nil) (fun _ _ _ _ _ => (pe_ix (k_ixL (K := K)) (pe_ix (k_ixL (K := K)) (pv 0) (pv 3) (fun _ _ => rfl)) (pv 4) (fun _ _ => rfl)))))))))), ?_⟩
    have R := R.shM hx
    obtain ⟨x, rfl⟩ := sh_lst R
    obtain ⟨y, rfl⟩ := R.ref (.tail _ hy)
    walk_at "goR"
    refine g_l0R .lf R fun e1 ne1 R => ?_
    generalize upd H e1 _ = H1 at R ⊢
    walk_at "goR"
    refine g_eqNI R (.tail _ (.tail _ hy)) mem_here ?_
    walk_at "goR"
    refine ifD (fun h => absurd h ok.1) (fun _ => ?_)
    walk_at "goR"
    refine g_lenSet R (.tail _ (.tail _ hy)) (by omega) ?_
    walk_at "goR"
    refine g_lenS R (.tail _ (.tail _ hy)) ?_
    rw [List.length_map, nub_id ok.2.1]
    walk_at "goR"
    refine ifD (fun h => by omega) (fun _ => ?_)
    walk_at "goR"
    refine g_ilM R (.tail _ (.tail _ hy)) ?_
    intro C nC
    refine lcfI_list (ns := ps) (fun z => !isPt n z) R nC (by omega) (fun X H' R => R.ilS (.tail _ (.tail _ (.tail _ hy)))) ?_ ?_
    · intro i v X H' hi R Qy Qn q1 q2
      walk_at "goR"
      refine ⟨rfl, ?_⟩
      walk_at "goR"
      refine ifD (fun h => ?_) (fun h => ?_)
      · walk_at "goR"
        rw [List.length_map, tabG_len]
        refine ifND (fun h2 => ?_) (fun h2 => ?_)
        · walk_at "goR"
          exact q1 (by unfold isPt; rw [decide_eq_true h, decide_eq_false h2]; rfl) _ R
        · exact q2 (by unfold isPt; rw [decide_eq_true h, decide_eq_true h2]; rfl) _ R
      · walk_at "goR"
        exact q1 (by unfold isPt; rw [decide_eq_false h]; rfl) _ R
    intro H2 R
    walk_at "goR"
    refine g_l0R .lf R fun e2 ne2 R => ?_
    generalize upd H2 e2 _ = H3 at R ⊢
    walk_at "goR"
    have nobad : ps.filter (fun z => !isPt n z) = [] := List.filter_eq_nil_iff.mpr fun z hz => by rw [ok.2.2 z hz]; decide
    refine ifND (fun h => absurd nobad h) (fun _ => ?_)
    walk_at "goR"
    have R := R.wk (L' := .sh (.ref x) (TD (tabG n g)) :: L) (by walk_at "wk1")
    refine g_ilM R (.tail _ hy) ?_
    intro C2 nC2
    refine lco_list (xs := ps.map V.int) (.li .lf) (fun i ds L' => ds = (ps.take i).map (fun z => FL (ps.map fun y => g z.toNat y.toNat)) ∧ L' = .sh (.ref x) (TD (tabG n g)) :: L) R nC2 ⟨rfl, rfl⟩ (by rw [List.length_map]; omega) ?_ ?_ ?_
    · rintro i ds L' X H9 ⟨rfl, rfl⟩ R
      exact R.ilS (.tail _ (.tail _ hy))
    · rintro i v ds L' X H9 hv ⟨rfl, rfl⟩ R Qy Qn q1 q2
      rw [List.getElem?_map] at hv
      obtain ⟨z, hz, rfl⟩ := Option.map_eq_some_iff.mp hv
      have pz := ok.2.2 z (List.mem_of_getElem? hz)
      unfold isPt at pz
      simp only [Bool.and_eq_true, decide_eq_true_eq] at pz
      walk_at "goR"
      refine ⟨rfl, ?_⟩
      walk_at "goR"
      refine g_ilM R (.tail _ (.tail _ hy)) ?_
      intro C3 nC3
      refine lco_list (xs := ps.map V.int) .lf (fun j ds L' => ds = (ps.take j).map (fun y => FD (g z.toNat y.toNat)) ∧ L' = X :: .sh (.ref x) (TD (tabG n g)) :: L) R nC3 ⟨rfl, rfl⟩ (by rw [List.length_map]; omega) ?_ ?_ ?_
      · rintro i ds L' X H9 ⟨rfl, rfl⟩ R
        exact R.ilS (.tail _ (.tail _ (.tail _ hy)))
      · rintro j v ds L' X2 H10 hv ⟨rfl, rfl⟩ R Qy2 Qn2 q3 q4
        rw [List.getElem?_map] at hv
        obtain ⟨y2, hy2, rfl⟩ := Option.map_eq_some_iff.mp hv
        have py := ok.2.2 y2 (List.mem_of_getElem? hy2)
        unfold isPt at py
        simp only [Bool.and_eq_true, decide_eq_true_eq] at py
        walk_at "goR"
        refine ⟨rfl, ?_⟩
        walk_at "goR"
        refine g_ixM z.toNat [] R (by walk_at "mem") (by omega) (by rw [tabG_len]; omega) fun w R => ?_
        obtain ⟨w, rfl⟩ := sh_lst R
        rw [tabG_row (by omega)] at R
        walk_at "goR"
        refine g_ixM y2.toNat 0 R mem_here (by omega) (by rw [List.length_map, List.length_range]; omega) fun c R => ?_
        rw [rowF_at (by omega)] at R
        exact q3 _ _ _ _ ⟨by rw [take_snoc hy2, List.map_append]; rfl, rfl⟩ (R.wk (by walk_at "wk1"))
      · rintro ds L' H10 ⟨rfl, rfl⟩ R
        rw [List.length_map, List.take_length] at R
        refine q1 _ (FL (ps.map fun y => g z.toNat y.toNat)) _ _ ⟨by rw [take_snoc hz, List.map_append]; rfl, rfl⟩ ?_
        rw [show FL (ps.map fun y => g z.toNat y.toNat) = .list (ps.map fun y => FD (g z.toNat y.toNat)) by unfold FL; rw [List.map_map]; rfl]
        exact R
    · rintro ds L' H9 ⟨rfl, rfl⟩ R
      rw [List.length_map, List.take_length] at R
      walk_at "goR"
      refine q C2 _ (R.wk (L' := .ow oT (.ref C2) (TD (partT g ps)) :: L) ?_)
      rw [show TD (partT g ps) = .list (ps.map fun z => FL (ps.map fun y => g z.toNat y.toNat)) by unfold TD partT; rw [List.map_map]; rfl]
      walk_at "wk1"
end
section
variable {P : Program} {w : World} {K : PySem.W.Frag} {mg : Str → Option Value} {base : Heap}
theorem ok_hung_together {f : Addr} {fd : FuncData} (F : Fun K "hung_together" "hung_together" s_hung_together f fd) (T : Tx K mg) (c_plus : Cal P w K mg base 3 "plus" (sp2F K (fun x y => x + y) fun x y => True) []) : FnOk P w K mg base CX0 4 f fd P_hung_together (sp_hung K) := by
  refine F.ok sc_hung_together (fun vs H Q E h => ?_) (fun cdv A outer s H vs Q E hr h => ?_)
  · obtain ⟨_, _, _, _, _, _, _, _, _, rfl, _⟩ := h
    rfl
  · obtain ⟨L, x, y, n, m, g, h, at_, to, rfl, R, hx, hy, hn, hm, pa, pt, bg, bh, q⟩ := h
    refine ⟨_, (pss_cons (ps_if (PW.pt (pw_or (pt_not (pt_chain op_le op_lt pe_int (pv 1) (pe_callB (k_len (K := K)) (by rfl) T.len_ (by decide +kernel) (pa_cons (pv 0) pa_nil)))) (pw_or1 (pt_not (pt_chain op_le op_lt pe_int (pv 3) (pe_callB (k_len (K := K)) (by rfl) T.len_ (by decide +kernel) (pa_cons (pv 2) pa_nil)))))))
  (pss_one ps_never)
  pss_nil)
  (pss_cons (ps_setLc (i := 4) (own := [("place", 5)]) (g := gName 5) rfl sc_hung_together.nd rfl rfl (sw_true rfl rfl rfl (by decide +kernel)) (pi_range1 (by rfl) T.range_ (pa_cons (pe_callB (k_len (K := K)) (by rfl) T.len_ (by decide +kernel) (pa_cons (pv 2) pa_nil)) pa_nil)) (blkOk_by (own := [("place", 5)]) (N := N_hung_together) (sc := defScope s_hung_together) (by decide +kernel)) (fun _ _ _ _ _ => (pg_name (i := 5) sc_hung_together.nd rfl (Or.inl rfl))) (fun _ _ _ _ _ => (pts_one (pt_cmpR op_ne (pv 5) (pv 3) (nomark _)))) (fun _ _ _ _ _ => (pv 5)))
  (pss_cons (ps_set (i := 6) sc_hung_together.nd rfl (Or.inl rfl) (pe_lst pa_nil))
  (pss_cons (ps_for PassesOwn.never rfl (k_piL (K := K) (pv 0)) (pg_name (i := 7) sc_hung_together.nd rfl (Or.inr rfl))
  (pss_one (ps_expr (pe_bm PySem.F.plainAttrs_list PySem.F.slot_list_append PySem.F.type_list_append mt_append (pv 6) (pa_cons (pe_op op_cat (pv 7) (pe_lc (own := [("place", 5)]) (g := gName 5) (tt := tYes) rfl sc_hung_together.nd (k_piL (K := K) (pv 4)) (blkOk_by (own := [("place", 5)]) (N := N_hung_together) (sc := defScope s_hung_together) (by decide +kernel)) (fun _ _ _ _ _ => (pg_name (i := 5) sc_hung_together.nd rfl (Or.inl rfl))) (fun _ _ _ _ _ => pts_nil) (fun _ _ _ _ _ => (pe_c c_plus hr (by decide) rfl (pa_cons (pe_ix (k_ixL (K := K)) (pv 7) (pv 1) (fun _ _ => rfl)) (pa_cons (pe_ix (k_ixL (K := K)) (pe_ix (k_ixL (K := K)) (pv 2) (pv 5) (fun _ _ => rfl)) (pv 3) (fun _ _ => rfl)) pa_nil)))))) pa_nil)))))
  (pss_cons (ps_for PassesOwn.never rfl (k_piL (K := K) (pv 4)) (pg_name (i := 5) sc_hung_together.nd rfl (Or.inr rfl))
  (pss_cons (ps_setLc (i := 8) (own := [("row", 7)]) (g := gName 7) (tt := tYes) rfl sc_hung_together.nd rfl rfl (sw_true rfl rfl rfl (by decide +kernel)) (k_piL (K := K) (pv 0)) (blkOk_by (own := [("row", 7)]) (N := N_hung_together) (sc := defScope s_hung_together) (by decide +kernel)) (fun _ _ _ _ _ => (pg_name (i := 7) sc_hung_together.nd rfl (Or.inl rfl))) (fun _ _ _ _ _ => pts_nil) (fun _ _ _ _ _ => (pe_c c_plus hr (by decide) rfl (pa_cons (pe_ix (k_ixL (K := K)) (pv 7) (pv 1) (fun _ _ => rfl)) (pa_cons (pe_ix (k_ixL (K := K)) (pe_ix (k_ixL (K := K)) (pv 2) (pv 5) (fun _ _ => rfl)) (pv 3) (fun _ _ => rfl)) pa_nil)))))
  (pss_one (ps_expr (pe_bm PySem.F.plainAttrs_list PySem.F.slot_list_append PySem.F.type_list_append mt_append (pv 6) (pa_cons (pe_op op_cat (pv 8) (pe_lc (own := [("behind", 9)]) (g := gName 9) (tt := tYes) rfl sc_hung_together.nd (k_piL (K := K) (pv 4)) (blkOk_by (own := [("behind", 9)]) (N := N_hung_together) (sc := defScope s_hung_together) (by decide +kernel)) (fun _ _ _ _ _ => (pg_name (i := 9) sc_hung_together.nd rfl (Or.inl rfl))) (fun _ _ _ _ _ => pts_nil) (fun _ _ _ _ _ => (pe_ix (k_ixL (K := K)) (pe_ix (k_ixL (K := K)) (pv 2) (pv 5) (fun _ _ => rfl)) (pv 9) (fun _ _ => rfl))))) pa_nil))))))
  (pss_one (ps_ret (pv 6)))))))), ?_⟩
    have R := (R.shM hx).shM (.tail _ hy)
    obtain ⟨y, rfl⟩ := sh_lst R
    obtain ⟨x, rfl⟩ := sh_lst R.tail
    unfold isPt at pa pt
    simp only [Bool.and_eq_true, decide_eq_true_eq] at pa pt
    obtain ⟨a, rfl⟩ : ∃ a : Nat, at_ = a := ⟨at_.toNat, by omega⟩
    obtain ⟨b, rfl⟩ : ∃ b : Nat, to = b := ⟨to.toNat, by omega⟩
    have bg4 : ∀ i j, Bd 4000 (g i j) := fun i j => (bg i j).mono (by decide)
    have bh4 : ∀ i j, Bd 4000 (h i j) := fun i j => (bh i j).mono (by decide)
    walk_at "goR"
    refine ifD (fun _ => ?_) (fun h => absurd pa.1 h)
    walk_at "goR"
    rw [List.length_map, tabG_len]
    refine ifND (fun h => absurd pa.2 h) (fun _ => ?_)
    walk_at "goR"
    refine ifD (fun _ => ?_) (fun h => absurd pt.1 h)
    walk_at "goR"
    rw [List.length_map, tabG_len]
    refine ifND (fun h => absurd pt.2 h) (fun _ => ?_)
    walk_at "goR"
    rw [List.length_map, tabG_len]
    refine g_rng1 (by omega) ?_
    intro C nC
    refine lcfI_range (fun z => !decide (z = (b : Int))) R nC (by omega) ?_ ?_
    · intro i X H4 hi R Qy Qn q1 q2
      walk_at "goR"
      refine ⟨rfl, ?_⟩
      walk_at "goR"
      refine ifND (fun h => ?_) (fun h => ?_)
      · walk_at "goR"
        exact q1 (by rw [decide_eq_false h]; rfl) _ R
      · exact q2 (by rw [decide_eq_true h]; rfl) _ R
    intro H2 R
    have R : Rp K H2 (.ow (.li .lf) (.ref C) (IL (oths m b)) :: _) := R
    have R := R.fz
    have om : ∀ z ∈ oths m b, 0 ≤ z ∧ z < m := fun z hz => (oths_mem.mp hz).1
    have ol : (oths m b).length ≤ m := oths_len
    generalize hps : oths m b = ps at om ol R
    walk_at "goR"
    refine g_l0R (.li .lf) R fun F0 nF R => ?_
    generalize upd H2 F0 _ = H3 at R ⊢
    have R := R.wk (L' := .ow oT (.ref F0) (TD []) :: .sh (.ref C) (IL ps) :: .sh (.ref y) (TD (tabG m h)) :: .sh (.ref x) (TD (tabG n g)) :: L) (by walk_at "wk1")
    have rowx : ∀ i, i < n → (tabG n g)[i]? = some ((List.range n).map (g i)) := fun i hi => by
      unfold tabG
      rw [List.getElem?_map, List.getElem?_range hi]; rfl
    walk_at "goR"
    obtain ⟨x', xs, e, lx, _, R⟩ := R.sv (v := .ref x) (ds := (tabG n g).map FL) (by walk_at "mem")
    cases e
    rw [List.length_map, tabG_len] at lx
    refine g_ilR (R.svL mem_here) ?_
    refine loop_list (K := K) (a := x) (xs := xs) (fun i σ H' => ∃ y5 y7 y8 y9, σ = [some (.ref x), some (.int a), some (.ref y), some (.int b), some (.ref C), y5, some (.ref F0), y7, y8, y9] ∧
      Rp K H' (.ow oT (.ref F0) (TD ((List.range i).map fun i => (List.range n).map (g i) ++ ps.map fun p => g i a + h p.toNat b)) :: .sh (.ref C) (IL ps) :: .sh (.ref y) (TD (tabG m h)) :: .ps (Sv K x xs ((tabG n g).map FL)) :: L)) ⟨_, _, _, _, rfl, by walk_at "wk"⟩ (fun i σ H' _ ⟨_, _, _, _, _, R⟩ => R.svL (by walk_at "mem")) ?_ ?_
    · rintro i v σ H4 hv ⟨y5, y7, y8, y9, rfl, R⟩
      have hi : i < n := by rw [← lx]; exact (List.getElem?_eq_some_iff.mp hv).1
      have R := R.svAt (by walk_at "mem") hv (d := FL ((List.range n).map (g i))) (by rw [List.getElem?_map, rowx i hi]; rfl)
      obtain ⟨v, rfl⟩ := sh_lst R
      walk_at "goR"
      refine g_ilM R (by walk_at "mem") ?_
      intro D nD
      refine lco_list (xs := ps.map V.int) .lf (fun j ds L' => ds = (ps.take j).map (fun p => FD (g i a + h p.toNat b)) ∧ L' = _) R nD ⟨rfl, rfl⟩ (by rw [List.length_map]; omega) ?_ ?_ ?_
      · rintro j ds L' X H9 ⟨rfl, rfl⟩ R
        exact R.ilS (s := .lf) (by walk_at "mem")
      · rintro j w2 ds L' X2 H10 hw ⟨rfl, rfl⟩ R Qy2 Qn2 q3 q4
        rw [List.getElem?_map] at hw
        obtain ⟨z, hz, rfl⟩ := Option.map_eq_some_iff.mp hw
        have pz := om z (List.mem_of_getElem? hz)
        walk_at "goR"
        refine ⟨rfl, ?_⟩
        walk_at "goR"
        refine g_ixM a 0 R (ws := (List.range n).map (g i)) (f := FD) (by walk_at "mem") (by omega) (by rw [List.length_map, List.length_range]; omega) fun c1 R => ?_
        obtain ⟨c1, rfl⟩ := sh_tup R
        rw [rowF_at (by omega)] at R
        walk_at "goR"
        refine g_ixM z.toNat [] R (a := y) (ws := tabG m h) (f := FL) (by walk_at "mem") (by omega) (by rw [tabG_len]; omega) fun w R => ?_
        obtain ⟨w, rfl⟩ := sh_lst R
        rw [tabG_row (by omega)] at R
        walk_at "goR"
        refine g_ixM b 0 R mem_here (by omega) (by rw [List.length_map, List.length_range]; omega) fun c2 R => ?_
        obtain ⟨c2, rfl⟩ := sh_tup R
        rw [rowF_at (by omega)] at R
        walk_at "goR"
        refine g_plusR R (a := c1) (b := c2) (q := g i a) (r := h z.toNat b) (by walk_at "mem") (by walk_at "mem") (bg4 i a) (bh4 _ b) fun c3 H11 R => ?_
        exact q3 _ _ _ _ ⟨by rw [take_snoc hz, List.map_append]; rfl, rfl⟩ (R.wk (by walk_at "wk1"))
      rintro ds L' H10 ⟨rfl, rfl⟩ R
      rw [List.length_map, List.take_length] at R
      have R := R.fz
      walk_at "goR"
      refine g_catS R (a := v) (ds := ((List.range n).map (g i)).map FD) (by walk_at "mem") (by walk_at "mem") (by rw [List.length_map, List.length_map, List.length_map, List.length_range]; omega) fun c4 H11 R => ?_
      rw [show ((List.range n).map (g i)).map FD ++ ps.map (fun p => FD (g i a + h p.toNat b)) = ((List.range n).map (g i) ++ ps.map fun p => g i a + h p.toNat b).map FD from fd_app _ _ _ _] at R
      walk_at "goR"
      refine g_appR R .here (by walk_at "sel") (by rw [List.length_map, List.length_map, List.length_range]; omega) fun H12 R => ?_
      rw [map_snoc, show ((List.range i).map fun i => (List.range n).map (g i) ++ ps.map fun p => g i a + h p.toNat b) ++ [(List.range n).map (g i) ++ ps.map fun p => g i a + h p.toNat b] = (List.range (i + 1)).map fun i => (List.range n).map (g i) ++ ps.map fun p => g i a + h p.toNat b by rw [List.range_succ, List.map_append]; rfl] at R
      exact ⟨_, _, _, _, rfl, by walk_at "wk"⟩
    rintro σ H4 ⟨y5, y7, y8, y9, rfl, R⟩
    rw [lx] at R
    generalize hr1 : ((List.range n).map fun i => (List.range n).map (g i) ++ ps.map fun p => g i a + h p.toNat b) = rows1 at R
    walk_at "goR"
    refine g_ilM R (by walk_at "mem") ?_
    refine loop_list (K := K) (a := C) (xs := ps.map V.int) (fun i σ H' => ∃ y5 y7 y8 y9, σ = [some (.ref x), some (.int a), some (.ref y), some (.int b), some (.ref C), y5, some (.ref F0), y7, y8, y9] ∧
      Rp K H' (.ow oT (.ref F0) (TD (rows1 ++ (ps.take i).map fun p => ((List.range n).map fun i => g i a + h p.toNat b) ++ ps.map fun q => h p.toNat q.toNat)) :: .sh (.ref C) (IL ps) :: .sh (.ref y) (TD (tabG m h)) :: .ps (Sv K x xs ((tabG n g).map FL)) :: L)) ⟨_, _, _, _, rfl, by rw [List.take_zero, List.map_nil, List.append_nil]; exact R⟩ (fun i σ H' _ ⟨_, _, _, _, _, R⟩ => R.ilS (s := .lf) (by walk_at "mem")) ?_ ?_
    · rintro k v σ H5 hv ⟨y5, y7, y8, y9, rfl, R⟩
      rw [List.getElem?_map] at hv
      obtain ⟨z, hz, rfl⟩ := Option.map_eq_some_iff.mp hv
      have pz := om z (List.mem_of_getElem? hz)
      have lr1 : rows1.length = n := by rw [← hr1, List.length_map, List.length_range]
      walk_at "goR"
      refine g_ilR (R.svL (by walk_at "mem")) ?_
      intro D nD
      refine lco_list (xs := xs) .lf (fun j ds L' => ds = (List.range j).map (fun i => FD (g i a + h z.toNat b)) ∧ L' = _) R nD ⟨rfl, rfl⟩ (by omega) ?_ ?_ ?_
      · rintro j ds L' X H9 ⟨rfl, rfl⟩ R
        exact R.svL (by walk_at "mem")
      · rintro j w2 ds L' X2 H10 hw ⟨rfl, rfl⟩ R Qy2 Qn2 q3 q4
        have hj : j < n := by rw [← lx]; exact (List.getElem?_eq_some_iff.mp hw).1
        have R := R.svAt (by walk_at "mem") hw (d := FL ((List.range n).map (g j))) (by rw [List.getElem?_map, rowx j hj]; rfl)
        obtain ⟨w2, rfl⟩ := sh_lst R
        walk_at "goR"
        refine ⟨rfl, ?_⟩
        walk_at "goR"
        refine g_ixM a 0 R (ws := (List.range n).map (g j)) (f := FD) (by walk_at "mem") (by omega) (by rw [List.length_map, List.length_range]; omega) fun c1 R => ?_
        obtain ⟨c1, rfl⟩ := sh_tup R
        rw [rowF_at (by omega)] at R
        walk_at "goR"
        refine g_ixM z.toNat [] R (a := y) (ws := tabG m h) (f := FL) (by walk_at "mem") (by omega) (by rw [tabG_len]; omega) fun w R => ?_
        obtain ⟨w, rfl⟩ := sh_lst R
        rw [tabG_row (by omega)] at R
        walk_at "goR"
        refine g_ixM b 0 R mem_here (by omega) (by rw [List.length_map, List.length_range]; omega) fun c2 R => ?_
        obtain ⟨c2, rfl⟩ := sh_tup R
        rw [rowF_at (by omega)] at R
        walk_at "goR"
        refine g_plusR R (a := c1) (b := c2) (q := g j a) (r := h z.toNat b) (by walk_at "mem") (by walk_at "mem") (bg4 j a) (bh4 _ b) fun c3 H11 R => ?_
        exact q3 _ _ _ _ ⟨by rw [List.range_succ, List.map_append]; rfl, rfl⟩ (R.wk (by walk_at "wk1"))
      rintro ds L' H10 ⟨rfl, rfl⟩ R
      rw [lx] at R
      have R := R.fz
      walk_at "goR"
      refine g_ilM R (a := C) (ds := ps.map PyData.int) (by walk_at "mem") ?_
      intro D2 nD2
      refine lco_list (xs := ps.map V.int) .lf (fun j ds L' => ds = (ps.take j).map (fun q => FD (h z.toNat q.toNat)) ∧ L' = _) R nD2 ⟨rfl, rfl⟩ (by rw [List.length_map]; omega) ?_ ?_ ?_
      · rintro j ds L' X H9 ⟨rfl, rfl⟩ R
        exact R.ilS (s := .lf) (ns := ps) (by walk_at "mem")
      · rintro j w2 ds L' X2 H11 hw ⟨rfl, rfl⟩ R Qy2 Qn2 q3 q4
        rw [List.getElem?_map] at hw
        obtain ⟨u, hu, rfl⟩ := Option.map_eq_some_iff.mp hw
        have pu := om u (List.mem_of_getElem? hu)
        walk_at "goR"
        refine ⟨rfl, ?_⟩
        walk_at "goR"
        refine g_ixM z.toNat [] R (a := y) (ws := tabG m h) (f := FL) (by walk_at "mem") (by omega) (by rw [tabG_len]; omega) fun w R => ?_
        obtain ⟨w, rfl⟩ := sh_lst R
        rw [tabG_row (by omega)] at R
        walk_at "goR"
        refine g_ixM u.toNat 0 R mem_here (by omega) (by rw [List.length_map, List.length_range]; omega) fun c2 R => ?_
        rw [rowF_at (by omega)] at R
        exact q3 _ _ _ _ ⟨by rw [take_snoc hu, List.map_append]; rfl, rfl⟩ (R.wk (by walk_at "wk1"))
      rintro ds L' H11 ⟨rfl, rfl⟩ R
      rw [List.length_map, List.take_length] at R
      have R := R.fz
      walk_at "goR"
      refine g_catS R (a := D) (ds := (List.range n).map fun i => FD (g i a + h z.toNat b)) (by walk_at "mem") (by walk_at "mem") (by rw [List.length_map, List.length_map, List.length_range]; omega) fun c4 H12 R => ?_
      rw [show (List.range n).map (fun i => FD (g i a + h z.toNat b)) ++ ps.map (fun q => FD (h z.toNat q.toNat)) = (((List.range n).map fun i => g i a + h z.toNat b) ++ ps.map fun q => h z.toNat q.toNat).map FD from fd_app2 _ _ _ _] at R
      walk_at "goR"
      refine g_appR R .here (by walk_at "sel") (by rw [List.length_map, List.length_append, List.length_map, List.length_take]; omega) fun H13 R => ?_
      rw [map_snoc, List.append_assoc, show ((ps.take k).map fun p => ((List.range n).map fun i => g i a + h p.toNat b) ++ ps.map fun q => h p.toNat q.toNat) ++ [((List.range n).map fun i => g i a + h z.toNat b) ++ ps.map fun q => h z.toNat q.toNat] = (ps.take (k + 1)).map fun p => ((List.range n).map fun i => g i a + h p.toNat b) ++ ps.map fun q => h p.toNat q.toNat by rw [take_snoc hz, List.map_append]; rfl] at R
      exact ⟨_, _, _, _, rfl, by walk_at "wk"⟩
    · rintro σ H5 ⟨y5, y7, y8, y9, rfl, R⟩
      rw [List.length_map, List.take_length] at R
      walk_at "goR"
      refine q F0 _ (R.wk (L' := .ow oT (.ref F0) (TD (hungT n g a m h b)) :: L) ?_)
      rw [show hungT n g a m h b = rows1 ++ ps.map fun p => ((List.range n).map fun i => g i a + h p.toNat b) ++ ps.map fun q => h p.toNat q.toNat by
        unfold hungT; rw [hps, ← hr1]; rfl]
      walk_at "wk1"
end
section
variable {P : Program} {w : World} {K : PySem.W.Frag} {mg : Str → Option Value} {base : Heap}
theorem ok_l_pool {f : Addr} {fd : FuncData} (F : Fun K "_law_pool" "_law_pool" s_l_pool f fd) (T : Tx K mg) : FnOk P w K mg base CX0 1 f fd P_l_pool (sp_pool K) := by
  refine F.ok sc_l_pool (fun vs H Q E h => ?_) (fun cdv A outer s H vs Q E hr h => ?_)
  · obtain ⟨a, b, x, rfl, _⟩ := h
    rfl
  · obtain ⟨a, ns, k, rfl, hS, h0, h1, q⟩ := h
    refine ⟨_, (pss_cons (ps_set (i := 2) sc_l_pool.nd rfl (Or.inl rfl) pe_int)
  (C8.pss_cut (ps_if (pt_cmpR op_lt (pv 1) (pe_callB (k_len (K := K)) (by rfl) T.len_ (by decide +kernel) (pa_cons (pv 0) pa_nil)) (nomark _))
  (pss_one (ps_set (i := 2) sc_l_pool.nd rfl (Or.inl rfl) (pe_ix (k_ixL (K := K)) (pv 0) (pv 1) (fun _ _ => rfl))))
  pss_nil)
  (pss_cons (ps_if (pt_cmpR op_ge (pv 2) (pe_op op_pow pe_int pe_int) (nomark _))
  (pss_one (ps_ret (pe_lst (pa_cons (pe_op op_sub (pv 2) (pe_op op_pow pe_int pe_int)) (pa_cons pe_int (pa_cons pe_int pa_nil))))))
  pss_nil)
  (pss_one (ps_ret (pe_lst (pa_cons (pv 2) (pa_cons pe_int (pa_cons (pe_op op_mulW pe_int (pv 1)) pa_nil))))))))), ?_⟩
    walk_at "k"
    walk_at "go"
    refine g_cut (fun σ H' => H' = H ∧ ∃ cell : Int, σ = [some (V.ref a), some (V.int k), some (V.int cell)]) ?_ ?_
    all_goals walk_at "go"
    refine g_lenL hS ?_
    walk_at "go"
    rw [List.length_map]
    refine ifD (fun h => ?_) (fun h => ?_)
    · walk_at "go"
      obtain ⟨z, hz⟩ := atI_int (ns := ns) h0 h
      refine g_ixL hS hz ?_
      walk_at "go"
      exact ⟨rfl, _, rfl⟩
    · walk_at "go"
      exact ⟨rfl, _, rfl⟩
    · rintro σ H' ⟨rfl, cell, rfl⟩
      walk_at "go"
      refine ifD (fun h => ?_) (fun h => ?_)
      · walk_at "go"
        refine ⟨(by show 3 ≤ sizeLine; decide), fun p np => q p _ np (same_new np) ⟨_, _, _, upd_same, by decide, by decide⟩⟩
      · walk_at "go"
        refine g_mul (mulW 64 64 (by decide) (by omega)) ?_
        walk_at "go"
        refine ⟨(by show 3 ≤ sizeLine; decide), fun p np => q p _ np (same_new np) ⟨_, _, _, upd_same, by omega, by omega⟩⟩
theorem ok_l_take {f : Addr} {fd : FuncData} (F : Fun K "_law_take" "_law_take" s_l_take f fd) (T : Tx K mg) : FnOk P w K mg base CX0 1 f fd P_l_take (sp_take K) := by
  refine F.ok sc_l_take (fun vs H Q E h => ?_) (fun cdv A outer s H vs Q E hr h => ?_)
  · obtain ⟨a, b, x, rfl, _⟩ := h
    rfl
  · obtain ⟨p, n, m, rfl, ⟨a, b, c, e, h0, h1⟩, hn, hm, hl, q⟩ := h
    refine ⟨_, (pss_cons (ps_if (pt_cmpR op_eq (pe_ix (k_ixL (K := K)) (pv 0) pe_int (fun _ _ => rfl)) pe_int (nomark _))
  (pss_cons (ps_set (i := 2) sc_l_take.nd rfl (Or.inl rfl) (pe_op op_mod (pe_ix (k_ixL (K := K)) (pv 0) pe_int (fun _ _ => rfl)) (pv 1)))
  (pss_cons (ps_asg (pe_op op_fdivW (pe_ix (k_ixL (K := K)) (pv 0) pe_int (fun _ _ => rfl)) (pv 1)) (pg_sub (pv 0) pe_int set_list))
  (pss_one (ps_ret (pv 2)))))
  pss_nil)
  (pss_cons (ps_asg (pe_op op_add (pe_ix (k_ixL (K := K)) (pv 0) pe_int (fun _ _ => rfl)) pe_int) (pg_sub (pv 0) pe_int set_list))
  (pss_cons (ps_set (i := 3) sc_l_take.nd rfl (Or.inl rfl) (pe_ix (k_ixL (K := K)) (pv 0) pe_int (fun _ _ => rfl)))
  (pss_cons (ps_set (i := 4) sc_l_take.nd rfl (Or.inl rfl) (pe_op op_mulW (pe_op op_add (pe_op op_mod (pe_ix (k_ixL (K := K)) (pv 0) pe_int (fun _ _ => rfl)) pe_int) pe_int) (pe_op op_add (pe_op op_mulW pe_int (pv 3)) pe_int)))
  (pss_cons (ps_set (i := 4) sc_l_take.nd rfl (Or.inl rfl) (pe_op op_add (pv 4) (pe_op op_mulW (pe_op op_mulW pe_int (pv 3)) (pv 3))))
  (pss_cons (ps_set (i := 4) sc_l_take.nd rfl (Or.inl rfl) (pe_op op_mod (pe_op op_mulW (pv 4) (pv 4)) pe_int))
  (pss_one (ps_ret (pe_op op_mod (pe_op op_fdivW (pe_op op_mod (pe_op op_mulW (pv 4) (pe_op op_add (pv 4) pe_int)) pe_int) pe_int) (pv 1)))))))))), ?_⟩
    walk_at "k"
    have S := SqL.of (K := K) e
    walk_at "go"
    refine g_ixL S rfl ?_
    walk_at "go"
    refine ifD (fun h => ?_) (fun h => ?_)
    · walk_at "go"
      refine g_ixL S rfl ?_
      walk_at "go"
      refine g_ixL S rfl ?_
      walk_at "go"
      refine g_div (wide_div hm hl (by decide) (by decide)) ?_
      walk_at "go"
      refine g_setL e rfl ?_
      walk_at "go"
      exact q _ _ (Int.emod_nonneg _ (by omega)) (Int.emod_lt_of_pos _ hm) But.mut ⟨_, _, _, upd_same, h0, by omega⟩
    · walk_at "go"
      refine g_ixL S rfl ?_
      walk_at "go"
      refine g_setL e rfl ?_
      walk_at "go"
      refine g_ixL (SqL.of upd_same) rfl ?_
      walk_at "go"
      refine g_ixL (SqL.of upd_same) rfl ?_
      walk_at "go"
      refine g_mul (mulW 70 70 (by decide) (by omega)) ?_
      walk_at "go"
      have a0 := Int.emod_nonneg a (b := 9999999641) (by decide)
      have a1 := Int.emod_lt_of_pos a (b := 9999999641) (by decide)
      refine g_mul (mulW 70 70 (by omega) (by omega)) ?_
      walk_at "go"
      refine g_mul (mulW 70 70 (by decide) (by omega)) ?_
      walk_at "go"
      refine g_mul (mulW 140 70 (by omega) (by omega)) ?_
      walk_at "go"
      have b1 : ((a % 9999999641 + 953) * (17 * (c + 1) + 43)).natAbs < 2 ^ 140 := natAbs_mul_lt (n := 70) (m := 70) (by omega) (by omega)
      have b2 : (3413 * (c + 1) * (c + 1)).natAbs < 2 ^ 150 := natAbs_mul_lt (n := 80) (m := 70) (by omega) (by omega)
      refine g_mul (mulW 160 160 (by omega) (by omega)) ?_
      walk_at "go"
      have m0 : ∀ z : Int, (z % 99999999683).natAbs < 2 ^ 40 := fun z => by
        have := Int.emod_nonneg z (b := 99999999683) (by decide)
        have := Int.emod_lt_of_pos z (b := 99999999683) (by decide)
        omega
      refine g_mul (mulW 40 41 (m0 _) (by have := m0 (((a % 9999999641 + 953) * (17 * (c + 1) + 43) + 3413 * (c + 1) * (c + 1)) * ((a % 9999999641 + 953) * (17 * (c + 1) + 43) + 3413 * (c + 1) * (c + 1))); omega)) ?_
      walk_at "go"
      refine g_div (wide_div (b := 40) (j := 73) (by decide) (by decide) (by decide) (by decide)) ?_
      walk_at "go"
      exact q _ _ (Int.emod_nonneg _ (by omega)) (Int.emod_lt_of_pos _ hm) But.mut ⟨_, _, _, upd_same, by omega, by omega⟩
end
section
variable {P : Program} {w : World} {K : PySem.W.Frag} {mg : Str → Option Value} {base : Heap}
theorem ok_l_lowest {f : Addr} {fd : FuncData} (F : Fun K "_law_lowest" "_law_lowest" s_l_lowest f fd) (T : Tx K mg) : FnOk P w K mg base CX0 1 f fd P_l_lowest sp_fraction := by
  refine F.ok sc_l_lowest (fun vs H Q E h => ?_) (fun cdv A outer s H vs Q E hr h => ?_)
  · obtain ⟨a, b, rfl, _⟩ := h
    rfl
  · obtain ⟨t, b, rfl, hb, hl, q⟩ := h
    refine ⟨_, (pss_cons (ps_set (i := 2) sc_l_lowest.nd rfl (Or.inl rfl) (pe_callB cr_abs (by rfl) T.abs_ (by decide +kernel) (pa_cons (pv 0) pa_nil)))
  (pss_cons (ps_set (i := 3) sc_l_lowest.nd rfl (Or.inl rfl) (pe_callB cr_abs (by rfl) T.abs_ (by decide +kernel) (pa_cons (pv 1) pa_nil)))
  (pss_cons (ps_while PassesOwn.never (pt_cmpR op_ne (pv 3) pe_int (nomark _))
  (pss_one (ps_par (i := 2) (j := 3) rfl sc_l_lowest.nd rfl rfl (by decide) rfl rfl (pa_cons (pv 3) (pa_cons (pe_op op_modN (pv 2) (pv 3)) pa_nil)) rfl)))
  (pss_cons (ps_if (pt_cmpR op_lt (pv 1) pe_int (nomark _))
  (pss_one (ps_set (i := 2) sc_l_lowest.nd rfl (Or.inl rfl) (pe_op op_sub pe_int (pv 2))))
  pss_nil)
  (pss_one (ps_ret (pe_tup (pa_cons (pe_op op_fdivV (pv 0) (pv 2)) (pa_cons (pe_op op_fdivV (pv 1) (pv 2)) pa_nil))))))))), ?_⟩
    walk_at "k"
    walk_at "go"
    have hg := gcd_lt (t := t) hb hl
    have hp := gcd_pos' (t := t) hb
    refine while_by (fun σ H' => ∃ x y : Int, σ = [some (.int t), some (.int b), some (.int x), some (.int y)] ∧ H' = H ∧ Int.gcd x y = Int.gcd t b ∧ 0 ≤ x ∧ 0 ≤ y) (fun σ _ => match σ with | [_, _, _, some (.int y)] => y.natAbs | _ => 0)
      ⟨_, _, rfl, rfl, gcd_abs t b, by split <;> omega, by split <;> omega⟩ ?_ ?_
    · rintro σ H' ⟨x, y, rfl, rfl, e, x0, y0⟩
      walk_at "go"
      refine ifND (fun h => ?_) (fun h => ?_)
      · walk_at "go"
        refine g_modN h ?_
        walk_at "go"
        exact ⟨⟨y, x.fmod y, rfl, rfl, (gcd_fmod x y).trans e, y0, Int.fmod_nonneg x0 y0⟩, fmod_small x y h⟩
      · subst h
        have e0 : x = (Int.gcd t b : Int) := by rw [← e, Int.gcd_zero_right]; omega
        subst e0
        walk_at "go"
        refine ifD (fun h => ?_) (fun h => ?_)
        · walk_at "go"
          refine g_divV (divV 8500 (by omega) (by omega)) ?_
          walk_at "go"
          refine g_divV (divV 8500 (by omega) (by omega)) ?_
          walk_at "go"
          refine ⟨two_le, fun p np => ?_⟩
          have := q p np
          unfold FV at this
          rw [divInt_num t b hb, divInt_den t b hb, if_pos h, if_pos h] at this
          rw [Int.zero_sub]
          exact this
        · walk_at "go"
          refine g_divV (divV 8500 (by omega) (by omega)) ?_
          walk_at "go"
          refine g_divV (divV 8500 (by omega) (by omega)) ?_
          walk_at "go"
          refine ⟨two_le, fun p np => ?_⟩
          have := q p np
          unfold FV at this
          rw [divInt_num t b hb, divInt_den t b hb, if_neg h, if_neg h] at this
          exact this
    · intro σ H Q Q' h t
      obtain ⟨v, e1, i, k, e3, q⟩ := t
      exact ⟨v, e1, i, k, e3, h _ _ q⟩
end
section
variable {P : Program} {w : World} {K : PySem.W.Frag} {mg : Str → Option Value} {base : Heap} {Pr : Rat → Prop}
theorem okP_l_line {f : Addr} {fd : FuncData} (F : Fun K "_law_line" "_law_line" s_l_line f fd) (T : Tx K mg) (c_l_take : Cal P w K mg base 1 "_law_take" (sp_take K) []) (hPr : ∀ z : Int, 0 ≤ z → z ≤ 8 → Pr z) : FnOk P w K mg base CX0 2 f fd P_l_line (sp_dtable K Pr 10) := by
  refine F.ok sc_l_line (fun vs H Q E h => ?_) (fun cdv A outer s H vs Q E hr h => ?_)
  · obtain ⟨L, L1, p, n, m, rfl, _⟩ := h
    rfl
  · obtain ⟨L, L1, p, n, m, rfl, R, hs, hn, hm, q⟩ := h
    refine ⟨_, (pss_cons (ps_set (i := 2) sc_l_line.nd rfl (Or.inr rfl) (pe_lc (own := [("point", 3)]) (g := gName 3) (tt := tYes) rfl sc_l_line.nd (pi_range1 (by rfl) T.range_ (pa_cons (pv 1) pa_nil)) (blkOk_by (own := [("point", 3)]) (N := N_l_line) (sc := defScope s_l_line) (by decide +kernel)) (fun _ _ _ _ _ => (pg_name (i := 3) sc_l_line.nd rfl (Or.inl rfl))) (fun _ _ _ _ _ => pts_nil) (fun _ _ _ _ _ => (pe_c c_l_take hr (by decide) rfl (pa_cons (pv 0) (pa_cons pe_int pa_nil))))))
  (pss_one (ps_ret (pe_lc (own := [("one", 4)]) (g := gName 4) (tt := tYes) rfl sc_l_line.nd (k_piL (K := K) (pv 2)) (blkOk_by (own := [("one", 4)]) (N := N_l_line) (sc := defScope s_l_line) (by decide +kernel)) (fun _ _ _ _ _ => (pg_name (i := 4) sc_l_line.nd rfl (Or.inr rfl))) (fun _ _ _ _ _ => pts_nil) (fun _ _ _ _ _ => (pe_lc (own := [("other", 5)]) (g := gName 5) (tt := tYes) rfl sc_l_line.nd (k_piL (K := K) (pv 2)) (blkOk_by (own := [("other", 5)]) (by rfl)) (fun _ _ _ _ _ => (pg_name (i := 5) sc_l_line.nd rfl (Or.inl rfl))) (fun _ _ _ _ _ => pts_nil) (fun _ _ _ _ _ => (pe_tup (pa_cons (pe_callB cr_abs (by rfl) T.abs_ (by decide +kernel) (pa_cons (pe_op op_sub (pv 4) (pv 5)) pa_nil)) (pa_cons pe_int pa_nil)))))))))), ?_⟩
    have R := R.sel hs
    walk_at "goR"
    refine g_rng1 (by omega) ?_
    intro C nC
    refine lco_range .lf (fun j ds L' => ∃ ps : List Int, ds = ps.map PyData.int ∧ ps.length = j ∧ (∀ z ∈ ps, 0 ≤ z ∧ z < 9) ∧ L' = .pr (PoolP (n + j)) p :: L1) (R.wk (L' := .pr (PoolP (n + 0)) p :: L1) (by walk_at "wk1")) nC ⟨[], rfl, rfl, (fun _ h => by cases h), rfl⟩ (by omega) ?_ ?_
    · rintro j ds L' X H8 hj ⟨ps, rfl, lp, bp, rfl⟩ R Qy Qn q1 q2
      walk_at "goR"
      refine ⟨rfl, ?_⟩
      walk_at "goR"
      walk_at "take"
      intro r5 H9 _ _ R
      walk_at "goR"
      refine q1 _ (.int r5) _ _ ⟨ps ++ [r5], by rw [List.map_append]; rfl, by rw [List.length_append, lp]; rfl, fun z hz => ?_, rfl⟩ ((R.int _).wk (by walk_at "wk1"))
      rcases List.mem_append.mp hz with h | h
      · exact bp z h
      · rw [List.mem_singleton.mp h]; omega
    rintro ds L' H8 ⟨ps, rfl, lp, bp, rfl⟩ R
    have lp : ps.length = m := by omega
    have R : Rp K H8 (.pr (PoolP (n + (m : Int).toNat)) p :: .ow (.li .lf) (.ref C) (IL ps) :: L1) := by walk_at "wk"
    have R := R.poolMono (m := n + 10) (by omega)
    walk_at "goR"
    refine g_ilM R (by walk_at "mem") ?_
    intro C2 nC2
    refine lco_list (xs := ps.map V.int) (.li .lf) (fun i ds L' => ds = (ps.take i).map (fun z => FL (ps.map fun y => (((if z - y < 0 then -(z - y) else z - y) : Int) : Rat))) ∧ L' = .pr (PoolP (n + 10)) p :: .ow (.li .lf) (.ref C) (IL ps) :: L1) R nC2 ⟨rfl, rfl⟩ (by rw [List.length_map]; omega) ?_ ?_ ?_
    · rintro i ds L' X H9 ⟨rfl, rfl⟩ R
      exact R.ilS (s := .li .lf) (by walk_at "mem")
    · rintro i x ds L' X H9 hx ⟨rfl, rfl⟩ R Qy Qn q1 q2
      rw [List.getElem?_map] at hx
      obtain ⟨z, hz, rfl⟩ := Option.map_eq_some_iff.mp hx
      walk_at "goR"
      refine ⟨rfl, ?_⟩
      walk_at "goR"
      refine g_ilM R (by walk_at "mem") ?_
      intro C3 nC3
      refine lco_list (xs := ps.map V.int) .lf (fun j ds L' => ds = (ps.take j).map (fun y => FD (((if z - y < 0 then -(z - y) else z - y) : Int) : Rat)) ∧ L' = X :: .pr (PoolP (n + 10)) p :: .ow (.li .lf) (.ref C) (IL ps) :: L1) R nC3 ⟨rfl, rfl⟩ (by rw [List.length_map]; omega) ?_ ?_ ?_
      · rintro i ds L' X H9 ⟨rfl, rfl⟩ R
        exact R.ilS (s := .li .lf) (by walk_at "mem")
      · rintro j x ds L' X2 H10 hx ⟨rfl, rfl⟩ R Qy2 Qn2 q3 q4
        rw [List.getElem?_map] at hx
        obtain ⟨y, hy, rfl⟩ := Option.map_eq_some_iff.mp hx
        walk_at "goR"
        refine ⟨rfl, ?_⟩
        walk_at "goR"
        refine g_frI R fun c nc R => ?_
        exact q3 _ _ _ _ ⟨by rw [take_snoc hy, List.map_append]; rfl, rfl⟩ R
      · rintro ds L' H10 ⟨rfl, rfl⟩ R
        rw [List.length_map, List.take_length] at R
        refine q1 _ (FL (ps.map fun y => (((if z - y < 0 then -(z - y) else z - y) : Int) : Rat))) _ _ ⟨by rw [take_snoc hz, List.map_append]; rfl, rfl⟩ ?_
        rw [show FL (ps.map fun y => (((if z - y < 0 then -(z - y) else z - y) : Int) : Rat)) = .list (ps.map fun y => FD (((if z - y < 0 then -(z - y) else z - y) : Int) : Rat)) by unfold FL; rw [List.map_map]; rfl]
        exact R
    · rintro ds L' H9 ⟨rfl, rfl⟩ R
      rw [List.length_map, List.take_length] at R
      walk_at "goR"
      have bz : ∀ i, 0 ≤ ps.getD i 0 ∧ ps.getD i 0 < 9 := fun i => by
        rw [List.getD_eq_getElem?_getD]
        cases h : ps[i]? with
        | none => exact ⟨by decide, by decide⟩
        | some z => exact bp z (List.mem_of_getElem? h)
      refine q C2 (fun i j => (((if ps.getD i 0 - ps.getD j 0 < 0 then -(ps.getD i 0 - ps.getD j 0) else ps.getD i 0 - ps.getD j 0) : Int) : Rat)) _ ⟨fun i j => ?_, fun i => ?_, fun i j => ?_, fun i j => ?_⟩ (fun i j => ?_) ?_
      · congr 1; split <;> split <;> omega
      · rw [Int.sub_self]; rfl
      · have := bz i; have := bz j
        have : 0 ≤ (if ps.getD i 0 - ps.getD j 0 < 0 then -(ps.getD i 0 - ps.getD j 0) else ps.getD i 0 - ps.getD j 0) := by split <;> omega
        exact_mod_cast this
      · have := bz i; have := bz j
        refine (Bd_int (n := 8) ?_).mono (by decide)
        unfold IB
        split <;> omega
      · have := bz i; have := bz j
        exact hPr _ (by split <;> omega) (by split <;> omega)
      · refine R.wk (L' := .ow oT (.ref C2) (TD (tabG m _)) :: .pr (PoolP (n + 10)) p :: L1) ?_
        rw [show TD (tabG m fun i j => (((if ps.getD i 0 - ps.getD j 0 < 0 then -(ps.getD i 0 - ps.getD j 0) else ps.getD i 0 - ps.getD j 0) : Int) : Rat)) = .list (ps.map fun z => FL (ps.map fun y => (((if z - y < 0 then -(z - y) else z - y) : Int) : Rat))) by
          unfold TD tabG
          rw [List.map_map, map_getD _ (0 : Int) ps, lp]
          congr 1
          apply List.map_congr_left
          intro i _
          show FL _ = FL _
          rw [map_getD _ (0 : Int) ps, lp]]
        walk_at "wk1"
theorem okP_l_table {f : Addr} {fd : FuncData} (F : Fun K "_law_table" "_law_table" s_l_table f fd) (T : Tx K mg) (c_l_take : Cal P w K mg base 1 "_law_take" (sp_take K) []) (c_l_distance : Cal P w K mg base 3 "_law_distance" (sp_dist K Pr) []) (c_l_line : Cal P w K mg base 2 "_law_line" (sp_dtable K Pr 10) []) (hPr : ∀ z : Int, 0 ≤ z → z ≤ 8 → Pr z) : FnOk P w K mg base CX0 4 f fd P_l_table (sp_dtable K Pr 5000) := by
  refine F.ok sc_l_table (fun vs H Q E h => ?_) (fun cdv A outer s H vs Q E hr h => ?_)
  · obtain ⟨L, L1, p, n, m, rfl, _⟩ := h
    rfl
  · obtain ⟨L, L1, p, n, m, rfl, R, hs, hn, hm, q⟩ := h
    refine ⟨_, (pss_cons (ps_if (pt_cmpR op_eq (pe_c c_l_take hr (by decide) rfl (pa_cons (pv 0) (pa_cons pe_int pa_nil))) pe_int (nomark _))
  (pss_one (ps_ret (pe_c c_l_line hr (by decide) rfl (pa_cons (pv 0) (pa_cons (pv 1) pa_nil)))))
  pss_nil)
  (pss_cons (ps_set (i := 2) sc_l_table.nd rfl (Or.inl rfl) (pe_c c_l_take hr (by decide) rfl (pa_cons (pv 0) (pa_cons pe_int pa_nil))))
  (pss_cons (ps_setLc (i := 3) (own := [("one", 4)]) (g := gName 4) (tt := tYes) rfl sc_l_table.nd rfl rfl (sw_true rfl rfl rfl (by decide +kernel)) (pi_range1 (by rfl) T.range_ (pa_cons (pv 1) pa_nil)) (blkOk_by (own := [("one", 4)]) (N := N_l_table) (sc := defScope s_l_table) (by decide +kernel)) (fun _ _ _ _ _ => (pg_name (i := 4) sc_l_table.nd rfl (Or.inl rfl))) (fun _ _ _ _ _ => pts_nil) (fun _ _ _ _ _ => (pe_lc (own := [("other", 5)]) (g := gName 5) (tt := tYes) rfl sc_l_table.nd (pi_range1 (by rfl) T.range_ (pa_cons (pv 1) pa_nil)) (blkOk_by (own := [("other", 5)]) (by rfl)) (fun _ _ _ _ _ => (pg_name (i := 5) sc_l_table.nd rfl (Or.inl rfl))) (fun _ _ _ _ _ => pts_nil) (fun _ _ _ _ _ => (pe_tup (pa_cons pe_int (pa_cons pe_int pa_nil)))))))
  (pss_cons (ps_for PassesOwn.never rfl (pi_range1 (by rfl) T.range_ (pa_cons (pv 1) pa_nil)) (pg_name (i := 4) sc_l_table.nd rfl (Or.inl rfl))
  (pss_one (ps_for PassesOwn.never rfl (pi_range1 (by rfl) T.range_ (pa_cons (pv 4) pa_nil)) (pg_name (i := 5) sc_l_table.nd rfl (Or.inl rfl))
  (pss_cons (ps_set (i := 6) sc_l_table.nd rfl (Or.inl rfl) (pe_ix (k_ixL (K := K)) (pe_lst (pa_cons (pe_c c_l_distance hr (by decide) rfl (pa_cons (pv 0) pa_nil)) (pa_cons (pe_tup (pa_cons (pe_op op_add pe_int (pe_c c_l_take hr (by decide) rfl (pa_cons (pv 0) (pa_cons pe_int pa_nil)))) (pa_cons pe_int pa_nil))) (pa_cons (pe_tup (pa_cons (pe_c c_l_take hr (by decide) rfl (pa_cons (pv 0) (pa_cons pe_int pa_nil))) (pa_cons pe_int pa_nil))) pa_nil)))) (pv 2) (fun _ _ => rfl)))
  (pss_cons (ps_asg (pv 6) (pg_sub (pe_ix (k_ixL (K := K)) (pv 3) (pv 4) (fun _ _ => rfl)) (pv 5) set_list))
  (pss_one (ps_asg (pv 6) (pg_sub (pe_ix (k_ixL (K := K)) (pv 3) (pv 5) (fun _ _ => rfl)) (pv 4) set_list))))))))
  (pss_one (ps_ret (pv 3))))))), ?_⟩
    have R := R.sel hs
    walk_at "goR"
    walk_at "take"
    intro r1 H1 _ _ R
    walk_at "goR"
    refine ifD (fun h => ?_) (fun h => ?_)
    · walk_at "goR"
      refine ⟨_, _, p, n + 1, m, rfl, R, .here, by omega, hm, fun a g H2 tg pg R => ?_⟩
      have R : Rp K H2 (.pr (PoolP (n + 1 + 10)) p :: .ow oT (.ref a) (TD (tabG m g)) :: L1) := by walk_at "wk"
      have R := R.poolMono (m := n + 5000) (by omega)
      walk_at "goR"
      exact q a g H2 tg pg (by walk_at "wk")
    walk_at "goR"
    walk_at "take"
    intro kind H2 _ _ R
    walk_at "goR"
    refine g_rng1 (by omega) ?_
    intro F0 nF
    refine lcm_range (.li .lf) (fun i => FL ((List.range m).map fun j => ((0 : Int) : Rat))) R nF (by omega) ?_ ?_
    · intro i X H3 hi R Qy q1
      walk_at "goR"
      refine ⟨rfl, ?_⟩
      walk_at "goR"
      refine g_rng1 (by omega) ?_
      intro D nD
      refine lcm_range .lf (fun j => FD ((0 : Int) : Rat)) R nD (by omega) ?_ ?_
      · intro j X2 H4 hj R Qy2 q2
        walk_at "goR"
        refine ⟨rfl, ?_⟩
        walk_at "goR"
        refine g_frI R fun c nc R => ?_
        exact q2 _ _ R
      · intro H4 R
        rw [show (m : Int).toNat = m by omega] at R
        refine q1 _ _ ?_
        rw [show FL ((List.range m).map fun j => ((0 : Int) : Rat)) = .list ((List.range m).map fun j => FD ((0 : Int) : Rat)) by unfold FL; rw [List.map_map]; rfl]
        exact R
    intro H3 R
    rw [show (m : Int).toNat = m by omega] at R
    have R : Rp K H3 (.ow oT (.ref F0) (TD (tabG m fun _ _ => ((0 : Int) : Rat))) :: .pr (PoolP (n + 1 + 1)) p :: L1) := by
      rw [show TD (tabG m fun _ _ => ((0 : Int) : Rat)) = .list ((List.range m).map fun i => FL ((List.range m).map fun j => ((0 : Int) : Rat))) by unfold TD tabG; rw [List.map_map]; rfl]
      exact R
    walk_at "goR"
    refine g_rng1 (by omega) ?_
    refine loop_range (fun i σ H' => ∃ g y1 y2 y3, σ = [some (.ref p), some (.int m), some (.int kind), some (.ref F0), y1, y2, y3] ∧ Tab g ∧ (∀ i j, Pr (g i j)) ∧ Rp K H' (.ow oT (.ref F0) (TD (tabG m g)) :: .pr (PoolP (n + 2 + 400 * i)) p :: L1)) ⟨_, _, _, _, rfl, ⟨fun _ _ => rfl, fun _ => rfl, fun _ _ => by decide, fun _ _ => Bd_zero (by decide)⟩, fun _ _ => hPr 0 (by decide) (by decide), R⟩ ?_ ?_
    · rintro i σ H4 hi ⟨g, y1, y2, y3, rfl, tg, pg, R⟩
      walk_at "goR"
      refine g_rng1 (by omega) ?_
      refine loop_range (fun j σ H' => ∃ g y2 y3, σ = [some (.ref p), some (.int m), some (.int kind), some (.ref F0), some (.int (0 + i)), y2, y3] ∧ Tab g ∧ (∀ i j, Pr (g i j)) ∧ Rp K H' (.ow oT (.ref F0) (TD (tabG m g)) :: .pr (PoolP (n + 2 + 400 * i + 40 * j)) p :: L1)) ⟨g, _, _, rfl, tg, pg, R⟩ ?_ ?_
      · rintro j σ H5 hj ⟨g, y2, y3, rfl, tg, pg, R⟩
        walk_at "goR"
        refine ⟨_, _, p, n + 2 + 400 * i + 40 * j, rfl, R, by walk_at "sel", by omega, fun c1 x1 H6 p1 b1 q1 R => ?_⟩
        walk_at "goR"
        walk_at "take"
        intro r3 H7 _ _ R
        walk_at "goR"
        refine g_frI R fun c2 nc2 R => ?_
        generalize upd H7 c2 _ = H8 at R ⊢
        walk_at "goR"
        walk_at "take"
        intro r4 H9 _ _ R
        walk_at "goR"
        refine g_frI R fun c3 nc3 R => ?_
        generalize upd H9 c3 _ = H10 at R ⊢
        walk_at "goR"
        refine g_l3R R (s := .lf) (x := .ref c1) (y := .ref c2) (z := .ref c3) (by walk_at "sel") (by walk_at "sel") (by walk_at "sel") fun c4 nc4 R => ?_
        generalize upd H10 c4 _ = H11 at R ⊢
        have R := R.fz
        walk_at "goR"
        obtain ⟨x, hx, p0, b0, pr0⟩ : ∃ x, [FD x1, FD ((3 + r3 : Int) : Rat), FD ((r4 : Int) : Rat)][kind.toNat]? = some (FD x) ∧ 0 ≤ x ∧ Bd 134 x ∧ Pr x := by
          have h3 : (0 : Rat) ≤ ((3 + r3 : Int) : Rat) := by exact_mod_cast (show (0 : Int) ≤ 3 + r3 by omega)
          have h4 : (0 : Rat) ≤ ((r4 : Int) : Rat) := by exact_mod_cast (show (0 : Int) ≤ r4 by omega)
          rcases (by omega : kind = 0 ∨ kind = 1 ∨ kind = 2) with rfl | rfl | rfl
          · exact ⟨x1, rfl, p1, b1, q1⟩
          · exact ⟨_, rfl, h3, (Bd_int (n := 8) (by unfold IB; omega)).mono (by decide), hPr _ (by omega) (by omega)⟩
          · exact ⟨_, rfl, h4, (Bd_int (n := 8) (by unfold IB; omega)).mono (by decide), hPr _ (by omega) (by omega)⟩
        refine g_ixS R mem_here (k := kind.toNat) (by omega) hx fun w R => ?_
        obtain ⟨w, rfl⟩ := sh_tup R
        have R := R.wk (L' := .ow oT (.ref F0) (TD (tabG m g)) :: .sh (.ref w) (FD x) :: .sh (.ref w) (FD x) :: .pr (PoolP (n + 2 + 400 * i + 40 * j + 30 + 1 + 1)) p :: L1) (by walk_at "wk1")
        walk_at "goR"
        refine g_ixRow i R mem_here (by omega) (by rw [tabG_len]; omega) fun r vs e1 d1 hr => ?_
        walk_at "goR"
        refine g_set2 i j R .here .here (by rw [tabG_len]; omega) hr (by omega) (by rw [tabG_row (by omega), List.length_map, List.length_range]; omega) fun H12 R => ?_
        rw [tabG_set (by omega) (by omega)] at R
        walk_at "goR"
        refine g_ixRow j R mem_here (by omega) (by rw [tabG_len]; omega) fun r vs e1 d1 hr => ?_
        walk_at "goR"
        refine g_set2 j i R .here .here (by rw [tabG_len]; omega) hr (by omega) (by rw [tabG_row (by omega), List.length_map, List.length_range]; omega) fun H13 R => ?_
        rw [tabG_set (by omega) (by omega)] at R
        have R := (R.wk (L' := .pr (PoolP (n + 2 + 400 * i + 40 * j + 30 + 1 + 1)) p :: .ow oT (.ref F0) (TD (tabG m fun a b => if a = j ∧ b = i then x else if a = i ∧ b = j then x else g a b)) :: L1) (by walk_at "wk1")).poolMono (m := n + 2 + 400 * i + 40 * (j + 1)) (by omega)
        refine ⟨_, _, _, rfl, ⟨fun a b => ?_, fun a => ?_, fun a b => ?_, fun a b => ?_⟩, fun a b => ?_, by walk_at "wk"⟩
        · have := tg.sy a b
          split <;> split <;> (try split) <;> (try split) <;> first | rfl | assumption | omega
        · rw [if_neg (by omega), if_neg (by omega)]; exact tg.di a
        · split
          · exact p0
          · split
            · exact p0
            · exact tg.po a b
        · split
          · exact b0
          · split
            · exact b0
            · exact tg.bd a b
        · split
          · exact pr0
          · split
            · exact pr0
            · exact pg a b
      · rintro σ H5 ⟨g, y2, y3, rfl, tg, pg, R⟩
        have R := (R.wk (L' := .pr (PoolP (n + 2 + 400 * i + 40 * ((0 : Int) + i).toNat)) p :: .ow oT (.ref F0) (TD (tabG m g)) :: L1) (by walk_at "wk1")).poolMono (m := n + 2 + 400 * (i + 1)) (by omega)
        exact ⟨g, _, _, _, rfl, tg, pg, by walk_at "wk"⟩
    · rintro σ H4 ⟨g, y1, y2, y3, rfl, tg, pg, R⟩
      have R := (R.wk (L' := .pr (PoolP (n + 2 + 400 * (m : Int).toNat)) p :: .ow oT (.ref F0) (TD (tabG m g)) :: L1) (by walk_at "wk1")).poolMono (m := n + 5000) (by omega)
      walk_at "goR"
      exact q F0 g H4 tg pg (by walk_at "wk")
end
section
variable {P : Program} {w : World} {K : PySem.W.Frag} {mg : Str → Option Value} {base : Heap}
theorem cal_mono {j k : Nat} {x : Str} {sp : Sp} {dvs : List V} (c : Cal P w K mg base j x sp dvs) (h : j ≤ k) : Cal P w K mg base k x sp dvs := by
  obtain ⟨f, fd, ps, ds, F, r⟩ := c.ex
  exact ⟨⟨f, fd, ps, ds, F.mono h, r⟩⟩
theorem erase_perm {α : Type} {l : List α} {k : Nat} (h : k < l.length) : (l[k] :: l.eraseIdx k).Perm l := by
  induction l generalizing k with
  | nil => simp at h
  | cons x l ih =>
    cases k with
    | zero => exact .refl _
    | succ k =>
      have h : k < l.length := by simpa using h
      exact (List.Perm.swap x l[k] (l.eraseIdx k)).trans ((ih h).cons x)
theorem ok_l_distance {f : Addr} {fd : FuncData} (F : Fun K "_law_distance" "_law_distance" s_l_distance f fd) (T : Tx K mg) (c_l_take : Cal P w K mg base 1 "_law_take" (sp_take K) []) (c_l_lowest : Cal P w K mg base 1 "_law_lowest" sp_fraction []) : FnOk P w K mg base CX0 2 f fd P_l_distance (sp_dist K (fun _ => True)) := by
  refine F.ok sc_l_distance (fun vs H Q E h => ?_) (fun cdv A outer s H vs Q E hr h => ?_)
  · obtain ⟨L, L1, p, n, rfl, _⟩ := h
    rfl
  · obtain ⟨L, L1, p, n, rfl, R, hs, hn, q⟩ := h
    refine ⟨_, (pss_cons (ps_set (i := 1) sc_l_distance.nd rfl (Or.inl rfl) (pe_c c_l_take hr (by decide) rfl (pa_cons (pv 0) (pa_cons pe_int pa_nil))))
  (pss_cons (ps_if (pt_cmpR op_lt (pv 1) pe_int (nomark _))
  (pss_one (ps_ret (pe_tup (pa_cons pe_int (pa_cons pe_int pa_nil)))))
  pss_nil)
  (pss_one (ps_ret (pe_c c_l_lowest hr (by decide) rfl (pa_cons (pe_op op_add pe_int (pe_c c_l_take hr (by decide) rfl (pa_cons (pv 0) (pa_cons pe_int pa_nil)))) (pa_cons (pe_ix (k_ixL (K := K)) (pe_lst (pa_cons pe_int (pa_cons pe_int (pa_cons pe_int (pa_cons pe_int pa_nil))))) (pe_c c_l_take hr (by decide) rfl (pa_cons (pv 0) (pa_cons pe_int pa_nil))) (fun _ _ => rfl)) pa_nil))))))), ?_⟩
    have R := R.sel hs
    walk_at "goR"
    walk_at "take"
    intro r1 H1 _ _ R
    walk_at "goR"
    refine ifD (fun h => ?_) (fun h => ?_)
    · walk_at "goR"
      refine g_frI R fun c nc R => ?_
      have R : Rp K _ (.pr (PoolP (n + 1)) p :: .sh (.ref c) (FD ((0 : Int) : Rat)) :: L1) := R.wk (by walk_at "wk1")
      have R := R.poolMono (m := n + 30) (by omega)
      exact q c ((0 : Int) : Rat) _ (by decide) (Bd_zero (by decide)) trivial (R.wk (by walk_at "wk1"))
    walk_at "goR"
    walk_at "take"
    intro r2 H2 _ _ R
    walk_at "goR"
    refine g_intsR (ns := [1, 1, 2, 3]) R rfl (by decide) fun o no R => ?_
    generalize upd H2 o _ = H3 at R ⊢
    walk_at "goR"
    walk_at "take"
    intro r3 H4 _ _ R
    refine g_ixAny (fun z => 1 ≤ z ∧ z ≤ 3) R (by walk_at "mem") (by omega) (by show r3 < 4; omega) (by decide) fun z hz => ?_
    walk_at "goR"
    refine g_fracR R (by omega) (by unfold IB; omega) fun c H5 R => ?_
    have R : Rp K H5 (.pr (PoolP (n + 1 + 1 + 1)) p :: .sh (.ref c) (FD (Rat.divInt (1 + r2) z)) :: L1) := by walk_at "wk"
    have R := R.poolMono (m := n + 30) (by omega)
    exact q c (Rat.divInt (1 + r2) z) H5 (divInt_nn (by omega) (by omega)) (Bd_divInt (by omega) (by omega) (by omega)) trivial (by walk_at "wk")
theorem ok_l_line {f : Addr} {fd : FuncData} (F : Fun K "_law_line" "_law_line" s_l_line f fd) (T : Tx K mg) (c_l_take : Cal P w K mg base 1 "_law_take" (sp_take K) []) : FnOk P w K mg base CX0 2 f fd P_l_line (sp_dtable K (fun _ => True) 10) := okP_l_line F T c_l_take (fun _ _ _ => trivial)
theorem ok_l_table {f : Addr} {fd : FuncData} (F : Fun K "_law_table" "_law_table" s_l_table f fd) (T : Tx K mg) (c_l_take : Cal P w K mg base 1 "_law_take" (sp_take K) []) (c_l_distance : Cal P w K mg base 2 "_law_distance" (sp_dist K (fun _ => True)) []) (c_l_line : Cal P w K mg base 2 "_law_line" (sp_dtable K (fun _ => True) 10) []) : FnOk P w K mg base CX0 4 f fd P_l_table (sp_dtable K (fun _ => True) 5000) := okP_l_table F T c_l_take (cal_mono c_l_distance (by decide)) c_l_line (fun _ _ _ => trivial)
/-- a drawn order of points -/
def sp_order (K : PySem.W.Frag) : Sp := fun vs H Q _ => ∃ (L L1 : List Fc.It) (p : Addr) (n m : Nat), vs = [.ref p, .int m] ∧ Rp K H L ∧ Sel (.pr (PoolP n) p) L L1 ∧ n ≤ 2 ^ 50 ∧ m ≤ 100 ∧
  ∀ a ps H', ps.Perm (rg 0 m) → Rp K H' (.ow oI (.ref a) (IL ps) :: .pr (PoolP (n + 100)) p :: L1) → Q (.ref a) H'
theorem ok_l_order {f : Addr} {fd : FuncData} (F : Fun K "_law_order" "_law_order" s_l_order f fd) (T : Tx K mg) (c_l_take : Cal P w K mg base 1 "_law_take" (sp_take K) []) : FnOk P w K mg base CX0 2 f fd P_l_order (sp_order K) := by
  refine F.ok sc_l_order (fun vs H Q E h => ?_) (fun cdv A outer s H vs Q E hr h => ?_)
  · obtain ⟨L, L1, p, n, m, rfl, _⟩ := h
    rfl
  · obtain ⟨L, L1, p, n, m, rfl, R, hs, hn, hm, q⟩ := h
    refine ⟨_, (pss_cons (ps_set (i := 2) sc_l_order.nd rfl (Or.inl rfl) (pe_listRg rfl (by rfl) T.list_ (prg_1 (by rfl) T.range_ (pv 1))))
  (pss_cons (ps_set (i := 3) sc_l_order.nd rfl (Or.inl rfl) (pe_lst pa_nil))
  (pss_cons (ps_for PassesOwn.never rfl (pi_range1 (by rfl) T.range_ (pa_cons (pv 1) pa_nil)) (pg_name (i := 4) sc_l_order.nd rfl (Or.inl rfl))
  (pss_one (ps_expr (pe_bm PySem.F.plainAttrs_list PySem.F.slot_list_append PySem.F.type_list_append mt_append (pv 3) (pa_cons (pe_bm PySem.F.plainAttrs_list PySem.F.slot_list_pop PySem.F.type_list_pop mt_popAt (pv 2) (pa_cons (pe_c c_l_take hr (by decide) rfl (pa_cons (pv 0) (pa_cons (pe_callB (k_len (K := K)) (by rfl) T.len_ (by decide +kernel) (pa_cons (pv 2) pa_nil)) pa_nil))) pa_nil)) pa_nil)))))
  (pss_one (ps_ret (pv 3)))))), ?_⟩
    have R := R.sel hs
    walk_at "goR"
    refine g_lstRg R (by omega) fun c1 nc1 R => ?_
    generalize upd H c1 _ = H1 at R ⊢
    walk_at "goR"
    refine g_l0R .lf R fun c2 nc2 R => ?_
    generalize upd H1 c2 _ = H2 at R ⊢
    walk_at "goR"
    rw [show ((m : Int) - 0).toNat = m by omega] at R
    have R : Rp K H2 (.ow oI (.ref c2) (IL []) :: .ow oI (.ref c1) (IL (rg 0 m)) :: .pr (PoolP (n + 0)) p :: L1) := R.wk (by walk_at "wk1")
    refine g_rng1 (by omega) ?_
    refine loop_range (fun i σ H' => ∃ y4 ls ps, σ = [some (.ref p), some (.int m), some (.ref c1), some (.ref c2), y4] ∧ (ls ++ ps).Perm (rg 0 m) ∧ ls.length + i = m ∧ ps.length = i ∧ Rp K H' (.ow oI (.ref c2) (IL ps) :: .ow oI (.ref c1) (IL ls) :: .pr (PoolP (n + i)) p :: L1)) ⟨_, _, _, rfl, by rw [List.append_nil], by simp [rg_len], rfl, R⟩ ?_ ?_
    · clear R
      rintro i σ H7 hi ⟨y4, ls, ps, rfl, pm0, ll, lp, R⟩
      have hi2 : i < m := by omega
      walk_at "goR"
      rw [List.length_map]
      walk_at "take"
      intro r3 H8 _ _ R
      walk_at "goR"
      have hr3 : r3.toNat < ls.length := by omega
      refine g_popI (k := r3.toNat) R (by walk_at "sel") (by omega) hr3 (by omega) fun H9 R => ?_
      have pl : (ls[r3.toNat] :: ls.eraseIdx r3.toNat).Perm ls := erase_perm hr3
      walk_at "goR"
      generalize ls[r3.toNat] = z3 at pl ⊢
      have R := R.int z3
      refine g_appR R .here (by walk_at "sel") (by rw [List.length_map]; omega) fun H10 R => ?_
      have pm : (ls.eraseIdx r3.toNat ++ (ps ++ [z3])).Perm (ls ++ ps) := by
        refine List.Perm.trans ?_ (pl.append_right ps)
        rw [← List.append_assoc]
        exact List.perm_append_singleton _ _
      walk_at "goR"
      refine ⟨_, ls.eraseIdx r3.toNat, ps ++ [z3], rfl, pm.trans pm0, ?_, by rw [List.length_append, lp]; rfl, ?_⟩
      · rw [List.length_eraseIdx, if_pos hr3]; omega
      · rw [show IL (ps ++ [z3]) = PyData.list (ps.map PyData.int ++ [.int z3]) by unfold IL; rw [List.map_append]; rfl]
        exact R.wk (by walk_at "wk1")
    · clear R
      rintro σ H7 ⟨y4, ls, ps, rfl, pm0, ll, lp, R⟩
      walk_at "goR"
      have l0 : ls = [] := List.eq_nil_of_length_eq_zero (by omega)
      subst l0
      have R : Rp K H7 (.pr (PoolP (n + (m : Int).toNat)) p :: .ow oI (.ref c2) (IL ps) :: L1) := R.wk (by walk_at "wk1")
      have R := R.poolMono (m := n + 100) (by omega)
      exact q c2 ps _ pm0 (R.wk (by walk_at "wk1"))
end
section
variable {P : Program} {w : World} {K : PySem.W.Frag} {mg : Str → Option Value} {base : Heap}
theorem g_neTe {H : Hp} {Q : VK} {L : List Fc.It} {s s1 : Own} {x y : V} {t u : List (List Rat)} (R : Rp K H L) (h1 : Fc.It.ow s x (TD t) ∈ L) (h2 : Fc.It.ow s1 y (TD u) ∈ L) (e : t = u) (q : Q (.bl false) H) : rNeD K x y H Q := by
  subst e
  exact g_neR R h1 h2 Sh.td.ok Sh.td.ok (by rw [SeqAt.eqv_refl _ Sh.td.1]; exact q)
theorem g_eqTe {H : Hp} {Q : VK} {L : List Fc.It} {s s1 : Own} {x y : V} {t u : List (List Rat)} (R : Rp K H L) (h1 : Fc.It.ow s x (TD t) ∈ L) (h2 : Fc.It.ow s1 y (TD u) ∈ L) (e : t = u) (q : Q (.bl true) H) : rEqD K x y H Q := by
  subst e
  exact g_eqR R h1 h2 Sh.td.ok Sh.td.ok (by rw [SeqAt.eqv_refl _ Sh.td.1]; exact q)
def sp_pright (K : PySem.W.Frag) : Sp := fun vs H Q _ => ∃ (L L1 : List Fc.It) (p : Addr) (x y : V) (N n : Nat) (g h : Nat → Nat → Rat), vs = [.ref p, x, y] ∧ Rp K H L ∧ Sel (.pr (PoolP N) p) L L1 ∧ Fc.It.sh x (TD (tabG n g)) ∈ L1 ∧ Fc.It.sh y (TD (tabG n h)) ∈ L1 ∧ N ≤ 2 ^ 41 ∧ 1 ≤ n ∧ n ≤ 10 ∧ (∀ i j, Bd 134 (g i j)) ∧ (∀ i j, Bd 134 (h i j)) ∧
  ∀ H', Rp K H' (.pr (PoolP (N + 300)) p :: L1) → Q (.bl true) H'
theorem ok_l_parts_right {f : Addr} {fd : FuncData} (F : Fun K "_law_parts_right" "_law_parts_right" s_l_parts_right f fd) (T : Tx K mg) (c_part_of : Cal P w K mg base 1 "part_of" (sp_part K) []) (c_added : Cal P w K mg base 4 "added" (sp_added K) []) (c_l_take : Cal P w K mg base 1 "_law_take" (sp_take K) []) (c_l_order : Cal P w K mg base 2 "_law_order" (sp_order K) []) :
    FnOk P w K mg base CX0 5 f fd P_l_parts_right (sp_pright K) := by
  refine F.ok sc_l_parts_right (fun vs H Q E h => ?_) (fun cdv A outer s H vs Q E hr h => ?_)
  · obtain ⟨_, _, _, _, _, _, _, _, _, rfl, _⟩ := h
    rfl
  · obtain ⟨L, L1, p, x, y, N, n, g, h, rfl, R, hs, hx, hy, hN, hn1, hn, bg, bh, q⟩ := h
    refine ⟨_, (pss_cons (ps_set (i := 3) sc_l_parts_right.nd rfl (Or.inr rfl) (pe_c c_l_order hr (by decide) rfl (pa_cons (pv 0) (pa_cons (pe_callB (k_len (K := K)) (by rfl) T.len_ (by decide +kernel) (pa_cons (pv 1) pa_nil)) pa_nil))))
  (pss_cons (ps_setLc (i := 4) (own := [("point", 5)]) (g := gName 5) (tt := tYes) rfl sc_l_parts_right.nd rfl rfl (sw_true rfl rfl rfl (by decide +kernel)) (pi_range1 (by rfl) T.range_ (pa_cons (pe_callB (k_len (K := K)) (by rfl) T.len_ (by decide +kernel) (pa_cons (pv 1) pa_nil)) pa_nil)) (blkOk_by (own := [("point", 5)]) (N := N_l_parts_right) (sc := defScope s_l_parts_right) (by decide +kernel)) (fun _ _ _ _ _ => (pg_name (i := 5) sc_l_parts_right.nd rfl (Or.inl rfl))) (fun _ _ _ _ _ => pts_nil) (fun _ _ _ _ _ => (k_re (K := K) (by rfl) (pe_bm PySem.F.plainAttrs_list PySem.F.slot_list_index PySem.F.type_list_index (k_index (K := K)) (pv 3) (pa_cons (pv 5) pa_nil)))))
  (pss_cons (ps_if (pt_cmpR (k_neD (K := K) hr.units) (pe_c c_part_of hr (by decide) rfl (pa_cons (pe_c c_part_of hr (by decide) rfl (pa_cons (pv 1) (pa_cons (pv 3) pa_nil))) (pa_cons (pv 4) pa_nil))) (pv 1) (nomark _))
  (pss_one (ps_ret pe_bl))
  pss_nil)
  (pss_cons (ps_set (i := 6) sc_l_parts_right.nd rfl (Or.inr rfl) (pe_slice (k_slL (K := K)) (pv 3) po_none (po_some (pe_op op_add pe_int (pe_c c_l_take hr (by decide) rfl (pa_cons (pv 0) (pa_cons (pe_callB (k_len (K := K)) (by rfl) T.len_ (by decide +kernel) (pa_cons (pv 1) pa_nil)) pa_nil)))))))
  (pss_cons (ps_set (i := 7) sc_l_parts_right.nd rfl (Or.inl rfl) (pe_slice (k_slL (K := K)) (pe_c c_l_order hr (by decide) rfl (pa_cons (pv 0) (pa_cons (pe_callB (k_len (K := K)) (by rfl) T.len_ (by decide +kernel) (pa_cons (pv 6) pa_nil)) pa_nil))) po_none (po_some (pe_op op_add pe_int (pe_c c_l_take hr (by decide) rfl (pa_cons (pv 0) (pa_cons (pe_callB (k_len (K := K)) (by rfl) T.len_ (by decide +kernel) (pa_cons (pv 6) pa_nil)) pa_nil)))))))
  (pss_cons (ps_if (pt_cmpR (k_neD (K := K) hr.units) (pe_c c_part_of hr (by decide) rfl (pa_cons (pe_c c_part_of hr (by decide) rfl (pa_cons (pv 1) (pa_cons (pv 6) pa_nil))) (pa_cons (pv 7) pa_nil))) (pe_c c_part_of hr (by decide) rfl (pa_cons (pv 1) (pa_cons (pe_lc (own := [("place", 8)]) (g := gName 8) (tt := tYes) rfl sc_l_parts_right.nd (k_piL (K := K) (pv 7)) (blkOk_by (own := [("place", 8)]) (N := N_l_parts_right) (sc := defScope s_l_parts_right) (by decide +kernel)) (fun _ _ _ _ _ => (pg_name (i := 8) sc_l_parts_right.nd rfl (Or.inl rfl))) (fun _ _ _ _ _ => pts_nil) (fun _ _ _ _ _ => (pe_ix (k_ixL (K := K)) (pv 6) (pv 8) (fun _ _ => rfl)))) pa_nil))) (nomark _))
  (pss_one (ps_ret pe_bl))
  pss_nil)
  (pss_one (ps_ret (pe_cmpR (k_eqD (K := K) hr.units) (pe_c c_part_of hr (by decide) rfl (pa_cons (pe_c c_added hr (by decide) rfl (pa_cons (pv 1) (pa_cons (pv 2) pa_nil))) (pa_cons (pv 6) pa_nil))) (pe_c c_added hr (by decide) rfl (pa_cons (pe_c c_part_of hr (by decide) rfl (pa_cons (pv 1) (pa_cons (pv 6) pa_nil))) (pa_cons (pe_c c_part_of hr (by decide) rfl (pa_cons (pv 2) (pa_cons (pv 6) pa_nil))) pa_nil))) (nomark _)))))))))), ?_⟩
    have R := ((R.sel hs).shM (.tail _ hx)).shM (.tail _ (.tail _ hy))
    obtain ⟨y, rfl⟩ := sh_lst R
    obtain ⟨x, rfl⟩ := sh_lst R.tail
    walk_at "goR"
    rw [List.length_map, tabG_len]
    refine ⟨_, _, p, N, n, rfl, R, by walk_at "sel", by omega, by omega, fun od ps H1 pm R => ?_⟩
    have R := R.fz
    have po := perm_pts pm hn1
    have pl : ps.length = n := by rw [pm.length_eq, rg_len]
    have R : Rp K H1 (.sh (.ref od) (IL ps) :: .sh (.ref x) (TD (tabG n g)) :: .sh (.ref y) (TD (tabG n h)) :: .pr (PoolP (N + 100)) p :: L1) := R.wk (by walk_at "wk1")
    walk_at "goR"
    rw [List.length_map, tabG_len]
    refine g_rng1 (by omega) ?_
    intro C nC
    refine lcmI_range (fun p => ((ps.idxOf ((p : Nat) : Int) : Nat) : Int)) R nC (by omega) ?_ ?_
    · intro i X H2 hi R Qy q1
      have hi : i < n := by omega
      walk_at "goR"
      refine ⟨rfl, ?_⟩
      walk_at "goR"
      rw [Int.zero_add]
      refine g_indexI R (a := od) (ns := ps) (by walk_at "mem") (pm.mem_iff.mpr (rg_mem.mpr (by omega))) ?_
      exact q1 _ R
    intro H2 R
    have R := R.fz
    rw [show (n : Int).toNat = n by omega] at R
    have R : Rp K H2 (.sh (.ref C) (IL (backL n ps)) :: .sh (.ref od) (IL ps) :: .sh (.ref x) (TD (tabG n g)) :: .sh (.ref y) (TD (tabG n h)) :: .pr (PoolP (N + 100)) p :: L1) := R
    have bp := back_pts pm hn1
    have bl : (backL n ps).length = n := by unfold backL; simp
    walk_at "goR"
    refine ⟨_, .lf, .ref x, .ref od, n, g, ps, rfl, R, by walk_at "mem", by walk_at "mem", by omega, by omega, po, fun t1 H3 R => ?_⟩
    have R := R.fz
    rw [partT_tab, pl] at R
    walk_at "goR"
    refine ⟨_, .lf, .ref t1, .ref C, n, _, backL n ps, rfl, R, mem_here, by walk_at "mem", by omega, by omega, bp, fun t2 H4 R => ?_⟩
    have R := R.fz
    rw [partT_tab, bl] at R
    walk_at "goR"
    refine g_neTe R (x := .ref t2) (y := .ref x) (u := tabG n g) mem_here (by walk_at "mem") (tabG_congr fun i j hi hj => by
      rw [(back_at pm hi).2, (back_at pm hj).2]; rfl) ?_
    have R : Rp K H4 (.sh (.ref od) (IL ps) :: .sh (.ref x) (TD (tabG n g)) :: .sh (.ref y) (TD (tabG n h)) :: .pr (PoolP (N + 100)) p :: L1) := R.wk (by walk_at "wk1")
    walk_at "goR"
    rw [List.length_map, tabG_len]
    walk_at "take"
    intro r1 H5 _ _ R
    walk_at "goR"
    obtain ⟨k1, hk1⟩ : ∃ k : Nat, 1 + r1 = k := ⟨(1 + r1).toNat, by omega⟩
    rw [hk1]
    refine g_slTo (k := k1) R (a := od) (ns := ps) (by walk_at "mem") rfl (by omega) fun sm H6 R => ?_
    have R := R.fz
    have sp := take_pts po (k := k1) (by omega)
    have sl : (ps.take k1).length = k1 := by rw [List.length_take]; omega
    generalize ps.take k1 = ss at R sp sl
    walk_at "goR"
    rw [List.length_map, sl]
    refine ⟨_, _, p, N + 100 + 1, k1, rfl, R, by walk_at "sel", by omega, by omega, fun fw0 fs H7 pf R => ?_⟩
    have R := R.fz
    walk_at "goR"
    rw [List.length_map, sl]
    walk_at "take"
    intro r2 H8 _ _ R
    walk_at "goR"
    obtain ⟨k2, hk2⟩ : ∃ k : Nat, 1 + r2 = k := ⟨(1 + r2).toNat, by omega⟩
    rw [hk2]
    have fl : fs.length = k1 := by rw [pf.length_eq, rg_len]
    refine g_slTo (k := k2) R (a := fw0) (ns := fs) (by walk_at "mem") rfl (by omega) fun fw H9 R => ?_
    have R := R.fz
    have fp := take_pts (perm_pts pf (by omega)) (k := k2) (by omega)
    have fl2 : (fs.take k2).length = k2 := by rw [List.length_take]; omega
    generalize fs.take k2 = fs2 at R fp fl2
    have R : Rp K H9 (.pr (PoolP (N + 100 + 1 + 100 + 1)) p :: .sh (.ref fw) (IL fs2) :: .sh (.ref sm) (IL ss) :: .sh (.ref x) (TD (tabG n g)) :: .sh (.ref y) (TD (tabG n h)) :: L1) := R.wk (by walk_at "wk1")
    have R := R.poolMono (m := N + 300) (by omega)
    walk_at "goR"
    refine ⟨_, .lf, .ref x, .ref sm, n, g, ss, rfl, R, by walk_at "mem", by walk_at "mem", by omega, by omega, sp, fun t3 H10 R => ?_⟩
    have R := R.fz
    rw [partT_tab, sl] at R
    walk_at "goR"
    refine ⟨_, .lf, .ref t3, .ref fw, k1, _, fs2, rfl, R, mem_here, by walk_at "mem", by omega, by omega, fp, fun t4 H11 R => ?_⟩
    have R := R.fz
    have R : Rp K H11 (.sh (.ref t4) (TD (partT (fun i j => g (ss.getD i 0).toNat (ss.getD j 0).toNat) fs2)) :: .pr (PoolP (N + 300)) p :: .sh (.ref fw) (IL fs2) :: .sh (.ref sm) (IL ss) :: .sh (.ref x) (TD (tabG n g)) :: .sh (.ref y) (TD (tabG n h)) :: L1) := R.wk (by walk_at "wk1")
    walk_at "goR"
    refine g_ilM R (a := fw) (ds := fs2.map PyData.int) (s := .lf) (by walk_at "mem") ?_
    intro C2 nC2
    refine lco_list (K := K) (a := fw) (xs := fs2.map V.int) .lf (fun i ds L' => ds = ((fs2.take i).map fun p => ss.getD p.toNat 0).map PyData.int ∧ L' = .sh (.ref t4) (TD (partT (fun i j => g (ss.getD i 0).toNat (ss.getD j 0).toNat) fs2)) :: .pr (PoolP (N + 300)) p :: .sh (.ref fw) (IL fs2) :: .sh (.ref sm) (IL ss) :: .sh (.ref x) (TD (tabG n g)) :: .sh (.ref y) (TD (tabG n h)) :: L1) R nC2 ⟨rfl, rfl⟩ (by rw [List.length_map]; omega) ?_ ?_ ?_
    · rintro i ds L' X H12 ⟨rfl, rfl⟩ R
      exact R.ilS (s := .lf) (by walk_at "mem")
    · rintro i v ds L' X H12 hv ⟨rfl, rfl⟩ R Qy Qn q1 q2
      obtain ⟨z, hz, rfl⟩ : ∃ a, fs2[i]? = some a ∧ v = .int a := by
        rw [List.getElem?_map] at hv
        cases h : fs2[i]? with
        | none => rw [h] at hv; cases hv
        | some a => rw [h] at hv; cases hv; exact ⟨a, rfl, rfl⟩
      have pz := pt_in fp (mem_of_at hz)
      walk_at "goR"
      refine ⟨rfl, ?_⟩
      walk_at "goR"
      refine g_ixIL z.toNat R (a := sm) (ns := ss) (s := .lf) (by walk_at "mem") (by omega) (by omega) ?_
      refine q1 _ (.int (ss.getD z.toNat 0)) _ _ ⟨by rw [List.take_add_one, hz, List.map_append, List.map_append]; rfl, rfl⟩ ?_
      exact (R.int _).wk (by walk_at "wk1")
    rintro ds L' H12 ⟨rfl, rfl⟩ R
    rw [List.length_map, List.take_length] at R
    have R : Rp K H12 (.ow oI (.ref C2) (IL (fs2.map fun p => ss.getD p.toNat 0)) :: .sh (.ref t4) (TD (partT (fun i j => g (ss.getD i 0).toNat (ss.getD j 0).toNat) fs2)) :: .pr (PoolP (N + 300)) p :: .sh (.ref fw) (IL fs2) :: .sh (.ref sm) (IL ss) :: .sh (.ref x) (TD (tabG n g)) :: .sh (.ref y) (TD (tabG n h)) :: L1) := R
    walk_at "goR"
    refine ⟨_, oI, .ref x, .ref C2, n, g, _, rfl, R, by walk_at "mem", mem_here, by omega, by rw [List.length_map]; omega, sub_pts sp (by rw [sl]; exact fp), fun t5 H13 R => ?_⟩
    have R := R.fz
    walk_at "goR"
    refine g_neTe R (x := .ref t4) (y := .ref t5) (by walk_at "mem") mem_here (by
      unfold partT
      rw [List.map_map]
      refine List.map_congr_left fun i _ => ?_
      show _ = (List.map (fun j : Int => g (ss.getD i.toNat 0).toNat j.toNat) (List.map (fun p : Int => ss.getD p.toNat 0) fs2))
      rw [List.map_map]; rfl) ?_
    have R : Rp K H13 (.pr (PoolP (N + 300)) p :: .sh (.ref sm) (IL ss) :: .sh (.ref x) (TD (tabG n g)) :: .sh (.ref y) (TD (tabG n h)) :: L1) := R.wk (by walk_at "wk1")
    walk_at "goR"
    refine ⟨_, .ref x, .ref y, n, g, h, rfl, R, by walk_at "mem", by walk_at "mem", by omega, fun i j => (bg i j).mono (by decide), fun i j => (bh i j).mono (by decide), fun t6 H14 R => ?_⟩
    have R := R.fz
    walk_at "goR"
    refine ⟨_, .lf, .ref t6, .ref sm, n, _, ss, rfl, R, mem_here, by walk_at "mem", by omega, by omega, sp, fun t7 H15 R => ?_⟩
    have R := R.fz
    walk_at "goR"
    refine ⟨_, .lf, .ref x, .ref sm, n, g, ss, rfl, R, by walk_at "mem", by walk_at "mem", by omega, by omega, sp, fun t8 H16 R => ?_⟩
    have R := R.fz
    rw [partT_tab g ss, sl] at R
    walk_at "goR"
    refine ⟨_, .lf, .ref y, .ref sm, n, h, ss, rfl, R, by walk_at "mem", by walk_at "mem", by omega, by omega, sp, fun t9 H17 R => ?_⟩
    have R := R.fz
    rw [partT_tab h ss, sl] at R
    walk_at "goR"
    refine ⟨_, .ref t8, .ref t9, k1, _, _, rfl, R, .tail _ mem_here, mem_here, by omega, fun i j => (bg _ _).mono (by decide), fun i j => (bh _ _).mono (by decide), fun t10 H18 R => ?_⟩
    have R := R.fz
    walk_at "goR"
    refine g_eqTe R (x := .ref t7) (y := .ref t10) (by walk_at "mem") mem_here (by rw [partT_tab, sl]) ?_
    exact q _ (R.wk (by walk_at "wk1"))
end
section
variable {P : Program} {w : World} {K : PySem.W.Frag} {mg : Str → Option Value} {base : Heap}
def sp_sright (K : PySem.W.Frag) : Sp := fun vs H Q _ => ∃ (L L1 : List Fc.It) (p : Addr) (x y : V) (N n : Nat) (g h : Nat → Nat → Rat), vs = [.ref p, x, y] ∧ Rp K H L ∧ Sel (.pr (PoolP N) p) L L1 ∧ Fc.It.sh x (TD (tabG n g)) ∈ L1 ∧ Fc.It.sh y (TD (tabG n h)) ∈ L1 ∧ N ≤ 2 ^ 41 ∧ n ≤ 10 ∧ (∀ i j, Bd 134 (g i j)) ∧ (∀ i j, Bd 134 (h i j)) ∧
  ∀ H', Rp K H' (.pr (PoolP (N + 300)) p :: L1) → Q (.bl true) H'
theorem ok_l_sums_right {f : Addr} {fd : FuncData} (F : Fun K "_law_sums_right" "_law_sums_right" s_l_sums_right f fd) (T : Tx K mg) (c_added : Cal P w K mg base 4 "added" (sp_added K) []) (c_times_table : Cal P w K mg base 4 "times_table" (sp_timest K) []) (c_l_take : Cal P w K mg base 1 "_law_take" (sp_take K) []) (c_l_lowest : Cal P w K mg base 1 "_law_lowest" sp_fraction []) :
    FnOk P w K mg base CX0 5 f fd P_l_sums_right (sp_sright K) := by
  refine F.ok sc_l_sums_right (fun vs H Q E h => ?_) (fun cdv A outer s H vs Q E hr h => ?_)
  · obtain ⟨_, _, _, _, _, _, _, _, _, rfl, _⟩ := h
    rfl
  · obtain ⟨L, L1, p, x, y, N, n, g, h, rfl, R, hs, hx, hy, hN, hn, bg, bh, q⟩ := h
    refine ⟨_, (pss_cons (ps_set (i := 3) sc_l_sums_right.nd rfl (Or.inl rfl) (pe_tup (pa_cons (pe_c c_l_take hr (by decide) rfl (pa_cons (pv 0) (pa_cons pe_int pa_nil))) (pa_cons pe_int pa_nil))))
  (pss_cons (ps_set (i := 4) sc_l_sums_right.nd rfl (Or.inl rfl) (pe_c c_l_lowest hr (by decide) rfl (pa_cons (pe_c c_l_take hr (by decide) rfl (pa_cons (pv 0) (pa_cons pe_int pa_nil))) (pa_cons pe_int pa_nil))))
  (pss_cons (ps_if (pt_cmpR (k_neD (K := K) hr.units) (pe_c c_added hr (by decide) rfl (pa_cons (pv 1) (pa_cons (pv 2) pa_nil))) (pe_c c_added hr (by decide) rfl (pa_cons (pv 2) (pa_cons (pv 1) pa_nil))) (nomark _))
  (pss_one (ps_ret pe_bl))
  pss_nil)
  (pss_cons (ps_if (pt_cmpR (k_neD (K := K) hr.units) (pe_c c_added hr (by decide) rfl (pa_cons (pv 1) (pa_cons (pe_c c_added hr (by decide) rfl (pa_cons (pv 2) (pa_cons (pv 1) pa_nil))) pa_nil))) (pe_c c_added hr (by decide) rfl (pa_cons (pe_c c_added hr (by decide) rfl (pa_cons (pv 1) (pa_cons (pv 2) pa_nil))) (pa_cons (pv 1) pa_nil))) (nomark _))
  (pss_one (ps_ret pe_bl))
  pss_nil)
  (pss_cons (ps_if (pt_cmpR (k_neD (K := K) hr.units) (pe_c c_times_table hr (by decide) rfl (pa_cons (pv 3) (pa_cons (pe_c c_added hr (by decide) rfl (pa_cons (pv 1) (pa_cons (pv 2) pa_nil))) pa_nil))) (pe_c c_added hr (by decide) rfl (pa_cons (pe_c c_times_table hr (by decide) rfl (pa_cons (pv 3) (pa_cons (pv 1) pa_nil))) (pa_cons (pe_c c_times_table hr (by decide) rfl (pa_cons (pv 3) (pa_cons (pv 2) pa_nil))) pa_nil))) (nomark _))
  (pss_one (ps_ret pe_bl))
  pss_nil)
  (pss_cons (ps_if (pt_cmpR (k_neD (K := K) hr.units) (pe_c c_times_table hr (by decide) rfl (pa_cons (pv 3) (pa_cons (pe_c c_times_table hr (by decide) rfl (pa_cons (pv 4) (pa_cons (pv 1) pa_nil))) pa_nil))) (pe_c c_times_table hr (by decide) rfl (pa_cons (pv 4) (pa_cons (pe_c c_times_table hr (by decide) rfl (pa_cons (pv 3) (pa_cons (pv 1) pa_nil))) pa_nil))) (nomark _))
  (pss_one (ps_ret pe_bl))
  pss_nil)
  (pss_one (ps_ret (pe_and (pe_cmpR (k_eqD (K := K) hr.units) (pe_c c_added hr (by decide) rfl (pa_cons (pv 1) (pa_cons (pv 1) pa_nil))) (pe_c c_times_table hr (by decide) rfl (pa_cons (pe_tup (pa_cons pe_int (pa_cons pe_int pa_nil))) (pa_cons (pv 1) pa_nil))) (nomark _)) (pe_one (pe_cmpR (k_eqD (K := K) hr.units) (pe_c c_times_table hr (by decide) rfl (pa_cons (pe_tup (pa_cons pe_int (pa_cons pe_int pa_nil))) (pa_cons (pv 1) pa_nil))) (pv 1) (nomark _)))))))))))), ?_⟩
    have R := ((R.sel hs).shM (.tail _ hx)).shM (.tail _ (.tail _ hy))
    obtain ⟨y, rfl⟩ := sh_lst R
    obtain ⟨x, rfl⟩ := sh_lst R.tail
    walk_at "goR"
    walk_at "take"
    intro r1 H1 _ _ R
    walk_at "goR"
    refine g_frI R fun qa nqa R => ?_
    generalize upd H1 qa _ = H2 at R ⊢
    walk_at "goR"
    walk_at "take"
    intro r2 H3 _ _ R
    walk_at "goR"
    refine g_fracR R (by decide) (IB.mono (n := 64) IB.lit (by decide)) fun ra H4 R => ?_
    have R : Rp K H4 (.pr (PoolP (N + 1 + 1)) p :: .sh (.ref ra) (FD (Rat.divInt r2 3)) :: .sh (.ref qa) (FD ((r1 : Int) : Rat)) :: .sh (.ref x) (TD (tabG n g)) :: .sh (.ref y) (TD (tabG n h)) :: L1) := R.wk (by walk_at "wk1")
    have R := R.poolMono (m := N + 300) (by omega)
    have bq : Bd 10 ((r1 : Int) : Rat) := (Bd_int (n := 5) (by unfold IB; omega)).mono (by decide)
    have br : Bd 10 (Rat.divInt r2 3) := Bd_divInt (by decide) (by omega) (by decide)
    have nq : 0 ≤ (((r1 : Int) : Rat)).num := by show (0 : Int) ≤ r1; omega
    have nr : 0 ≤ (Rat.divInt r2 3).num := Rat.num_nonneg.mpr (divInt_nn (by omega) (by decide))
    generalize ((r1 : Int) : Rat) = qq at R bq nq
    generalize Rat.divInt r2 3 = rr at R br nr
    have base : ∀ {H' : Hp} {Lx : List Fc.It}, Rp K H' Lx → True := fun _ => trivial
    clear base
    walk_at "goR"
    refine ⟨_, .ref x, .ref y, n, _, _, rfl, R, by walk_at "mem", by walk_at "mem", by omega, fun i j => by have b1 := bg i j; have b2 := bh i j; exact Bd.mono (by walk_at "bds") (by decide), fun i j => by have b1 := bg i j; have b2 := bh i j; exact Bd.mono (by walk_at "bds") (by decide), fun a1 H5 R => ?_⟩
    have R := R.fz
    walk_at "goR"
    refine ⟨_, .ref y, .ref x, n, _, _, rfl, R, by walk_at "mem", by walk_at "mem", by omega, fun i j => by have b1 := bg i j; have b2 := bh i j; exact Bd.mono (by walk_at "bds") (by decide), fun i j => by have b1 := bg i j; have b2 := bh i j; exact Bd.mono (by walk_at "bds") (by decide), fun a2 H6 R => ?_⟩
    have R := R.fz
    walk_at "goR"
    refine g_neTe R (x := .ref a1) (y := .ref a2) (by walk_at "mem") (by walk_at "mem") (tabG_congr fun i j _ _ => by grind) ?_
    have R : Rp K H6 ( .pr (PoolP (N + 300)) p :: .sh (.ref ra) (FD rr) :: .sh (.ref qa) (FD qq) :: .sh (.ref x) (TD (tabG n g)) :: .sh (.ref y) (TD (tabG n h)) :: L1) := R.wk (by walk_at "wk1")
    walk_at "goR"
    refine ⟨_, .ref y, .ref x, n, _, _, rfl, R, by walk_at "mem", by walk_at "mem", by omega, fun i j => by have b1 := bg i j; have b2 := bh i j; exact Bd.mono (by walk_at "bds") (by decide), fun i j => by have b1 := bg i j; have b2 := bh i j; exact Bd.mono (by walk_at "bds") (by decide), fun a3 H7 R => ?_⟩
    have R := R.fz
    walk_at "goR"
    refine ⟨_, .ref x, .ref a3, n, _, _, rfl, R, by walk_at "mem", by walk_at "mem", by omega, fun i j => by have b1 := bg i j; have b2 := bh i j; exact Bd.mono (by walk_at "bds") (by decide), fun i j => by have b1 := bg i j; have b2 := bh i j; exact Bd.mono (by walk_at "bds") (by decide), fun a4 H8 R => ?_⟩
    have R := R.fz
    walk_at "goR"
    refine ⟨_, .ref x, .ref y, n, _, _, rfl, R, by walk_at "mem", by walk_at "mem", by omega, fun i j => by have b1 := bg i j; have b2 := bh i j; exact Bd.mono (by walk_at "bds") (by decide), fun i j => by have b1 := bg i j; have b2 := bh i j; exact Bd.mono (by walk_at "bds") (by decide), fun a5 H9 R => ?_⟩
    have R := R.fz
    walk_at "goR"
    refine ⟨_, .ref a5, .ref x, n, _, _, rfl, R, by walk_at "mem", by walk_at "mem", by omega, fun i j => by have b1 := bg i j; have b2 := bh i j; exact Bd.mono (by walk_at "bds") (by decide), fun i j => by have b1 := bg i j; have b2 := bh i j; exact Bd.mono (by walk_at "bds") (by decide), fun a6 H10 R => ?_⟩
    have R := R.fz
    walk_at "goR"
    refine g_neTe R (x := .ref a4) (y := .ref a6) (by walk_at "mem") (by walk_at "mem") (tabG_congr fun i j _ _ => by grind) ?_
    have R : Rp K H10 ( .pr (PoolP (N + 300)) p :: .sh (.ref ra) (FD rr) :: .sh (.ref qa) (FD qq) :: .sh (.ref x) (TD (tabG n g)) :: .sh (.ref y) (TD (tabG n h)) :: L1) := R.wk (by walk_at "wk1")
    walk_at "goR"
    refine ⟨_, .ref x, .ref y, n, _, _, rfl, R, by walk_at "mem", by walk_at "mem", by omega, fun i j => by have b1 := bg i j; have b2 := bh i j; exact Bd.mono (by walk_at "bds") (by decide), fun i j => by have b1 := bg i j; have b2 := bh i j; exact Bd.mono (by walk_at "bds") (by decide), fun a7 H11 R => ?_⟩
    have R := R.fz
    walk_at "goR"
    refine ⟨_, qa, .ref a7, n, _, _, rfl, R, by walk_at "mem", by walk_at "mem", by omega, fun i j => by have b1 := bg i j; have b2 := bh i j; exact Bd.mono (by walk_at "bds") (by decide), by exact Bd.mono (by first | assumption | exact Bd_int (n := 64) IB.lit) (by decide), nq, fun a8 H12 R => ?_⟩
    have R := R.fz
    walk_at "goR"
    refine ⟨_, qa, .ref x, n, _, _, rfl, R, by walk_at "mem", by walk_at "mem", by omega, fun i j => by have b1 := bg i j; have b2 := bh i j; exact Bd.mono (by walk_at "bds") (by decide), by exact Bd.mono (by first | assumption | exact Bd_int (n := 64) IB.lit) (by decide), nq, fun a9 H13 R => ?_⟩
    have R := R.fz
    walk_at "goR"
    refine ⟨_, qa, .ref y, n, _, _, rfl, R, by walk_at "mem", by walk_at "mem", by omega, fun i j => by have b1 := bg i j; have b2 := bh i j; exact Bd.mono (by walk_at "bds") (by decide), by exact Bd.mono (by first | assumption | exact Bd_int (n := 64) IB.lit) (by decide), nq, fun a10 H14 R => ?_⟩
    have R := R.fz
    walk_at "goR"
    refine ⟨_, .ref a9, .ref a10, n, _, _, rfl, R, by walk_at "mem", by walk_at "mem", by omega, fun i j => by have b1 := bg i j; have b2 := bh i j; exact Bd.mono (by walk_at "bds") (by decide), fun i j => by have b1 := bg i j; have b2 := bh i j; exact Bd.mono (by walk_at "bds") (by decide), fun a11 H15 R => ?_⟩
    have R := R.fz
    walk_at "goR"
    refine g_neTe R (x := .ref a8) (y := .ref a11) (by walk_at "mem") (by walk_at "mem") (tabG_congr fun i j _ _ => by grind) ?_
    have R : Rp K H15 ( .pr (PoolP (N + 300)) p :: .sh (.ref ra) (FD rr) :: .sh (.ref qa) (FD qq) :: .sh (.ref x) (TD (tabG n g)) :: .sh (.ref y) (TD (tabG n h)) :: L1) := R.wk (by walk_at "wk1")
    walk_at "goR"
    refine ⟨_, ra, .ref x, n, _, _, rfl, R, by walk_at "mem", by walk_at "mem", by omega, fun i j => by have b1 := bg i j; have b2 := bh i j; exact Bd.mono (by walk_at "bds") (by decide), by exact Bd.mono (by first | assumption | exact Bd_int (n := 64) IB.lit) (by decide), nr, fun b1 H16 R => ?_⟩
    have R := R.fz
    walk_at "goR"
    refine ⟨_, qa, .ref b1, n, _, _, rfl, R, by walk_at "mem", by walk_at "mem", by omega, fun i j => by have b1 := bg i j; have b2 := bh i j; exact Bd.mono (by walk_at "bds") (by decide), by exact Bd.mono (by first | assumption | exact Bd_int (n := 64) IB.lit) (by decide), nq, fun b2 H17 R => ?_⟩
    have R := R.fz
    walk_at "goR"
    refine ⟨_, qa, .ref x, n, _, _, rfl, R, by walk_at "mem", by walk_at "mem", by omega, fun i j => by have b1 := bg i j; have b2 := bh i j; exact Bd.mono (by walk_at "bds") (by decide), by exact Bd.mono (by first | assumption | exact Bd_int (n := 64) IB.lit) (by decide), nq, fun b3 H18 R => ?_⟩
    have R := R.fz
    walk_at "goR"
    refine ⟨_, ra, .ref b3, n, _, _, rfl, R, by walk_at "mem", by walk_at "mem", by omega, fun i j => by have b1 := bg i j; have b2 := bh i j; exact Bd.mono (by walk_at "bds") (by decide), by exact Bd.mono (by first | assumption | exact Bd_int (n := 64) IB.lit) (by decide), nr, fun b4 H19 R => ?_⟩
    have R := R.fz
    walk_at "goR"
    refine g_neTe R (x := .ref b2) (y := .ref b4) (by walk_at "mem") (by walk_at "mem") (tabG_congr fun i j _ _ => by grind) ?_
    have R : Rp K H19 ( .pr (PoolP (N + 300)) p :: .sh (.ref ra) (FD rr) :: .sh (.ref qa) (FD qq) :: .sh (.ref x) (TD (tabG n g)) :: .sh (.ref y) (TD (tabG n h)) :: L1) := R.wk (by walk_at "wk1")
    walk_at "goR"
    refine ⟨_, .ref x, .ref x, n, _, _, rfl, R, by walk_at "mem", by walk_at "mem", by omega, fun i j => by have b1 := bg i j; have b2 := bh i j; exact Bd.mono (by walk_at "bds") (by decide), fun i j => by have b1 := bg i j; have b2 := bh i j; exact Bd.mono (by walk_at "bds") (by decide), fun c1 H20 R => ?_⟩
    have R := R.fz
    walk_at "goR"
    refine g_frI R fun two ntwo R => ?_
    generalize upd H20 two _ = H50 at R ⊢
    walk_at "goR"
    refine ⟨_, two, .ref x, n, _, _, rfl, R, by walk_at "mem", by walk_at "mem", by omega, fun i j => by have b1 := bg i j; have b2 := bh i j; exact Bd.mono (by walk_at "bds") (by decide), by exact Bd.mono (by first | assumption | exact Bd_int (n := 64) IB.lit) (by decide), (by decide), fun c2 H51 R => ?_⟩
    have R := R.fz
    walk_at "goR"
    refine g_eqTe R (x := .ref c1) (y := .ref c2) (by walk_at "mem") (by walk_at "mem") (tabG_congr fun i j _ _ => by
      show g i j + g i j = 2 * g i j
      grind) ?_
    have R : Rp K H51 ( .pr (PoolP (N + 300)) p :: .sh (.ref ra) (FD rr) :: .sh (.ref qa) (FD qq) :: .sh (.ref x) (TD (tabG n g)) :: .sh (.ref y) (TD (tabG n h)) :: L1) := R.wk (by walk_at "wk1")
    walk_at "goR"
    refine g_frI R fun on non R => ?_
    generalize upd H51 on _ = H60 at R ⊢
    walk_at "goR"
    refine ⟨_, on, .ref x, n, _, _, rfl, R, by walk_at "mem", by walk_at "mem", by omega, fun i j => by have b1 := bg i j; have b2 := bh i j; exact Bd.mono (by walk_at "bds") (by decide), by exact Bd.mono (by first | assumption | exact Bd_int (n := 64) IB.lit) (by decide), (by decide), fun c3 H61 R => ?_⟩
    have R := R.fz
    walk_at "goR"
    refine g_eqTe R (x := .ref c3) (y := .ref x) (by walk_at "mem") (by walk_at "mem") (tabG_congr fun i j _ _ => by
      show 1 * g i j = g i j
      grind) ?_
    exact q _ (R.wk (by walk_at "wk1"))
end
section
variable {P : Program} {w : World} {K : PySem.W.Frag} {mg : Str → Option Value} {base : Heap}
def sp_hright (K : PySem.W.Frag) : Sp := fun vs H Q _ => ∃ (L L1 : List Fc.It) (p : Addr) (x y : V) (N n m : Nat) (g h : Nat → Nat → Rat), vs = [.ref p, x, y] ∧ Rp K H L ∧ Sel (.pr (PoolP N) p) L L1 ∧ Fc.It.sh x (TD (tabG n g)) ∈ L1 ∧ Fc.It.sh y (TD (tabG m h)) ∈ L1 ∧ N ≤ 2 ^ 41 ∧ 1 ≤ n ∧ n ≤ 10 ∧ 1 ≤ m ∧ m ≤ 10 ∧ Tab g ∧ Tab h ∧
  ∀ H', Rp K H' (.pr (PoolP (N + 2)) p :: L1) → Q (.bl true) H'
theorem ok_l_hung_right {f : Addr} {fd : FuncData} (F : Fun K "_law_hung_right" "_law_hung_right" s_l_hung_right f fd) (T : Tx K mg) (c_is_table : Cal P w K mg base 3 "is_table" (sp_istab K) []) (c_first_short : Cal P w K mg base 4 "first_short" (sp_short K) []) (c_part_of : Cal P w K mg base 1 "part_of" (sp_part K) []) (c_hung_together : Cal P w K mg base 4 "hung_together" (sp_hung K) []) (c_l_take : Cal P w K mg base 1 "_law_take" (sp_take K) []) :
    FnOk P w K mg base CX0 5 f fd P_l_hung_right (sp_hright K) := by
  refine F.ok sc_l_hung_right (fun vs H Q E h => ?_) (fun cdv A outer s H vs Q E hr h => ?_)
  · obtain ⟨_, _, _, _, _, _, _, _, _, _, rfl, _⟩ := h
    rfl
  · obtain ⟨L, L1, p, x, y, N, n, m, g, h, rfl, R, hs, hx, hy, hN, hn1, hn, hm1, hm, tg, th, q⟩ := h
    refine ⟨_, (pss_cons (ps_set (i := 3) sc_l_hung_right.nd rfl (Or.inr rfl) (pe_c c_l_take hr (by decide) rfl (pa_cons (pv 0) (pa_cons (pe_callB (k_len (K := K)) (by rfl) T.len_ (by decide +kernel) (pa_cons (pv 1) pa_nil)) pa_nil))))
  (pss_cons (ps_set (i := 4) sc_l_hung_right.nd rfl (Or.inl rfl) (pe_c c_l_take hr (by decide) rfl (pa_cons (pv 0) (pa_cons (pe_callB (k_len (K := K)) (by rfl) T.len_ (by decide +kernel) (pa_cons (pv 2) pa_nil)) pa_nil))))
  (pss_cons (ps_set (i := 5) sc_l_hung_right.nd rfl (Or.inl rfl) (pe_c c_hung_together hr (by decide) rfl (pa_cons (pv 1) (pa_cons (pv 3) (pa_cons (pv 2) (pa_cons (pv 4) pa_nil))))))
  (pss_cons (ps_set (i := 6) sc_l_hung_right.nd rfl (Or.inl rfl) (pe_c c_hung_together hr (by decide) rfl (pa_cons (pv 2) (pa_cons (pv 4) (pa_cons (pv 1) (pa_cons (pv 3) pa_nil))))))
  (pss_cons (ps_set (i := 7) sc_l_hung_right.nd rfl (Or.inl rfl) (pe_listRg rfl (by rfl) T.list_ (prg_2 (by rfl) T.range_ (pe_callB (k_len (K := K)) (by rfl) T.len_ (by decide +kernel) (pa_cons (pv 1) pa_nil)) (pe_callB (k_len (K := K)) (by rfl) T.len_ (by decide +kernel) (pa_cons (pv 5) pa_nil)))))
  (pss_cons (ps_set (i := 8) sc_l_hung_right.nd rfl (Or.inl rfl) (pe_op op_cat (pe_op op_cat (pe_slice (k_slL (K := K)) (pv 7) po_none (po_some (pv 4))) (pe_lst (pa_cons (pv 3) pa_nil))) (pe_slice (k_slL (K := K)) (pv 7) (po_some (pv 4)) po_none)))
  (pss_cons (ps_if (PW.pt (pw_or (pt_not (pt_val (pe_c c_is_table hr (by decide) rfl (pa_cons (pv 5) pa_nil)))) (pw_or (pt_cmpR (k_neD (K := K) hr.units) (pe_c c_part_of hr (by decide) rfl (pa_cons (pv 5) (pa_cons (pe_listRg rfl (by rfl) T.list_ (prg_1 (by rfl) T.range_ (pe_callB (k_len (K := K)) (by rfl) T.len_ (by decide +kernel) (pa_cons (pv 1) pa_nil)))) pa_nil))) (pv 1) (nomark _)) (pw_or1 (pt_cmpR (k_neD (K := K) hr.units) (pe_c c_part_of hr (by decide) rfl (pa_cons (pv 5) (pa_cons (pv 8) pa_nil))) (pv 2) (nomark _))))))
  (pss_one (ps_ret pe_bl))
  pss_nil)
  (pss_cons (ps_setLc (i := 9) (own := [("place", 10)]) (g := gName 10) rfl sc_l_hung_right.nd rfl rfl (sw_true rfl rfl rfl (by decide +kernel)) (pi_range1 (by rfl) T.range_ (pa_cons (pe_callB (k_len (K := K)) (by rfl) T.len_ (by decide +kernel) (pa_cons (pv 1) pa_nil)) pa_nil)) (blkOk_by (own := [("place", 10)]) (N := N_l_hung_right) (sc := defScope s_l_hung_right) (by decide +kernel)) (fun _ _ _ _ _ => (pg_name (i := 10) sc_l_hung_right.nd rfl (Or.inl rfl))) (fun _ _ _ _ _ => (pts_one (pt_cmpR op_ne (pv 10) (pv 3) (nomark _)))) (fun _ _ _ _ _ => (pv 10)))
  (pss_cons (ps_if (pt_cmpR (k_neD (K := K) hr.units) (pe_c c_part_of hr (by decide) rfl (pa_cons (pv 5) (pa_cons (pe_op op_cat (pv 8) (pv 9)) pa_nil))) (pv 6) (nomark _))
  (pss_one (ps_ret pe_bl))
  pss_nil)
  (pss_cons (ps_set (i := 11) sc_l_hung_right.nd rfl (Or.inl rfl) (pe_and (pe_cmpR op_isN1 (pe_c c_first_short hr (by decide) rfl (pa_cons (pv 1) pa_nil)) pe_non (nomark _)) (pe_one (pe_cmpR op_isN1 (pe_c c_first_short hr (by decide) rfl (pa_cons (pv 2) pa_nil)) pe_non (nomark _)))))
  (pss_one (ps_ret (pe_cmpR op_eq (pe_cmpR op_isN1 (pe_c c_first_short hr (by decide) rfl (pa_cons (pv 5) pa_nil)) pe_non (nomark _)) (pv 11) (nomark _)))))))))))))), ?_⟩
    have bg : ∀ i j, Bd 1900 (g i j) := fun i j => (tg.bd i j).mono (by decide)
    have bh : ∀ i j, Bd 1900 (h i j) := fun i j => (th.bd i j).mono (by decide)
    have R := ((R.sel hs).shM (.tail _ hx)).shM (.tail _ (.tail _ hy))
    obtain ⟨y, rfl⟩ := sh_lst R
    obtain ⟨x, rfl⟩ := sh_lst R.tail
    walk_at "goR"
    rw [List.length_map, tabG_len]
    walk_at "take"
    intro r1 H1 _ _ R
    walk_at "goR"
    rw [List.length_map, tabG_len]
    walk_at "take"
    intro r2 H2 _ _ R
    obtain ⟨at_, rfl⟩ : ∃ k : Nat, r1 = k := ⟨r1.toNat, by omega⟩
    obtain ⟨to, rfl⟩ : ∃ k : Nat, r2 = k := ⟨r2.toNat, by omega⟩
    have ha : at_ < n := by omega
    have ht : to < m := by omega
    have R : Rp K H2 (.sh (.ref x) (TD (tabG n g)) :: .sh (.ref y) (TD (tabG m h)) :: .pr (PoolP (N + 1 + 1)) p :: L1) := R.wk (by walk_at "wk1")
    have pa : isPt n at_ = true := by unfold isPt; rw [decide_eq_true (by omega), decide_eq_true (by omega)]; rfl
    have pt : isPt m to = true := by unfold isPt; rw [decide_eq_true (by omega), decide_eq_true (by omega)]; rfl
    walk_at "goR"
    refine ⟨_, .ref x, .ref y, n, m, g, h, at_, to, rfl, R, by walk_at "mem", by walk_at "mem", by omega, by omega, pa, pt, bg, bh, fun wh H3 R => ?_⟩
    have R := R.fz
    rw [hungT_tab ht] at R
    walk_at "goR"
    refine ⟨_, .ref y, .ref x, m, n, h, g, to, at_, rfl, R, by walk_at "mem", by walk_at "mem", by omega, by omega, pt, pa, bh, bg, fun wb H4 R => ?_⟩
    have R := R.fz
    have R : Rp K H4 (.sh (.ref wh) (TD (tabG (n + (m - 1)) (hungG n g at_ h to))) :: .sh (.ref wb) (TD (hungT m h to n g at_)) :: .sh (.ref x) (TD (tabG n g)) :: .sh (.ref y) (TD (tabG m h)) :: .pr (PoolP (N + 1 + 1)) p :: L1) := R.wk (by walk_at "wk1")
    walk_at "goR"
    rw [List.length_map, List.length_map, tabG_len, tabG_len]
    refine g_lstRg R (by omega) fun bd0 nbd R => ?_
    generalize upd H4 bd0 _ = H5 at R ⊢
    have R := R.fz
    rw [show (((n + (m - 1) : Nat) : Int) - (n : Int)).toNat = m - 1 by omega] at R
    walk_at "goR"
    refine g_slTo (k := to) R (a := bd0) (ns := rg (n : Int) (m - 1)) mem_here rfl (by rw [rg_len]; omega) fun c1 H6 R => ?_
    walk_at "goR"
    refine g_intsR (ns := [(at_ : Int)]) R rfl (by simp) fun c2 nc2 R => ?_
    generalize upd H6 c2 _ = H7 at R ⊢
    walk_at "goR"
    refine g_catI R (a := c1) (b := c2) (s := oI) (s1 := oI) (by walk_at "mem") mem_here (by rw [List.length_take, List.length_singleton]; omega) fun c3 H8 R => ?_
    walk_at "goR"
    refine g_slFrom (k := to) R (a := bd0) (s := .lf) (ns := rg (n : Int) (m - 1)) (by walk_at "mem") rfl (by rw [rg_len]; omega) fun c4 H9 R => ?_
    walk_at "goR"
    refine g_catI R (a := c3) (b := c4) (s := oI) (s1 := oI) (by walk_at "mem") mem_here (by rw [List.length_append, List.length_take, List.length_drop, List.length_singleton, rg_len]; omega) fun tr H10 R => ?_
    have R := R.fz
    rw [there_eq ht] at R
    have R : Rp K H10 (.sh (.ref tr) (IL ((List.range m).map fun p => ((posn n at_ to p : Nat) : Int))) :: .sh (.ref wh) (TD (tabG (n + (m - 1)) (hungG n g at_ h to))) :: .sh (.ref wb) (TD (hungT m h to n g at_)) :: .sh (.ref x) (TD (tabG n g)) :: .sh (.ref y) (TD (tabG m h)) :: .pr (PoolP (N + 1 + 1)) p :: L1) := R.wk (by walk_at "wk1")
    have hsy := hungG_sy (n := n) (at_ := at_) (to := to) tg.sy th.sy
    have hdi := hungG_di (n := n) (at_ := at_) (to := to) tg.di th.di
    have hpo := hungG_po (n := n) (at_ := at_) (to := to) tg.po th.po
    have hbd : ∀ i j, Bd 1900 (hungG n g at_ h to i j) := fun i j => (hungG_bd tg.bd th.bd i j).mono (by decide)
    walk_at "goR"
    refine ⟨_, .ref wh, _, _, rfl, R, by walk_at "mem", by omega, by omega, hsy, hdi, hpo, fun H11 R => ?_⟩
    walk_at "goR"
    rw [List.length_map, tabG_len]
    refine g_lstRg R (by omega) fun c5 nc5 R => ?_
    generalize upd H11 c5 _ = H12 at R ⊢
    rw [show ((n : Int) - 0).toNat = n by omega] at R
    walk_at "goR"
    refine ⟨_, oI, .ref wh, .ref c5, _, _, rg 0 n, rfl, R, by walk_at "mem", mem_here, by omega, by rw [rg_len]; omega, first_pts hn1 (by omega), fun t1 H13 R => ?_⟩
    have R := R.fz
    walk_at "goR"
    refine g_neTe R (x := .ref t1) (y := .ref x) (u := tabG n g) mem_here (by walk_at "mem") part_first ?_
    walk_at "goR"
    refine ⟨_, .lf, .ref wh, .ref tr, _, _, _, rfl, R, by walk_at "mem", by walk_at "mem", by omega, by rw [List.length_map, List.length_range]; omega, there_pts ha ht, fun t2 H14 R => ?_⟩
    have R := R.fz
    walk_at "goR"
    refine g_neTe R (x := .ref t2) (y := .ref y) (u := tabG m h) mem_here (by walk_at "mem") (part_there ha tg.di th.sy th.di) ?_
    have R : Rp K H14 (.sh (.ref tr) (IL ((List.range m).map fun p => ((posn n at_ to p : Nat) : Int))) :: .sh (.ref wh) (TD (tabG (n + (m - 1)) (hungG n g at_ h to))) :: .sh (.ref wb) (TD (hungT m h to n g at_)) :: .sh (.ref x) (TD (tabG n g)) :: .sh (.ref y) (TD (tabG m h)) :: .pr (PoolP (N + 1 + 1)) p :: L1) := R.wk (by walk_at "wk1")
    walk_at "goR"
    rw [List.length_map, tabG_len]
    refine g_rng1 (by omega) ?_
    intro C nC
    refine lcfI_range (fun z => !decide (z = (at_ : Int))) R nC (by omega) ?_ ?_
    · intro i X H15 hi R Qy Qn q1 q2
      walk_at "goR"
      refine ⟨rfl, ?_⟩
      walk_at "goR"
      refine ifND (fun hh => ?_) (fun hh => ?_)
      · walk_at "goR"
        exact q1 (by rw [decide_eq_false hh]; rfl) _ R
      · exact q2 (by rw [decide_eq_true hh]; rfl) _ R
    intro H15 R
    have R : Rp K H15 (.ow oI (.ref C) (IL (oths n (at_ : Int))) :: .sh (.ref tr) (IL ((List.range m).map fun p => ((posn n at_ to p : Nat) : Int))) :: .sh (.ref wh) (TD (tabG (n + (m - 1)) (hungG n g at_ h to))) :: .sh (.ref wb) (TD (hungT m h to n g at_)) :: .sh (.ref x) (TD (tabG n g)) :: .sh (.ref y) (TD (tabG m h)) :: .pr (PoolP (N + 1 + 1)) p :: L1) := R
    walk_at "goR"
    have ol := oths_len (m := n) (to := (at_ : Int))
    refine g_catI R (a := tr) (b := C) (s := .lf) (s1 := oI) (by walk_at "mem") mem_here (by rw [List.length_map, List.length_range]; omega) fun c6 H16 R => ?_
    walk_at "goR"
    refine ⟨_, oI, .ref wh, .ref c6, _, _, _, rfl, R, by walk_at "mem", mem_here, by omega, by rw [List.length_append, List.length_map, List.length_range]; omega, all_pts ha ht, fun t3 H17 R => ?_⟩
    have R := R.fz
    walk_at "goR"
    refine g_neTe R (x := .ref t3) (y := .ref wb) mem_here (by walk_at "mem") (part_all ha ht tg.sy tg.di th.sy th.di) ?_
    have R : Rp K H17 (.sh (.ref wh) (TD (tabG (n + (m - 1)) (hungG n g at_ h to))) :: .sh (.ref x) (TD (tabG n g)) :: .sh (.ref y) (TD (tabG m h)) :: .pr (PoolP (N + 1 + 1)) p :: L1) := R.wk (by walk_at "wk1")
    have key : (firstS (n + (m - 1)) (shortB (hungG n g at_ h to))).isNone = ((firstS n (shortB g)).isNone && (firstS m (shortB h)).isNone) := by
      rw [Bool.eq_iff_iff, Bool.and_eq_true, Option.isNone_iff_eq_none, Option.isNone_iff_eq_none, Option.isNone_iff_eq_none, long_iffR hdi hpo, long_iffR tg.di tg.po, long_iffR th.di th.po]
      exact hung_tri ha ht tg.sy tg.di tg.po th.sy th.di th.po
    walk_at "goR"
    refine ⟨_, .ref x, n, g, rfl, R, by walk_at "mem", by omega, bg, fun v1 H18 R => ?_⟩
    walk_at "goR"
    refine g_isSD R ?_
    have R := R.tail
    walk_at "goR"
    cases e1 : (firstS n (shortB g)).isNone with
    | false =>
      rw [e1, Bool.false_and] at key
      walk_at "goR"
      refine ⟨_, .ref wh, _, _, rfl, R, by walk_at "mem", by omega, hbd, fun v3 H19 R => ?_⟩
      walk_at "goR"
      refine g_isSD R ?_
      rw [key]
      walk_at "goR"
      exact q _ (R.wk (by walk_at "wk1"))
    | true =>
      rw [e1, Bool.true_and] at key
      walk_at "goR"
      refine ⟨_, .ref y, m, h, rfl, R, by walk_at "mem", by omega, bh, fun v2 H19 R => ?_⟩
      walk_at "goR"
      refine g_isSD R ?_
      have R := R.tail
      walk_at "goR"
      refine ⟨_, .ref wh, _, _, rfl, R, by walk_at "mem", by omega, hbd, fun v3 H20 R => ?_⟩
      walk_at "goR"
      refine g_isSD R ?_
      rw [key]
      walk_at "goR"
      rw [decide_eq_true rfl]
      exact q _ (R.wk (by walk_at "wk1"))
end
section
variable {P : Program} {w : World} {K : PySem.W.Frag} {mg : Str → Option Value} {base : Heap}
def sp_law (K : PySem.W.Frag) : Sp := fun vs H Q _ => ∃ (a : Addr) (ns : List Int), vs = [.ref a] ∧ SqL K H a (ns.map V.int) ∧ ns.length ≤ 63 ∧ ∀ H', Q (.bl true) H'
theorem ok_law {f : Addr} {fd : FuncData} (F : Fun K "law" "law" s_law f fd) (T : Tx K mg) (c_l_pool : Cal P w K mg base 1 "_law_pool" (sp_pool K) []) (c_l_take : Cal P w K mg base 1 "_law_take" (sp_take K) []) (c_l_table : Cal P w K mg base 4 "_law_table" (sp_dtable K (fun _ => True) 5000) []) (c_l_parts_right : Cal P w K mg base 5 "_law_parts_right" (sp_pright K) []) (c_l_sums_right : Cal P w K mg base 5 "_law_sums_right" (sp_sright K) []) (c_l_hung_right : Cal P w K mg base 5 "_law_hung_right" (sp_hright K) []) :
    FnOk P w K mg base CX0 6 f fd P_law (sp_law K) := by
  refine F.ok sc_law (fun vs H Q E h => ?_) (fun cdv A outer s H vs Q E hr h => ?_)
  · obtain ⟨a, ns, rfl, _⟩ := h
    rfl
  · obtain ⟨a, ns, rfl, hS, hn, q⟩ := h
    refine ⟨_, (pss_cons (ps_for PassesOwn.never rfl (pi_range1 (by rfl) T.range_ (pa_cons (pe_callB (cr_max2 rfl) (by rfl) T.max_ (by decide +kernel) (pa_cons pe_int (pa_cons (pe_callB (cr_min2 rfl) (by rfl) T.min_ (by decide +kernel) (pa_cons pe_int (pa_cons (pe_callB (k_len (K := K)) (by rfl) T.len_ (by decide +kernel) (pa_cons (pv 0) pa_nil)) pa_nil))) pa_nil))) pa_nil)) (pg_name (i := 1) sc_law.nd rfl (Or.inl rfl))
  (pss_cons (ps_set (i := 2) sc_law.nd rfl (Or.inl rfl) (pe_c c_l_pool hr (by decide) rfl (pa_cons (pv 0) (pa_cons (pv 1) pa_nil))))
  (pss_cons (ps_set (i := 3) sc_law.nd rfl (Or.inl rfl) (pe_c c_l_table hr (by decide) rfl (pa_cons (pv 2) (pa_cons (pe_op op_add pe_int (pe_c c_l_take hr (by decide) rfl (pa_cons (pv 2) (pa_cons pe_int pa_nil)))) pa_nil))))
  (pss_cons (ps_set (i := 4) sc_law.nd rfl (Or.inl rfl) (pe_c c_l_table hr (by decide) rfl (pa_cons (pv 2) (pa_cons (pe_callB (k_len (K := K)) (by rfl) T.len_ (by decide +kernel) (pa_cons (pv 3) pa_nil)) pa_nil))))
  (pss_cons (ps_set (i := 5) sc_law.nd rfl (Or.inl rfl) (pe_c c_l_table hr (by decide) rfl (pa_cons (pv 2) (pa_cons (pe_op op_add pe_int (pe_c c_l_take hr (by decide) rfl (pa_cons (pv 2) (pa_cons pe_int pa_nil)))) pa_nil))))
  (pss_cons (ps_if (PW.pt (pw_or (pt_not (pt_val (pe_c c_l_parts_right hr (by decide) rfl (pa_cons (pv 2) (pa_cons (pv 3) (pa_cons (pv 4) pa_nil)))))) (pw_or1 (pt_not (pt_val (pe_c c_l_sums_right hr (by decide) rfl (pa_cons (pv 2) (pa_cons (pv 3) (pa_cons (pv 4) pa_nil)))))))))
  (pss_one (ps_ret pe_bl))
  pss_nil)
  (pss_one (ps_if (PW.pt (pw_or (pt_not (pt_val (pe_c c_l_hung_right hr (by decide) rfl (pa_cons (pv 2) (pa_cons (pv 3) (pa_cons (pv 5) pa_nil)))))) (pw_or1 (pt_not (pt_val (pe_c c_l_hung_right hr (by decide) rfl (pa_cons (pv 2) (pa_cons (pv 5) (pa_cons (pv 5) pa_nil)))))))))
  (pss_one (ps_ret pe_bl))
  pss_nil))))))))
  (pss_one (ps_ret pe_bl))), ?_⟩
    have R := Rp.arg0 hS
    walk_at "goR"
    refine g_lenL hS ?_
    walk_at "goR"
    refine g_rng1 (by rw [List.length_map]; omega) ?_
    refine loop_range (fun i σ H' => ∃ y1 y2 y3 y4 y5, σ = [some (.ref a), y1, y2, y3, y4, y5] ∧ Rp K H' [.ps (fun H => SqL K H a (ns.map V.int))]) ⟨_, _, _, _, _, rfl, R⟩ ?_ ?_
    · clear R
      rintro i σ H1 hi ⟨y1, y2, y3, y4, y5, rfl, R⟩
      rw [List.length_map] at hi
      walk_at "goR"
      refine ⟨a, ns, _, rfl, R.psAt, by omega, by omega, fun p H2 np s2 hp => ?_⟩
      have R := R.poolNew np s2 hp
      walk_at "goR"
      walk_at "take"
      intro r1 H3 _ _ R
      walk_at "goR"
      obtain ⟨n, hnz⟩ : ∃ n : Nat, 1 + r1 = n := ⟨(1 + r1).toNat, by omega⟩
      rw [hnz]
      refine ⟨_, _, p, 23000 + 1, n, rfl, R, by walk_at "sel", by omega, by omega, fun x g H4 tg _ R => ?_⟩
      have R := R.fz
      walk_at "goR"
      rw [List.length_map, tabG_len]
      refine ⟨_, _, p, 23000 + 1 + 5000, n, rfl, R, by walk_at "sel", by omega, by omega, fun y h H5 th _ R => ?_⟩
      have R := R.fz
      walk_at "goR"
      walk_at "take"
      intro r2 H6 _ _ R
      walk_at "goR"
      obtain ⟨m, hmz⟩ : ∃ m : Nat, 1 + r2 = m := ⟨(1 + r2).toNat, by omega⟩
      rw [hmz]
      refine ⟨_, _, p, 23000 + 1 + 5000 + 5000 + 1, m, rfl, R, by walk_at "sel", by omega, by omega, fun z u H7 tu _ R => ?_⟩
      have R := R.fz
      have R : Rp K H7 (.pr (PoolP (23000 + 1 + 5000 + 5000 + 1 + 5000)) p :: [.sh (.ref x) (TD (tabG n g)), .sh (.ref y) (TD (tabG n h)), .sh (.ref z) (TD (tabG m u)), .ps (fun H => SqL K H a (ns.map V.int))]) := R.wk (by walk_at "wk1")
      walk_at "goR"
      refine ⟨_, _, p, .ref x, .ref y, 23000 + 1 + 5000 + 5000 + 1 + 5000, n, g, h, rfl, R, .here, by walk_at "mem", by walk_at "mem", by omega, by omega, by omega, tg.bd, th.bd, fun H8 R => ?_⟩
      walk_at "goR"
      refine ⟨_, _, p, .ref x, .ref y, 23000 + 1 + 5000 + 5000 + 1 + 5000 + 300, n, g, h, rfl, R, .here, by walk_at "mem", by walk_at "mem", by omega, by omega, tg.bd, th.bd, fun H9 R => ?_⟩
      walk_at "goR"
      refine ⟨_, _, p, .ref x, .ref z, 23000 + 1 + 5000 + 5000 + 1 + 5000 + 300 + 300, n, m, g, u, rfl, R, .here, by walk_at "mem", by walk_at "mem", by omega, by omega, by omega, by omega, by omega, tg, tu, fun H10 R => ?_⟩
      walk_at "goR"
      refine ⟨_, _, p, .ref z, .ref z, 23000 + 1 + 5000 + 5000 + 1 + 5000 + 300 + 300 + 2, m, m, u, u, rfl, R, .here, by walk_at "mem", by walk_at "mem", by omega, by omega, by omega, by omega, by omega, tu, tu, fun H11 R => ?_⟩
      walk_at "goR"
      exact ⟨_, _, _, _, _, rfl, R.wk (by walk_at "wk1")⟩
    · clear R
      rintro σ H1 ⟨y1, y2, y3, y4, y5, rfl, R⟩
      walk_at "goR"
      exact q _
end

theorem all_mk {l : PySem.W.OpenLaw} {w : World} {K : PySem.W.Frag} {h : Heap} {mg : Str → Option Value} {fa : Addr} (X : K.In h) (G : h.Ns mainGlobals mg) (hfa : mg "law" = some (.ref fa))
    {f0 : Addr} {od0 an0 : Option Addr} {sl0 : Array (Option Value)} {oc0 kV0 dc0 pm0 cd0 ct0 : Value}
    (a0 : PySem.W.nsIn K mainGlobals "common_of" = some (some (.ref f0))) (l0 : K.lookup f0 = some ⟨oc0, od0, .func (PySem.W.fnOf "common_of" "common_of" (defArgs s_common_of) (defBody s_common_of) (defScope s_common_of) .none kV0 dc0 pm0 an0 cd0 ct0), sl0⟩) (c0 : PySem.W.codeIn K cd0 "common_of" = true) (k0 : PySem.W.keepIn K (.ref f0) = true)
    {f1 : Addr} {od1 an1 : Option Addr} {sl1 : Array (Option Value)} {oc1 kV1 dc1 pm1 cd1 ct1 : Value}
    (a1 : PySem.W.nsIn K mainGlobals "fraction" = some (some (.ref f1))) (l1 : K.lookup f1 = some ⟨oc1, od1, .func (PySem.W.fnOf "fraction" "fraction" (defArgs s_fraction) (defBody s_fraction) (defScope s_fraction) .none kV1 dc1 pm1 an1 cd1 ct1), sl1⟩) (c1 : PySem.W.codeIn K cd1 "fraction" = true) (k1 : PySem.W.keepIn K (.ref f1) = true)
    {f2 : Addr} {od2 an2 : Option Addr} {sl2 : Array (Option Value)} {oc2 kV2 dc2 pm2 cd2 ct2 : Value}
    (a2 : PySem.W.nsIn K mainGlobals "plus" = some (some (.ref f2))) (l2 : K.lookup f2 = some ⟨oc2, od2, .func (PySem.W.fnOf "plus" "plus" (defArgs s_plus) (defBody s_plus) (defScope s_plus) .none kV2 dc2 pm2 an2 cd2 ct2), sl2⟩) (c2 : PySem.W.codeIn K cd2 "plus" = true) (k2 : PySem.W.keepIn K (.ref f2) = true)
    {f3 : Addr} {od3 an3 : Option Addr} {sl3 : Array (Option Value)} {oc3 kV3 dc3 pm3 cd3 ct3 : Value}
    (a3 : PySem.W.nsIn K mainGlobals "times" = some (some (.ref f3))) (l3 : K.lookup f3 = some ⟨oc3, od3, .func (PySem.W.fnOf "times" "times" (defArgs s_times) (defBody s_times) (defScope s_times) .none kV3 dc3 pm3 an3 cd3 ct3), sl3⟩) (c3 : PySem.W.codeIn K cd3 "times" = true) (k3 : PySem.W.keepIn K (.ref f3) = true)
    {f4 : Addr} {od4 an4 : Option Addr} {sl4 : Array (Option Value)} {oc4 kV4 dc4 pm4 cd4 ct4 : Value}
    (a4 : PySem.W.nsIn K mainGlobals "is_below" = some (some (.ref f4))) (l4 : K.lookup f4 = some ⟨oc4, od4, .func (PySem.W.fnOf "is_below" "is_below" (defArgs s_is_below) (defBody s_is_below) (defScope s_is_below) .none kV4 dc4 pm4 an4 cd4 ct4), sl4⟩) (c4 : PySem.W.codeIn K cd4 "is_below" = true) (k4 : PySem.W.keepIn K (.ref f4) = true)
    {f5 : Addr} {od5 an5 : Option Addr} {sl5 : Array (Option Value)} {oc5 kV5 dc5 pm5 cd5 ct5 : Value}
    (a5 : PySem.W.nsIn K mainGlobals "is_whole" = some (some (.ref f5))) (l5 : K.lookup f5 = some ⟨oc5, od5, .func (PySem.W.fnOf "is_whole" "is_whole" (defArgs s_is_whole) (defBody s_is_whole) (defScope s_is_whole) .none kV5 dc5 pm5 an5 cd5 ct5), sl5⟩) (c5 : PySem.W.codeIn K cd5 "is_whole" = true) (k5 : PySem.W.keepIn K (.ref f5) = true)
    {f6 : Addr} {od6 an6 : Option Addr} {sl6 : Array (Option Value)} {oc6 kV6 dc6 pm6 cd6 ct6 : Value}
    (a6 : PySem.W.nsIn K mainGlobals "is_fraction" = some (some (.ref f6))) (l6 : K.lookup f6 = some ⟨oc6, od6, .func (PySem.W.fnOf "is_fraction" "is_fraction" (defArgs s_is_fraction) (defBody s_is_fraction) (defScope s_is_fraction) .none kV6 dc6 pm6 an6 cd6 ct6), sl6⟩) (c6 : PySem.W.codeIn K cd6 "is_fraction" = true) (k6 : PySem.W.keepIn K (.ref f6) = true)
    {f7 : Addr} {od7 an7 : Option Addr} {sl7 : Array (Option Value)} {oc7 kV7 dc7 pm7 cd7 ct7 : Value}
    (a7 : PySem.W.nsIn K mainGlobals "is_table" = some (some (.ref f7))) (l7 : K.lookup f7 = some ⟨oc7, od7, .func (PySem.W.fnOf "is_table" "is_table" (defArgs s_is_table) (defBody s_is_table) (defScope s_is_table) .none kV7 dc7 pm7 an7 cd7 ct7), sl7⟩) (c7 : PySem.W.codeIn K cd7 "is_table" = true) (k7 : PySem.W.keepIn K (.ref f7) = true)
    {f8 : Addr} {od8 an8 : Option Addr} {sl8 : Array (Option Value)} {oc8 kV8 dc8 pm8 cd8 ct8 : Value}
    (a8 : PySem.W.nsIn K mainGlobals "first_short" = some (some (.ref f8))) (l8 : K.lookup f8 = some ⟨oc8, od8, .func (PySem.W.fnOf "first_short" "first_short" (defArgs s_first_short) (defBody s_first_short) (defScope s_first_short) .none kV8 dc8 pm8 an8 cd8 ct8), sl8⟩) (c8 : PySem.W.codeIn K cd8 "first_short" = true) (k8 : PySem.W.keepIn K (.ref f8) = true)
    {f9 : Addr} {od9 an9 : Option Addr} {sl9 : Array (Option Value)} {oc9 kV9 dc9 pm9 cd9 ct9 : Value}
    (a9 : PySem.W.nsIn K mainGlobals "part_of" = some (some (.ref f9))) (l9 : K.lookup f9 = some ⟨oc9, od9, .func (PySem.W.fnOf "part_of" "part_of" (defArgs s_part_of) (defBody s_part_of) (defScope s_part_of) .none kV9 dc9 pm9 an9 cd9 ct9), sl9⟩) (c9 : PySem.W.codeIn K cd9 "part_of" = true) (k9 : PySem.W.keepIn K (.ref f9) = true)
    {f10 : Addr} {od10 an10 : Option Addr} {sl10 : Array (Option Value)} {oc10 kV10 dc10 pm10 cd10 ct10 : Value}
    (a10 : PySem.W.nsIn K mainGlobals "added" = some (some (.ref f10))) (l10 : K.lookup f10 = some ⟨oc10, od10, .func (PySem.W.fnOf "added" "added" (defArgs s_added) (defBody s_added) (defScope s_added) .none kV10 dc10 pm10 an10 cd10 ct10), sl10⟩) (c10 : PySem.W.codeIn K cd10 "added" = true) (k10 : PySem.W.keepIn K (.ref f10) = true)
    {f11 : Addr} {od11 an11 : Option Addr} {sl11 : Array (Option Value)} {oc11 kV11 dc11 pm11 cd11 ct11 : Value}
    (a11 : PySem.W.nsIn K mainGlobals "times_table" = some (some (.ref f11))) (l11 : K.lookup f11 = some ⟨oc11, od11, .func (PySem.W.fnOf "times_table" "times_table" (defArgs s_times_table) (defBody s_times_table) (defScope s_times_table) .none kV11 dc11 pm11 an11 cd11 ct11), sl11⟩) (c11 : PySem.W.codeIn K cd11 "times_table" = true) (k11 : PySem.W.keepIn K (.ref f11) = true)
    {f12 : Addr} {od12 an12 : Option Addr} {sl12 : Array (Option Value)} {oc12 kV12 dc12 pm12 cd12 ct12 : Value}
    (a12 : PySem.W.nsIn K mainGlobals "hung_together" = some (some (.ref f12))) (l12 : K.lookup f12 = some ⟨oc12, od12, .func (PySem.W.fnOf "hung_together" "hung_together" (defArgs s_hung_together) (defBody s_hung_together) (defScope s_hung_together) .none kV12 dc12 pm12 an12 cd12 ct12), sl12⟩) (c12 : PySem.W.codeIn K cd12 "hung_together" = true) (k12 : PySem.W.keepIn K (.ref f12) = true)
    {f13 : Addr} {od13 an13 : Option Addr} {sl13 : Array (Option Value)} {oc13 kV13 dc13 pm13 cd13 ct13 : Value}
    (a13 : PySem.W.nsIn K mainGlobals "_law_pool" = some (some (.ref f13))) (l13 : K.lookup f13 = some ⟨oc13, od13, .func (PySem.W.fnOf "_law_pool" "_law_pool" (defArgs s_l_pool) (defBody s_l_pool) (defScope s_l_pool) .none kV13 dc13 pm13 an13 cd13 ct13), sl13⟩) (c13 : PySem.W.codeIn K cd13 "_law_pool" = true) (k13 : PySem.W.keepIn K (.ref f13) = true)
    {f14 : Addr} {od14 an14 : Option Addr} {sl14 : Array (Option Value)} {oc14 kV14 dc14 pm14 cd14 ct14 : Value}
    (a14 : PySem.W.nsIn K mainGlobals "_law_take" = some (some (.ref f14))) (l14 : K.lookup f14 = some ⟨oc14, od14, .func (PySem.W.fnOf "_law_take" "_law_take" (defArgs s_l_take) (defBody s_l_take) (defScope s_l_take) .none kV14 dc14 pm14 an14 cd14 ct14), sl14⟩) (c14 : PySem.W.codeIn K cd14 "_law_take" = true) (k14 : PySem.W.keepIn K (.ref f14) = true)
    {f15 : Addr} {od15 an15 : Option Addr} {sl15 : Array (Option Value)} {oc15 kV15 dc15 pm15 cd15 ct15 : Value}
    (a15 : PySem.W.nsIn K mainGlobals "_law_lowest" = some (some (.ref f15))) (l15 : K.lookup f15 = some ⟨oc15, od15, .func (PySem.W.fnOf "_law_lowest" "_law_lowest" (defArgs s_l_lowest) (defBody s_l_lowest) (defScope s_l_lowest) .none kV15 dc15 pm15 an15 cd15 ct15), sl15⟩) (c15 : PySem.W.codeIn K cd15 "_law_lowest" = true) (k15 : PySem.W.keepIn K (.ref f15) = true)
    {f16 : Addr} {od16 an16 : Option Addr} {sl16 : Array (Option Value)} {oc16 kV16 dc16 pm16 cd16 ct16 : Value}
    (a16 : PySem.W.nsIn K mainGlobals "_law_distance" = some (some (.ref f16))) (l16 : K.lookup f16 = some ⟨oc16, od16, .func (PySem.W.fnOf "_law_distance" "_law_distance" (defArgs s_l_distance) (defBody s_l_distance) (defScope s_l_distance) .none kV16 dc16 pm16 an16 cd16 ct16), sl16⟩) (c16 : PySem.W.codeIn K cd16 "_law_distance" = true) (k16 : PySem.W.keepIn K (.ref f16) = true)
    {f17 : Addr} {od17 an17 : Option Addr} {sl17 : Array (Option Value)} {oc17 kV17 dc17 pm17 cd17 ct17 : Value}
    (a17 : PySem.W.nsIn K mainGlobals "_law_line" = some (some (.ref f17))) (l17 : K.lookup f17 = some ⟨oc17, od17, .func (PySem.W.fnOf "_law_line" "_law_line" (defArgs s_l_line) (defBody s_l_line) (defScope s_l_line) .none kV17 dc17 pm17 an17 cd17 ct17), sl17⟩) (c17 : PySem.W.codeIn K cd17 "_law_line" = true) (k17 : PySem.W.keepIn K (.ref f17) = true)
    {f18 : Addr} {od18 an18 : Option Addr} {sl18 : Array (Option Value)} {oc18 kV18 dc18 pm18 cd18 ct18 : Value}
    (a18 : PySem.W.nsIn K mainGlobals "_law_table" = some (some (.ref f18))) (l18 : K.lookup f18 = some ⟨oc18, od18, .func (PySem.W.fnOf "_law_table" "_law_table" (defArgs s_l_table) (defBody s_l_table) (defScope s_l_table) .none kV18 dc18 pm18 an18 cd18 ct18), sl18⟩) (c18 : PySem.W.codeIn K cd18 "_law_table" = true) (k18 : PySem.W.keepIn K (.ref f18) = true)
    {f19 : Addr} {od19 an19 : Option Addr} {sl19 : Array (Option Value)} {oc19 kV19 dc19 pm19 cd19 ct19 : Value}
    (a19 : PySem.W.nsIn K mainGlobals "_law_order" = some (some (.ref f19))) (l19 : K.lookup f19 = some ⟨oc19, od19, .func (PySem.W.fnOf "_law_order" "_law_order" (defArgs s_l_order) (defBody s_l_order) (defScope s_l_order) .none kV19 dc19 pm19 an19 cd19 ct19), sl19⟩) (c19 : PySem.W.codeIn K cd19 "_law_order" = true) (k19 : PySem.W.keepIn K (.ref f19) = true)
    {f20 : Addr} {od20 an20 : Option Addr} {sl20 : Array (Option Value)} {oc20 kV20 dc20 pm20 cd20 ct20 : Value}
    (a20 : PySem.W.nsIn K mainGlobals "_law_parts_right" = some (some (.ref f20))) (l20 : K.lookup f20 = some ⟨oc20, od20, .func (PySem.W.fnOf "_law_parts_right" "_law_parts_right" (defArgs s_l_parts_right) (defBody s_l_parts_right) (defScope s_l_parts_right) .none kV20 dc20 pm20 an20 cd20 ct20), sl20⟩) (c20 : PySem.W.codeIn K cd20 "_law_parts_right" = true) (k20 : PySem.W.keepIn K (.ref f20) = true)
    {f21 : Addr} {od21 an21 : Option Addr} {sl21 : Array (Option Value)} {oc21 kV21 dc21 pm21 cd21 ct21 : Value}
    (a21 : PySem.W.nsIn K mainGlobals "_law_sums_right" = some (some (.ref f21))) (l21 : K.lookup f21 = some ⟨oc21, od21, .func (PySem.W.fnOf "_law_sums_right" "_law_sums_right" (defArgs s_l_sums_right) (defBody s_l_sums_right) (defScope s_l_sums_right) .none kV21 dc21 pm21 an21 cd21 ct21), sl21⟩) (c21 : PySem.W.codeIn K cd21 "_law_sums_right" = true) (k21 : PySem.W.keepIn K (.ref f21) = true)
    {f22 : Addr} {od22 an22 : Option Addr} {sl22 : Array (Option Value)} {oc22 kV22 dc22 pm22 cd22 ct22 : Value}
    (a22 : PySem.W.nsIn K mainGlobals "_law_hung_right" = some (some (.ref f22))) (l22 : K.lookup f22 = some ⟨oc22, od22, .func (PySem.W.fnOf "_law_hung_right" "_law_hung_right" (defArgs s_l_hung_right) (defBody s_l_hung_right) (defScope s_l_hung_right) .none kV22 dc22 pm22 an22 cd22 ct22), sl22⟩) (c22 : PySem.W.codeIn K cd22 "_law_hung_right" = true) (k22 : PySem.W.keepIn K (.ref f22) = true)
    {f23 : Addr} {od23 an23 : Option Addr} {sl23 : Array (Option Value)} {oc23 kV23 dc23 pm23 cd23 ct23 : Value}
    (a23 : PySem.W.nsIn K mainGlobals "law" = some (some (.ref f23))) (l23 : K.lookup f23 = some ⟨oc23, od23, .func (PySem.W.fnOf "law" "law" (defArgs s_law) (defBody s_law) (defScope s_law) .none kV23 dc23 pm23 an23 cd23 ct23), sl23⟩) (c23 : PySem.W.codeIn K cd23 "law" = true) (k23 : PySem.W.keepIn K (.ref f23) = true)
    {q0 : Addr} {dd0 : Option Addr} {nn0 : Nat} {qs0 : Array (Option Value)} {t0_0 t0_1 : Tok}
    (qa0 : PySem.W.nsIn K mainGlobals "NOUGHT" = some (some (.ref q0))) (ql0 : K.lookup q0 = some ⟨.type "tuple", dd0, .seq #[.int 0 t0_0, .int 1 t0_1] nn0, qs0⟩)
    (z_abs : PySem.W.nsIn K mainGlobals "abs" = some none)
    (z_bool : PySem.W.nsIn K mainGlobals "bool" = some none)
    (z_int : PySem.W.nsIn K mainGlobals "int" = some none)
    (z_isinstance : PySem.W.nsIn K mainGlobals "isinstance" = some none)
    (z_len : PySem.W.nsIn K mainGlobals "len" = some none)
    (z_list : PySem.W.nsIn K mainGlobals "list" = some none)
    (z_max : PySem.W.nsIn K mainGlobals "max" = some none)
    (z_min : PySem.W.nsIn K mainGlobals "min" = some none)
    (z_range : PySem.W.nsIn K mainGlobals "range" = some none)
    (z_set : PySem.W.nsIn K mainGlobals "set" = some none)
    (z_tuple : PySem.W.nsIn K mainGlobals "tuple" = some none)
    (z_zip : PySem.W.nsIn K mainGlobals "zip" = some none)
    : ∃ fd : FuncData, (∀ (s : Shared) (v : Value), BindsTo s fd ⟨[v], []⟩ [("script", v)]) ∧ ∀ base : Heap, K.In base → base.Ns mainGlobals mg → FnOk l.prog w K mg base CX0 6 fa fd ["script"] (sp_law K) := by
  have e := hfa.symm.trans (PySem.W.mg_of X G a23)
  cases e
  have T : Tx K mg := ⟨PySem.W.mg_none_of X G z_abs, PySem.W.mg_none_of X G z_bool, PySem.W.mg_none_of X G z_int, PySem.W.mg_none_of X G z_isinstance, PySem.W.mg_none_of X G z_len, PySem.W.mg_none_of X G z_list, PySem.W.mg_none_of X G z_max, PySem.W.mg_none_of X G z_min, PySem.W.mg_none_of X G z_range, PySem.W.mg_none_of X G z_set, PySem.W.mg_none_of X G z_tuple, PySem.W.mg_none_of X G z_zip, ⟨q0, PySem.W.mg_of X G qa0, fun H => .inr ⟨_, _, _, ql0, rfl, rfl, (by show 2 ≤ sizeLine; decide), .cons ⟨_, rfl⟩ (.cons ⟨_, rfl⟩ (.nil))⟩⟩⟩
  have F0 := fun_mk (st := s_common_of) l0 c0 k0
  have b0 := F0.binds (ps := ["one", "other"]) fun _ _ _ _ _ _ us hl => match us, hl with | [_, _], _ => rfl
  have F1 := fun_mk (st := s_fraction) l1 c1 k1
  have b1 := F1.binds (ps := ["top", "bottom"]) fun _ _ _ _ _ _ us hl => match us, hl with | [_, _], _ => rfl
  have F2 := fun_mk (st := s_plus) l2 c2 k2
  have b2 := F2.binds (ps := ["q", "r"]) fun _ _ _ _ _ _ us hl => match us, hl with | [_, _], _ => rfl
  have F3 := fun_mk (st := s_times) l3 c3 k3
  have b3 := F3.binds (ps := ["q", "r"]) fun _ _ _ _ _ _ us hl => match us, hl with | [_, _], _ => rfl
  have F4 := fun_mk (st := s_is_below) l4 c4 k4
  have b4 := F4.binds (ps := ["q", "r"]) fun _ _ _ _ _ _ us hl => match us, hl with | [_, _], _ => rfl
  have F5 := fun_mk (st := s_is_whole) l5 c5 k5
  have b5 := F5.binds (ps := ["thing"]) fun _ _ _ _ _ _ us hl => match us, hl with | [_], _ => rfl
  have F6 := fun_mk (st := s_is_fraction) l6 c6 k6
  have b6 := F6.binds (ps := ["thing"]) fun _ _ _ _ _ _ us hl => match us, hl with | [_], _ => rfl
  have F7 := fun_mk (st := s_is_table) l7 c7 k7
  have b7 := F7.binds (ps := ["thing"]) fun _ _ _ _ _ _ us hl => match us, hl with | [_], _ => rfl
  have F8 := fun_mk (st := s_first_short) l8 c8 k8
  have b8 := F8.binds (ps := ["table"]) fun _ _ _ _ _ _ us hl => match us, hl with | [_], _ => rfl
  have F9 := fun_mk (st := s_part_of) l9 c9 k9
  have b9 := F9.binds (ps := ["table", "points"]) fun _ _ _ _ _ _ us hl => match us, hl with | [_, _], _ => rfl
  have F10 := fun_mk (st := s_added) l10 c10 k10
  have b10 := F10.binds (ps := ["table", "other"]) fun _ _ _ _ _ _ us hl => match us, hl with | [_, _], _ => rfl
  have F11 := fun_mk (st := s_times_table) l11 c11 k11
  have b11 := F11.binds (ps := ["q", "table"]) fun _ _ _ _ _ _ us hl => match us, hl with | [_, _], _ => rfl
  have F12 := fun_mk (st := s_hung_together) l12 c12 k12
  have b12 := F12.binds (ps := ["table", "point", "other", "other_point"]) fun _ _ _ _ _ _ us hl => match us, hl with | [_, _, _, _], _ => rfl
  have F13 := fun_mk (st := s_l_pool) l13 c13 k13
  have b13 := F13.binds (ps := ["script", "k"]) fun _ _ _ _ _ _ us hl => match us, hl with | [_, _], _ => rfl
  have F14 := fun_mk (st := s_l_take) l14 c14 k14
  have b14 := F14.binds (ps := ["pool", "many"]) fun _ _ _ _ _ _ us hl => match us, hl with | [_, _], _ => rfl
  have F15 := fun_mk (st := s_l_lowest) l15 c15 k15
  have b15 := F15.binds (ps := ["top", "bottom"]) fun _ _ _ _ _ _ us hl => match us, hl with | [_, _], _ => rfl
  have F16 := fun_mk (st := s_l_distance) l16 c16 k16
  have b16 := F16.binds (ps := ["pool"]) fun _ _ _ _ _ _ us hl => match us, hl with | [_], _ => rfl
  have F17 := fun_mk (st := s_l_line) l17 c17 k17
  have b17 := F17.binds (ps := ["pool", "many"]) fun _ _ _ _ _ _ us hl => match us, hl with | [_, _], _ => rfl
  have F18 := fun_mk (st := s_l_table) l18 c18 k18
  have b18 := F18.binds (ps := ["pool", "many"]) fun _ _ _ _ _ _ us hl => match us, hl with | [_, _], _ => rfl
  have F19 := fun_mk (st := s_l_order) l19 c19 k19
  have b19 := F19.binds (ps := ["pool", "many"]) fun _ _ _ _ _ _ us hl => match us, hl with | [_, _], _ => rfl
  have F20 := fun_mk (st := s_l_parts_right) l20 c20 k20
  have b20 := F20.binds (ps := ["pool", "one", "other"]) fun _ _ _ _ _ _ us hl => match us, hl with | [_, _, _], _ => rfl
  have F21 := fun_mk (st := s_l_sums_right) l21 c21 k21
  have b21 := F21.binds (ps := ["pool", "one", "other"]) fun _ _ _ _ _ _ us hl => match us, hl with | [_, _, _], _ => rfl
  have F22 := fun_mk (st := s_l_hung_right) l22 c22 k22
  have b22 := F22.binds (ps := ["pool", "one", "other"]) fun _ _ _ _ _ _ us hl => match us, hl with | [_, _, _], _ => rfl
  have F23 := fun_mk (st := s_law) l23 c23 k23
  have b23 := F23.binds (ps := ["script"]) fun _ _ _ _ _ _ us hl => match us, hl with | [_], _ => rfl
  refine ⟨PySem.W.fnOf "law" "law" (defArgs s_law) (defBody s_law) (defScope s_law) .none kV23 dc23 pm23 an23 cd23 ct23, fun s v => .of_eq rfl, fun base _ _ => ?_⟩
  have c_common_of := cal_of (ok_common_of (P := l.prog) (w := w) (base := base) F0 T ) F0 b0 (PySem.W.mg_of X G a0)
  have c_is_below := cal_of (ok_is_below (P := l.prog) (w := w) (base := base) F4 T ) F4 b4 (PySem.W.mg_of X G a4)
  have c_is_whole := cal_of (ok_is_whole (P := l.prog) (w := w) (base := base) F5 T ) F5 b5 (PySem.W.mg_of X G a5)
  have c_part_of := cal_of (ok_part_of (P := l.prog) (w := w) (base := base) F9 T ) F9 b9 (PySem.W.mg_of X G a9)
  have c_l_pool := cal_of (ok_l_pool (P := l.prog) (w := w) (base := base) F13 T ) F13 b13 (PySem.W.mg_of X G a13)
  have c_l_take := cal_of (ok_l_take (P := l.prog) (w := w) (base := base) F14 T ) F14 b14 (PySem.W.mg_of X G a14)
  have c_l_lowest := cal_of (ok_l_lowest (P := l.prog) (w := w) (base := base) F15 T ) F15 b15 (PySem.W.mg_of X G a15)
  have c_fraction := cal_of (ok_fraction (P := l.prog) (w := w) (base := base) F1 T c_common_of) F1 b1 (PySem.W.mg_of X G a1)
  have c_is_fraction := cal_of (ok_is_fraction (P := l.prog) (w := w) (base := base) F6 T c_common_of c_is_whole) F6 b6 (PySem.W.mg_of X G a6)
  have c_l_distance := cal_of (ok_l_distance (P := l.prog) (w := w) (base := base) F16 T c_l_take c_l_lowest) F16 b16 (PySem.W.mg_of X G a16)
  have c_l_line := cal_of (ok_l_line (P := l.prog) (w := w) (base := base) F17 T c_l_take) F17 b17 (PySem.W.mg_of X G a17)
  have c_l_order := cal_of (ok_l_order (P := l.prog) (w := w) (base := base) F19 T c_l_take) F19 b19 (PySem.W.mg_of X G a19)
  have c_plus := cal_of (ok_plus (P := l.prog) (w := w) (base := base) F2 T c_fraction) F2 b2 (PySem.W.mg_of X G a2)
  have c_times := cal_of (ok_times (P := l.prog) (w := w) (base := base) F3 T c_fraction) F3 b3 (PySem.W.mg_of X G a3)
  have c_is_table := cal_of (ok_is_table (P := l.prog) (w := w) (base := base) F7 T c_is_fraction) F7 b7 (PySem.W.mg_of X G a7)
  have c_l_table := cal_of (ok_l_table (P := l.prog) (w := w) (base := base) F18 T c_l_take c_l_distance c_l_line) F18 b18 (PySem.W.mg_of X G a18)
  have c_first_short := cal_of (ok_first_short (P := l.prog) (w := w) (base := base) F8 T c_plus c_is_below) F8 b8 (PySem.W.mg_of X G a8)
  have c_added := cal_of (ok_added (P := l.prog) (w := w) (base := base) F10 T c_plus) F10 b10 (PySem.W.mg_of X G a10)
  have c_times_table := cal_of (ok_times_table (P := l.prog) (w := w) (base := base) F11 T c_times) F11 b11 (PySem.W.mg_of X G a11)
  have c_hung_together := cal_of (ok_hung_together (P := l.prog) (w := w) (base := base) F12 T c_plus) F12 b12 (PySem.W.mg_of X G a12)
  have c_l_parts_right := cal_of (ok_l_parts_right (P := l.prog) (w := w) (base := base) F20 T c_part_of c_added c_l_take c_l_order) F20 b20 (PySem.W.mg_of X G a20)
  have c_l_sums_right := cal_of (ok_l_sums_right (P := l.prog) (w := w) (base := base) F21 T c_added c_times_table c_l_take c_l_lowest) F21 b21 (PySem.W.mg_of X G a21)
  have c_l_hung_right := cal_of (ok_l_hung_right (P := l.prog) (w := w) (base := base) F22 T c_is_table c_first_short c_part_of c_hung_together c_l_take) F22 b22 (PySem.W.mg_of X G a22)
  exact ok_law F23 T c_l_pool c_l_take c_l_table c_l_parts_right c_l_sums_right c_l_hung_right
end Fc
open PySem PySem.W PyProof.Rows
set_option maxRecDepth 100000 in
set_option maxHeartbeats 0 in
theorem PySem.Challenge.cw_farcuts_k11_whole_tables_in_parts_holds : PySem.Challenge.rw_farcuts_k11_whole_tables_in_parts.Holds := by
  w_on; o_law; k_head; (case hw => w_witness2)
  k_fill
  refine L2.walk_of (l := PySem.Challenge.rw_farcuts_k11_whole_tables_in_parts) (n := 63) (k := 6) (x := "script") (CX := fun _ => L2.CX0) (sp := fun w => Fc.sp_law _) rfl (by decide) rfl ⟨rfl, by decide, by decide⟩ (fun w h Y => PySem.W.kIn_of Y) ?F (fun _ _ a ns hl _ hS => ⟨a, ns, rfl, hS, hl, fun _ => rfl⟩) (fun _ _ _ _ _ h => h)
  case F =>
    intro w mg fa h KX G hmg
    refine' Fc.all_mk KX G hmg ?a0 ?l0 ?c0 ?k0 ?a1 ?l1 ?c1 ?k1 ?a2 ?l2 ?c2 ?k2 ?a3 ?l3 ?c3 ?k3 ?a4 ?l4 ?c4 ?k4 ?a5 ?l5 ?c5 ?k5 ?a6 ?l6 ?c6 ?k6 ?a7 ?l7 ?c7 ?k7 ?a8 ?l8 ?c8 ?k8 ?a9 ?l9 ?c9 ?k9 ?a10 ?l10 ?c10 ?k10 ?a11 ?l11 ?c11 ?k11 ?a12 ?l12 ?c12 ?k12 ?a13 ?l13 ?c13 ?k13 ?a14 ?l14 ?c14 ?k14 ?a15 ?l15 ?c15 ?k15 ?a16 ?l16 ?c16 ?k16 ?a17 ?l17 ?c17 ?k17 ?a18 ?l18 ?c18 ?k18 ?a19 ?l19 ?c19 ?k19 ?a20 ?l20 ?c20 ?k20 ?a21 ?l21 ?c21 ?k21 ?a22 ?l22 ?c22 ?k22 ?a23 ?l23 ?c23 ?k23 ?qa0 ?ql0 ?z_abs ?z_bool ?z_int ?z_isinstance ?z_len ?z_list ?z_max ?z_min ?z_range ?z_set ?z_tuple ?z_zip
    (case a0 => k_is)
    (case l0 => k_is)
    (case c0 => k_is)
    (case k0 => k_is)
    (case a1 => k_is)
    (case l1 => k_is)
    (case c1 => k_is)
    (case k1 => k_is)
    (case a2 => k_is)
    (case l2 => k_is)
    (case c2 => k_is)
    (case k2 => k_is)
    (case a3 => k_is)
    (case l3 => k_is)
    (case c3 => k_is)
    (case k3 => k_is)
    (case a4 => k_is)
    (case l4 => k_is)
    (case c4 => k_is)
    (case k4 => k_is)
    (case a5 => k_is)
    (case l5 => k_is)
    (case c5 => k_is)
    (case k5 => k_is)
    (case a6 => k_is)
    (case l6 => k_is)
    (case c6 => k_is)
    (case k6 => k_is)
    (case a7 => k_is)
    (case l7 => k_is)
    (case c7 => k_is)
    (case k7 => k_is)
    (case a8 => k_is)
    (case l8 => k_is)
    (case c8 => k_is)
    (case k8 => k_is)
    (case a9 => k_is)
    (case l9 => k_is)
    (case c9 => k_is)
    (case k9 => k_is)
    (case a10 => k_is)
    (case l10 => k_is)
    (case c10 => k_is)
    (case k10 => k_is)
    (case a11 => k_is)
    (case l11 => k_is)
    (case c11 => k_is)
    (case k11 => k_is)
    (case a12 => k_is)
    (case l12 => k_is)
    (case c12 => k_is)
    (case k12 => k_is)
    (case a13 => k_is)
    (case l13 => k_is)
    (case c13 => k_is)
    (case k13 => k_is)
    (case a14 => k_is)
    (case l14 => k_is)
    (case c14 => k_is)
    (case k14 => k_is)
    (case a15 => k_is)
    (case l15 => k_is)
    (case c15 => k_is)
    (case k15 => k_is)
    (case a16 => k_is)
    (case l16 => k_is)
    (case c16 => k_is)
    (case k16 => k_is)
    (case a17 => k_is)
    (case l17 => k_is)
    (case c17 => k_is)
    (case k17 => k_is)
    (case a18 => k_is)
    (case l18 => k_is)
    (case c18 => k_is)
    (case k18 => k_is)
    (case a19 => k_is)
    (case l19 => k_is)
    (case c19 => k_is)
    (case k19 => k_is)
    (case a20 => k_is)
    (case l20 => k_is)
    (case c20 => k_is)
    (case k20 => k_is)
    (case a21 => k_is)
    (case l21 => k_is)
    (case c21 => k_is)
    (case k21 => k_is)
    (case a22 => k_is)
    (case l22 => k_is)
    (case c22 => k_is)
    (case k22 => k_is)
    (case a23 => k_is)
    (case l23 => k_is)
    (case c23 => k_is)
    (case k23 => k_is)
    (case qa0 => k_is)
    (case ql0 => k_is)
    (case z_abs => k_is)
    (case z_bool => k_is)
    (case z_int => k_is)
    (case z_isinstance => k_is)
    (case z_len => k_is)
    (case z_list => k_is)
    (case z_max => k_is)
    (case z_min => k_is)
    (case z_range => k_is)
    (case z_set => k_is)
    (case z_tuple => k_is)
    (case z_zip => k_is)
