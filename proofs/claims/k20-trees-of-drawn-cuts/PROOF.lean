import PyProof.Rows.All
import Wide.All
import OpenK.AllK
import Wide.FinOn
import PySem.Challenge.RW_farcuts_k20_trees_of_drawn_cuts
import HandS.ForMost
import HandS.ForExc
import HandS.Wide
import HandS.IsInst
import HandS.SortInts
import HandS.Deep
import HandS.Steps
import HandS.TupAny
import HandS.Codes
import HandS.NoneIn
import HandS.ExcIs
import HandS.ExcValue
import HandS.Conv
import KE.DataCmp
import KE.SortData
import HandS.SetFor
import KE.KSetDisp
import HandS.SetIn
import HandS.WordsExc
import HandS.Style
import KE.KExcMore
import PyProof.CallStr
import HandS.Flt
import HandS.Zip
import HandS.TupSets
set_option Elab.async false
set_option linter.all false
set_option maxRecDepth 100000
set_option maxHeartbeats 4000000
namespace Fc
open PySem PySem.Spec PyProof.Rows L2
open C8 (Cal pe_c)
/-! ### readings by names -/
def rAddS : R2 := fun x y H Q => ∃ i j, x = .str i ∧ y = .str j ∧ i.length + j.length ≤ sizeLine ∧ Q (.str (i ++ j)) H
theorem op_addS {X : Cx} : OpR X (binaryOp .Add) rAddS := op_add_str
def rLenSeq (K : PySem.W.Frag) : List V → Hp → VK → Prop := fun xs H Q => ∃ p ys, xs = [.ref p] ∧ (SqL K H p ys ∨ SqT K H p ys) ∧ Q (.int ys.length) H
theorem cr_lenSeq {X : Cx} : CallR X (.builtin "len") (rLenSeq X.K) := call_len_seq
def rLenStr : List V → Hp → VK → Prop := fun xs H Q => ∃ z, xs = [.str z] ∧ z.length ≤ sizeLine ∧ Q (.int z.length) H
theorem cr_lenStr {X : Cx} : CallR X (.builtin "len") rLenStr := call_len_str
def rAbs : List V → Hp → VK → Prop := fun xs H Q => ∃ i, xs = [.int i] ∧ Q (.int (if i < 0 then -i else i)) H
theorem cr_abs {X : Cx} : CallR X (.builtin "abs") rAbs := call_abs
def rMax2 : List V → Hp → VK → Prop := fun xs H Q => ∃ i j, xs = [.int i, .int j] ∧ Q (.int (if j > i then j else i)) H
theorem cr_max2 {X : Cx} (h : X.calm = true) : CallR X (.builtin "max") rMax2 := call_max2 h
def rMin2 : List V → Hp → VK → Prop := fun xs H Q => ∃ i j, xs = [.int i, .int j] ∧ Q (.int (if j < i then j else i)) H
theorem cr_min2 {X : Cx} (h : X.calm = true) : CallR X (.builtin "min") rMin2 := call_min2 h
def rInt1 : List V → Hp → VK → Prop := fun xs H Q => (∃ i, xs = [.int i] ∧ Q (.int i) H) ∨ ∃ k, xs = [.bl k] ∧ Q (.int (if k then 1 else 0)) H
theorem cr_int1 {X : Cx} : CallR X (.type "int") rInt1 := call_int1
def rStrI : List V → Hp → VK → Prop := fun xs H Q => ∃ i, xs = [.int i] ∧ i.natAbs.log2 < 1920 ∧ Q (.str (toString i)) H
theorem cr_strI {X : Cx} : CallR X (.type "str") rStrI := call_str_int
def rListOf (K : PySem.W.Frag) : List V → Hp → VK → Prop := fun xs H Q => ∃ p ys, xs = [.ref p] ∧ (SqL K H p ys ∨ SqT K H p ys) ∧ ∀ l, H l = none → Q (.ref l) (upd H l (.lst ys))
theorem cr_listOf {X : Cx} : CallR X (.type "list") (rListOf X.K) := call_list_of
theorem room_u {k : Nat} {A : Around} (hr : Room k A) : A.units + 64 < cLine := by have := hr.un; omega
theorem room_u65 {k : Nat} {A : Around} (hr : Room k A) : A.units + 65 < cLine := by have := hr.un; omega
theorem _root_.L2.Room.units65 {k : Nat} {A : Around} (hr : Room k A) : A.units + 65 < cLine := room_u65 hr
section
variable {P : Program} {w : World} {K : PySem.W.Frag} {mg : Str → Option Value} {base : Heap}
theorem cal_of {x qual : Str} {st : Stmt} {f : Addr} {fd : FuncData} {ps : List Str} {k : Nat} {sp : Sp} (h : FnOk P w K mg base CX0 k f fd ps sp) (F : Fun K x qual st f fd) (b : Binds K fd ps []) (g : mg x = some (.ref f)) : Cal P w K mg base k x sp [] :=
  ⟨⟨f, fd, ps, [], h, g, F.kp, b, .nil⟩⟩
end
/-! ### stepping through a reading -/
section
variable {K : PySem.W.Frag} {σ : L2.St} {H : Hp} {Q : VK} {D : Ends} {x y v : V} {ta tb te : TE} {t u : TS} {i j : Int}
theorem g_var {n : Nat} (h : σ[n]? = some (some v)) (q : Q v H) : tVar n σ H Q := ⟨v, h, q⟩
theorem g_c (q : Q v H) : tC v σ H Q := q
theorem g_op {r : R2} (q : ta σ H fun x H1 => tb σ H1 fun y H2 => r x y H2 Q) : tOp r ta tb σ H Q := q
theorem g_un {r : V → Hp → VK → Prop} (q : ta σ H fun x H1 => r x H1 Q) : tUn r ta σ H Q := q
theorem g_neg (q : Q (.int (-i)) H) : rU (fun i => .int (-i)) (.int i) H Q := ⟨i, rfl, q⟩
theorem g_I0 {g : Int → Int → V} (q : Q (g i j) H) : rI0 g (.int i) (.int j) H Q := ⟨i, j, rfl, rfl, q⟩
theorem g_mod (c : 0 < j) (q : Q (.int (i % j)) H) : rI (fun _ j => 0 < j) (fun i j => .int (i % j)) (.int i) (.int j) H Q := ⟨i, j, rfl, rfl, c, q⟩
theorem g_mul (c : CMulW i j) (q : Q (.int (i * j)) H) : rI CMulW (fun i j => .int (i * j)) (.int i) (.int j) H Q := ⟨i, j, rfl, rfl, c, q⟩
theorem g_div (c : CDivW i j) (q : Q (.int (i / j)) H) : rI CDivW (fun i j => .int (i / j)) (.int i) (.int j) H Q := ⟨i, j, rfl, rfl, c, q⟩
theorem g_pow (c : CPow i j) (q : Q (.int (i ^ j.toNat)) H) : rI CPow (fun i j => .int (i ^ j.toNat)) (.int i) (.int j) H Q := ⟨i, j, rfl, rfl, c, q⟩
theorem g_eq (c : scal x y = true) (q : Q (.bl (decide (x = y))) H) : rEq x y H Q := ⟨c, q⟩
theorem g_ne (c : scal x y = true) (q : Q (.bl (!decide (x = y))) H) : rNe x y H Q := ⟨c, q⟩
theorem g_eqI (q : Q (.bl (decide (i = j))) H) : rEq (.int i) (.int j) H Q := ⟨rfl, by
  have e : decide (V.int i = V.int j) = decide (i = j) := by simp
  rw [e]; exact q⟩
theorem g_neI (q : Q (.bl (!decide (i = j))) H) : rNe (.int i) (.int j) H Q := ⟨rfl, by
  have e : decide (V.int i = V.int j) = decide (i = j) := by simp
  rw [e]; exact q⟩
theorem g_eqB {a b : Bool} (q : Q (.bl (decide (a = b))) H) : rEq (.bl a) (.bl b) H Q := ⟨rfl, by
  have e : decide (V.bl a = V.bl b) = decide (a = b) := by simp
  rw [e]; exact q⟩
theorem g_neB {a b : Bool} (q : Q (.bl (!decide (a = b))) H) : rNe (.bl a) (.bl b) H Q := ⟨rfl, by
  have e : decide (V.bl a = V.bl b) = decide (a = b) := by simp
  rw [e]; exact q⟩
theorem g_ixT {p : Addr} {xs : List V} (h : SqT K H p xs) (a : atI xs i = some v) (q : Q v H) : rIxT K (.ref p) (.int i) H Q := ⟨p, xs, i, v, rfl, rfl, h, a, q⟩
theorem g_ixL {p : Addr} {xs : List V} (h : SqL K H p xs) (a : atI xs i = some v) (q : Q v H) : rIxL K (.ref p) (.int i) H Q := ⟨p, xs, i, v, rfl, rfl, h, a, q⟩
theorem g_tcons {tr : TA} {Q : List V → Hp → Prop} (q : ta σ H fun x H1 => tr σ H1 fun xs H2 => Q (x :: xs) H2) : tCons ta tr σ H Q := q
theorem g_tnil {Q : List V → Hp → Prop} (q : Q [] H) : tNil σ H Q := q
theorem g_cb {r : List V → Hp → VK → Prop} {t : TA} (q : t σ H fun vs H1 => r vs H1 Q) : tCB r t σ H Q := q
theorem g_call {sp : Sp} {dvs : List V} {E : XK} {t : TA} (q : t σ H fun vs H1 => sp (vs ++ dvs) H1 Q E) : tCall sp dvs E t σ H Q := q
theorem g_tup {t : TA} (q : t σ H fun xs H1 => xs.length ≤ sizeLine ∧ ∀ p, H1 p = none → Q (.ref p) (upd H1 p (.tup xs))) : tTup t σ H Q := q
theorem g_lst {t : TA} (q : t σ H fun xs H1 => xs.length ≤ sizeLine ∧ ∀ p, H1 p = none → Q (.ref p) (upd H1 p (.lst xs))) : tLst t σ H Q := q
theorem g_if {c : TT} (q : c σ H fun b H1 => if b = true then t D σ H1 else u D σ H1) : tIfS c t u D σ H := q
theorem g_test {Q : Bool → Hp → Prop} (q : te σ H fun x H' => ∃ k, x = .bl k ∧ Q k H') : tTest te σ H Q := q
theorem g_tB {Q : Bool → Hp → Prop} (q : te σ H fun x H' => ∃ k, x = .bl k ∧ Q k H') : tB te σ H Q := q
theorem g_bl {b : Bool} {Q : Bool → Hp → Prop} (q : Q b H) : ∃ k, V.bl b = .bl k ∧ Q k H := ⟨b, rfl, q⟩
theorem g_blV {b : Bool} {Q : Bool → Prop} (q : Q b) : ∃ k, V.bl b = .bl k ∧ Q k := ⟨b, rfl, q⟩
theorem g_not {c : TT} {Q : Bool → Hp → Prop} (q : c σ H fun c H1 => Q (!c) H1) : tNot c σ H Q := q
theorem g_and {c d : TT} {Q : Bool → Hp → Prop} (q : c σ H fun c H1 => if c = true then d σ H1 Q else Q false H1) : tAnd c d σ H Q := q
theorem g_or {c d : TT} {Q : Bool → Hp → Prop} (q : c σ H fun c H1 => if c = true then Q true H1 else d σ H1 Q) : tOr c d σ H Q := q
theorem g_andV (q : ta σ H fun x H1 => ∃ c, x = .bl c ∧ if c = true then tb σ H1 Q else Q (.bl false) H1) : tAndV ta tb σ H Q := q
theorem g_orV (q : ta σ H fun x H1 => ∃ c, x = .bl c ∧ if c = true then Q (.bl true) H1 else tb σ H1 Q) : tOrV ta tb σ H Q := q
theorem g_notV (q : ta σ H fun x H1 => ∃ c, x = .bl c ∧ Q (.bl (!c)) H1) : tNotV ta σ H Q := q
theorem g_seq (q : t { D with nx := u D } σ H) : tSeq t u D σ H := q
theorem g_cut (Mid : L2.St → Hp → Prop) (h : t { D with nx := Mid } σ H) (q : ∀ σ' H', Mid σ' H' → u D σ' H') : C8.tCut t u D σ H := ⟨Mid, h, q⟩
theorem g_next (q : D.nx σ H) : tNext D σ H := q
theorem g_asg {g : TG} (q : te σ H fun x H1 => g x σ H1 D.nx) : tAsg te g D σ H := q
theorem g_name {n : Nat} {Q : L2.St → Hp → Prop} (q : Q (σ.set n (some v)) H) : gName n v σ H Q := q
theorem g_ret (q : te σ H D.rt) : tRet te D σ H := q
theorem g_drop (q : te σ H fun _ H1 => D.nx σ H1) : tDrop te D σ H := q
theorem g_par {a b : Nat} {ta : TA} (q : ta σ H fun vs H1 => ∃ v w, vs = [v, w] ∧ D.nx ((σ.set a (some v)).set b (some w)) H1) : tPar a b ta D σ H := q
theorem g_two {x y : V} {Q : V → V → Prop} (q : Q x y) : ∃ v w, [x, y] = [v, w] ∧ Q v w := ⟨x, y, rfl, q⟩
theorem g_aug {n : Nat} {ti : R2} (h : σ[n]? = some (some x)) (q : te σ H fun y H1 => ti x y H1 fun z H2 => D.nx (σ.set n (some z)) H2) : tAug n te ti D σ H := ⟨x, h, q⟩
theorem g_ipI {g : Int → Int → Int} (q : Q (.int (g i j)) H) : ipI g (.int i) (.int j) H Q := ⟨i, j, rfl, rfl, q⟩
theorem g_sub {o ix : TE} {s : V → V → V → Hp → (Hp → Prop) → Prop} {Q : L2.St → Hp → Prop} (q : o σ H fun o H1 => ix σ H1 fun i H2 => s o i v H2 fun H3 => Q σ H3) : gSub o ix s v σ H Q := q
theorem g_setL {p : Addr} {xs : List V} {k : Nat} {Q : Hp → Prop} (h : H p = some (.lst xs)) (e : ixN xs.length i = some k) (q : Q (upd H p (.lst (xs.set k v)))) : rSetL (.ref p) (.int i) v H Q := ⟨p, xs, i, k, rfl, rfl, h, e, q⟩
theorem g_abs (q : Q (.int (if i < 0 then -i else i)) H) : rAbs [.int i] H Q := ⟨i, rfl, q⟩
theorem g_max2 (q : Q (.int (if j > i then j else i)) H) : rMax2 [.int i, .int j] H Q := ⟨i, j, rfl, q⟩
theorem g_min2 (q : Q (.int (if j < i then j else i)) H) : rMin2 [.int i, .int j] H Q := ⟨i, j, rfl, q⟩
theorem g_intI (q : Q (.int i) H) : rInt1 [.int i] H Q := .inl ⟨i, rfl, q⟩
theorem g_intB {k : Bool} (q : Q (.int (if k then 1 else 0)) H) : rInt1 [.bl k] H Q := .inr ⟨k, rfl, q⟩
theorem g_lenL {p : Addr} {xs : List V} (h : SqL K H p xs) (q : Q (.int xs.length) H) : rLenSeq K [.ref p] H Q := ⟨p, xs, rfl, .inl h, q⟩
theorem g_lenT {p : Addr} {xs : List V} (h : SqT K H p xs) (q : Q (.int xs.length) H) : rLenSeq K [.ref p] H Q := ⟨p, xs, rfl, .inr h, q⟩
theorem g_inL {p : Addr} {xs : List V} {neg : Bool} (h : SqL K H p xs) (a : flatV x = true) (b : xs.all flatV = true) (q : Q (.bl (if neg then !inV x xs else inV x xs)) H) : rIn K neg x (.ref p) H Q := ⟨p, xs, rfl, .inl h, a, b, q⟩
theorem g_isi {c : V} {t u : Value} {b : Bool} (h1 : ClsV c u) (h2 : TyX K H x t) (h3 : PySem.W.kitOne K t u = some b) (q : Q (.bl b) H) : rIsi K [x, c] H Q := ⟨x, c, t, u, b, rfl, h1, h2, h3, q⟩
theorem ifD {p : Prop} [Decidable p] {A B : Prop} (h1 : p → A) (h2 : ¬ p → B) : if decide p = true then A else B := by
  by_cases h : p
  · simp only [h, decide_true, if_true]; exact h1 h
  · simp only [h, decide_false]; exact h2 h
theorem ifND {p : Prop} [Decidable p] {A B : Prop} (h1 : ¬ p → A) (h2 : p → B) : if (!decide p) = true then A else B := by
  by_cases h : p
  · simp only [h, decide_true]; exact h2 h
  · simp only [h, decide_false]; exact h1 h
theorem ifB {b : Bool} {A B : Prop} (h1 : b = true → A) (h2 : b = false → B) : if b = true then A else B := by
  cases b
  · exact h2 rfl
  · exact h1 rfl
end
/-! ### heaps -/
section
variable {K : PySem.W.Frag} {H H' : Hp} {a p : Addr} {xs ys : List V} {o : HO}
theorem same_new (h : H p = none) : Same H (upd H p o) := fun b u e => by rw [upd_ne (ne_of_none e h)]; exact e
theorem same_to {H1 : Hp} (e : Same H H') (h : H' p = none) : Same H (upd H' p o) := e.trans (same_new h)
theorem sqT_same (e : Same H H') (h : SqT K H a xs) : SqT K H' a xs := by
  rcases h with (h | ⟨o, h⟩) | h
  · exact .inl (.inl (e _ _ h))
  · exact .inl (.inr ⟨o, e _ _ h⟩)
  · exact .inr h
theorem sqL_same (e : Same H H') (h : SqL K H a xs) : SqL K H' a xs := e.seq h
theorem sqT_new (e : H p = none) (h : SqT K H a xs) : SqT K (upd H p o) a xs := sqT_same (same_new e) h
theorem sqL_new (e : H p = none) (h : SqL K H a xs) : SqL K (upd H p o) a xs := sqL_same (same_new e) h
theorem sqT_at : SqT K (upd H p (.tup xs)) p xs := .inl (.inl upd_same)
theorem sqL_at : SqL K (upd H p (.lst xs)) p xs := .inl (.inl upd_same)
theorem sqT_mut (e : H p = some (.lst ys)) (h : SqT K H a xs) : SqT K (upd H p o) a xs := by
  rcases h with (h | ⟨u, h⟩) | h
  · have n : a ≠ p := ne_of h e (by intro z; cases z)
    exact .inl (.inl (by rw [upd_ne n]; exact h))
  · have n : a ≠ p := ne_of h e (by intro z; cases z)
    exact .inl (.inr ⟨u, by rw [upd_ne n]; exact h⟩)
  · exact .inr h
/-- all but the object at p stands as it stood -/
def But (p : Addr) (H H' : Hp) : Prop := ∀ b o, b ≠ p → H b = some o → H' b = some o
theorem But.refl (p : Addr) (H : Hp) : But p H H := fun _ _ _ h => h
theorem But.trans {H1 H2 : Hp} (a : But p H H1) (b : But p H1 H2) : But p H H2 := fun c o n h => b c o n (a c o n h)
theorem But.same (e : Same H H') : But p H H' := fun b o _ h => e b o h
theorem But.mut : But p H (upd H p o) := fun b u n h => by rw [upd_ne n]; exact h
theorem But.new {q : Addr} (h : H q = none) : But p H (upd H q o) := But.same (same_new h)
theorem sqT_but (b : But p H H') (e : H p = some (.lst ys)) (h : SqT K H a xs) : SqT K H' a xs := by
  rcases h with (h | ⟨u, h⟩) | h
  · exact .inl (.inl (b _ _ (ne_of h e (by intro z; cases z)) h))
  · exact .inl (.inr ⟨u, b _ _ (ne_of h e (by intro z; cases z)) h⟩)
  · exact .inr h
theorem sqL_but (b : But p H H') (e : H p = none) (h : SqL K H a xs) : SqL K H' a xs := by
  rcases h with (h | ⟨u, h⟩) | h
  · exact .inl (.inl (b _ _ (ne_of_none h e) h))
  · exact .inl (.inr ⟨u, b _ _ (ne_of_none h e) h⟩)
  · exact .inr h
theorem new_of (n : H' p = none) (e : Same H H') : H p = none := e.free n
end
/-! ### words -/

/-! ### loops -/
section
variable {K : PySem.W.Frag} {σ : L2.St} {H : Hp} {Q : VK} {D : Ends} {x y v : V} {ta tb te : TE} {t u : TS} {i j : Int}
/-- what a for's loop asks, walked by J -/
def LoopF (J : It) (g : TG) (tb : TS) (D : Ends) (σ : L2.St) (H : Hp) : Prop := ∃ W : Nat → Nat → L2.St → Hp → Prop, (∃ m, W 0 m σ H) ∧ ∀ i m σ H, W i m σ H →
  (J.stop i H ∧ D.nx σ H) ∨ (J.go i H ∧ ∃ N : L2.St → Hp → Prop, (∀ σ' H', N σ' H' → ∃ m', m' < m ∧ W (i + 1) m' σ' H') ∧ ∀ x H', J.yld i H x H' → g x σ H' fun σ2 H2 => tb { D with nx := N, ct := N, bk := D.nx } σ2 H2)
theorem g_for {wi : TI} {g : TG} {tb : TS} (q : wi σ H fun J H1 => LoopF J g tb D σ H1) : tFor wi g tb D σ H := q
theorem loop_range {lo : Int} {n : Nat} {g : TG} {tb : TS} (Pv : Nat → L2.St → Hp → Prop) (h0 : Pv 0 σ H)
    (hs : ∀ i σ H, i < n → Pv i σ H → g (.int (lo + i)) σ H fun σ2 H2 => tb { D with nx := Pv (i + 1), ct := Pv (i + 1), bk := D.nx } σ2 H2) (hd : ∀ σ H, Pv n σ H → D.nx σ H) : LoopF (Itr lo n) g tb D σ H := for_range Pv h0 hs hd
theorem loop_list {a : Addr} {xs : List V} {g : TG} {tb : TS} (Pv : Nat → L2.St → Hp → Prop) (h0 : Pv 0 σ H) (hl : ∀ i σ H, i ≤ xs.length → Pv i σ H → SqL K H a xs)
    (hs : ∀ i x σ H, xs[i]? = some x → Pv i σ H → g x σ H fun σ2 H2 => tb { D with nx := Pv (i + 1), ct := Pv (i + 1), bk := D.nx } σ2 H2) (hd : ∀ σ H, Pv xs.length σ H → D.nx σ H) : LoopF (Itl K a) g tb D σ H := for_list Pv h0 hl hs hd
theorem loop_tup {a : Addr} {xs : List V} {g : TG} {tb : TS} (Pv : Nat → L2.St → Hp → Prop) (h0 : Pv 0 σ H) (hl : ∀ i σ H, i ≤ xs.length → Pv i σ H → SqT K H a xs)
    (hs : ∀ i x σ H, xs[i]? = some x → Pv i σ H → g x σ H fun σ2 H2 => tb { D with nx := Pv (i + 1), ct := Pv (i + 1), bk := D.nx } σ2 H2) (hd : ∀ σ H, Pv xs.length σ H → D.nx σ H) : LoopF (Itt K a) g tb D σ H := for_tup Pv h0 hl hs hd
def rng1 (R : It → Hp → Prop) (vs : List V) (H : Hp) : Prop := ∃ j : Int, vs = [.int j] ∧ -(2 ^ 62) ≤ j ∧ j < 2 ^ 62 ∧ R (Itr 0 j.toNat) H
def rng2 (R : It → Hp → Prop) (vs : List V) (H : Hp) : Prop := ∃ i j : Int, vs = [.int i, .int j] ∧ (-(2 ^ 62) ≤ i ∧ i < 2 ^ 62 ∧ -(2 ^ 62) ≤ j ∧ j < 2 ^ 62) ∧ R (Itr i (j - i).toNat) H
theorem g_irng1 {ta : TA} {R : It → Hp → Prop} (q : ta σ H (rng1 R)) : iRng1 ta σ H R := q
theorem g_irng2 {ta : TA} {R : It → Hp → Prop} (q : ta σ H (rng2 R)) : iRng2 ta σ H R := q
theorem g_rng1 {R : It → Hp → Prop} (h : -(2 ^ 62) ≤ j ∧ j < 2 ^ 62) (q : R (Itr 0 j.toNat) H) : rng1 R [.int j] H := ⟨j, rfl, h.1, h.2, q⟩
theorem g_rng2 {R : It → Hp → Prop} (h : -(2 ^ 62) ≤ i ∧ i < 2 ^ 62 ∧ -(2 ^ 62) ≤ j ∧ j < 2 ^ 62) (q : R (Itr i (j - i).toNat) H) : rng2 R [.int i, .int j] H := ⟨i, j, rfl, h, q⟩
def ilR (K : PySem.W.Frag) (R : It → Hp → Prop) : VK := fun x H1 => ∃ a, x = .ref a ∧ (∃ xs, SqL K H1 a xs) ∧ R (Itl K a) H1
def itR (K : PySem.W.Frag) (R : It → Hp → Prop) : VK := fun x H1 => ∃ a, x = .ref a ∧ (∃ xs, SqT K H1 a xs) ∧ R (Itt K a) H1
theorem g_ilist {tl : TE} {R : It → Hp → Prop} (q : tl σ H (ilR K R)) : iList K tl σ H R := q
theorem g_itup {tl : TE} {R : It → Hp → Prop} (q : tl σ H (itR K R)) : iTup K tl σ H R := q
theorem g_ilR {a : Addr} {xs : List V} {R : It → Hp → Prop} (h : SqL K H a xs) (q : R (Itl K a) H) : ilR K R (.ref a) H := ⟨a, rfl, ⟨xs, h⟩, q⟩
theorem g_itR {a : Addr} {xs : List V} {R : It → Hp → Prop} (h : SqT K H a xs) (q : R (Itt K a) H) : itR K R (.ref a) H := ⟨a, rfl, ⟨xs, h⟩, q⟩
/-- what a comprehension asks, walked by J, its list at L -/
def LoopC (J : It) (g : TG) (tt : TT) (te : TE) (vs : List Nat) (L : Addr) (σ : L2.St) (Qd : Hp → Prop) (H1 : Hp) : Prop := ∃ W : Nat → Nat → Hp → Prop, (∃ m, W 0 m (upd H1 L (.lst []))) ∧ ∀ i m H, W i m H →
  (J.stop i H ∧ Qd H) ∨ (J.go i H ∧ ∃ Nx : Hp → Prop, (∀ H', Nx H' → ∃ m', m' < m ∧ W (i + 1) m' H') ∧ ∀ x H', J.yld i H x H' → g x (wipe σ vs) H' fun σ2 H2 => wipe σ2 vs = wipe σ vs ∧ tt σ2 H2 fun b H3 =>
    if b = true then te σ2 H3 fun y H4 => ∃ acc, H4 L = some (.lst acc) ∧ acc.length < sizeLine ∧ Nx (upd H4 L (.lst (acc ++ [y]))) else Nx H3)
theorem g_lc {wi : TI} {g : TG} {tt : TT} {vs : List Nat} (q : wi σ H fun J H1 => ∀ L, H1 L = none → LoopC J g tt te vs L σ (fun H => Q (.ref L) H) H1) : tLc wi g tt te vs σ H Q := q
theorem lcl_range {lo : Int} {n : Nat} {g : TG} {tt : TT} {te : TE} {vs : List Nat} {L : Addr} {Qd : Hp → Prop} (Pv : Nat → Hp → Prop) (h0 : Pv 0 (upd H L (.lst [])))
    (hs : ∀ i H, i < n → Pv i H → g (.int (lo + i)) (wipe σ vs) H fun σ2 H2 => wipe σ2 vs = wipe σ vs ∧ tt σ2 H2 fun b H3 =>
      if b = true then te σ2 H3 fun y H4 => ∃ acc, H4 L = some (.lst acc) ∧ acc.length < sizeLine ∧ Pv (i + 1) (upd H4 L (.lst (acc ++ [y]))) else Pv (i + 1) H3) (hd : ∀ H, Pv n H → Qd H) : LoopC (Itr lo n) g tt te vs L σ Qd H := lc_range Pv h0 hs hd
theorem lcl_list {a : Addr} {xs : List V} {g : TG} {tt : TT} {te : TE} {vs : List Nat} {L : Addr} {Qd : Hp → Prop} (Pv : Nat → Hp → Prop) (h0 : Pv 0 (upd H L (.lst []))) (hl : ∀ i H, i ≤ xs.length → Pv i H → SqL K H a xs)
    (hs : ∀ i x H, xs[i]? = some x → Pv i H → g x (wipe σ vs) H fun σ2 H2 => wipe σ2 vs = wipe σ vs ∧ tt σ2 H2 fun b H3 =>
      if b = true then te σ2 H3 fun y H4 => ∃ acc, H4 L = some (.lst acc) ∧ acc.length < sizeLine ∧ Pv (i + 1) (upd H4 L (.lst (acc ++ [y]))) else Pv (i + 1) H3) (hd : ∀ H, Pv xs.length H → Qd H) : LoopC (Itl K a) g tt te vs L σ Qd H := lc_list Pv h0 hl hs hd
theorem lcl_tup {a : Addr} {xs : List V} {g : TG} {tt : TT} {te : TE} {vs : List Nat} {L : Addr} {Qd : Hp → Prop} (Pv : Nat → Hp → Prop) (h0 : Pv 0 (upd H L (.lst []))) (hl : ∀ i H, i ≤ xs.length → Pv i H → SqT K H a xs)
    (hs : ∀ i x H, xs[i]? = some x → Pv i H → g x (wipe σ vs) H fun σ2 H2 => wipe σ2 vs = wipe σ vs ∧ tt σ2 H2 fun b H3 =>
      if b = true then te σ2 H3 fun y H4 => ∃ acc, H4 L = some (.lst acc) ∧ acc.length < sizeLine ∧ Pv (i + 1) (upd H4 L (.lst (acc ++ [y]))) else Pv (i + 1) H3) (hd : ∀ H, Pv xs.length H → Qd H) : LoopC (Itt K a) g tt te vs L σ Qd H := lc_tup Pv h0 hl hs hd
theorem g_yes {Q : Bool → Hp → Prop} (q : Q true H) : tYes σ H Q := q
/-- a power of written numbers -/
theorem g_powE {k : Int} (c : CPow i j) (e : i ^ j.toNat = k) (q : Q (.int k) H) : rI CPow (fun i j => .int (i ^ j.toNat)) (.int i) (.int j) H Q := ⟨i, j, rfl, rfl, c, by show Q (.int (i ^ j.toNat)) H; rw [e]; exact q⟩
theorem cpow_ok (h : 0 ≤ j ∧ j ≤ 1000000 ∧ i.natAbs < 2 ^ 64) : CPow i j := h
theorem atI_of {ns : List Int} {k : Int} (p : Int → Prop) (h0 : 0 ≤ k) (h : k < ns.length) (hp : ∀ z ∈ ns, p z) : ∃ z, atI (ns.map V.int) k = some (.int z) ∧ p z := by
  obtain ⟨j, rfl⟩ : ∃ j : Nat, k = j := ⟨k.toNat, by omega⟩
  have hj : j < ns.length := by omega
  exact ⟨ns[j], atI_nat (by rw [List.getElem?_map, List.getElem?_eq_getElem hj]; rfl), hp _ (List.getElem_mem hj)⟩
theorem two_le : ([x, y] : List V).length ≤ sizeLine := by show 2 ≤ sizeLine; decide
theorem sz_le {n : Nat} (h : n ≤ 100000) : n ≤ sizeLine := Nat.le_trans h (by decide)
theorem sz_lt {n : Nat} (h : n < 100000) : n < sizeLine := Nat.lt_of_lt_of_le h (by decide)
theorem tyX_tup {a : Addr} {xs : List V} (h : SqT K H a xs) : TyX K H (.ref a) (.type "tuple") := by
  rcases h with (h | ⟨o, h⟩) | ⟨o, its, n, h, c, _⟩
  · exact .base (.tup h)
  · exact .fTuple h
  · exact .kTuple h c
theorem tyX_lst {a : Addr} {xs : List V} (h : SqL K H a xs) : TyX K H (.ref a) (.type "list") := by
  rcases h with (h | ⟨o, h⟩) | ⟨o, its, n, h, c, _⟩
  · exact .base (.lst h)
  · exact .base (.frz h)
  · exact .kList h c
theorem g_isiT {a : Addr} {xs : List V} (h : SqT K H a xs) (q : Q (.bl true) H) : rIsi K [.ref a, .ty "tuple"] H Q := g_isi (.ty _) (tyX_tup h) (kit_ty (by decide +kernel)) q
theorem g_isiL {a : Addr} {xs : List V} (h : SqL K H a xs) (q : Q (.bl true) H) : rIsi K [.ref a, .ty "list"] H Q := g_isi (.ty _) (tyX_lst h) (kit_ty (by decide +kernel)) q
theorem g_isiTL {a : Addr} {xs : List V} (h : SqT K H a xs) (q : Q (.bl false) H) : rIsi K [.ref a, .ty "list"] H Q := g_isi (.ty _) (tyX_tup h) (kit_ty (by decide +kernel)) q
theorem g_isiLT {a : Addr} {xs : List V} (h : SqL K H a xs) (q : Q (.bl false) H) : rIsi K [.ref a, .ty "tuple"] H Q := g_isi (.ty _) (tyX_lst h) (kit_ty (by decide +kernel)) q
theorem g_isiI (q : Q (.bl true) H) : rIsi K [.int i, .ty "int"] H Q := g_isi (.ty _) (.base (.int i)) (kit_ty (by decide +kernel)) q
theorem g_isiIB (q : Q (.bl false) H) : rIsi K [.int i, .ty "bool"] H Q := g_isi (.ty _) (.base (.int i)) (kit_ty (by decide +kernel)) q
theorem g_isiB {b : Bool} (q : Q (.bl true) H) : rIsi K [.bl b, .ty "bool"] H Q := g_isi (.ty _) (.base (.bl b)) (kit_ty (by decide +kernel)) q
theorem g_isiS {s : Str} (q : Q (.bl true) H) : rIsi K [.str s, .ty "str"] H Q := g_isi (.ty _) (.base (.str s)) (kit_ty (by decide +kernel)) q
end
/-! ### one step of a reading: what stands below it, found by its head -/
class St1 (g : Prop) (n : outParam Prop) : Prop where
  pf : n → g
section
variable {K : PySem.W.Frag} {σ : L2.St} {H : Hp} {Q : VK} {D : Ends} {x y v : V} {ta tb te : TE} {t u : TS} {i j : Int} {n m : Nat} {b : Bool}
instance  : St1 (tC v σ H Q) (Q v H) := ⟨g_c⟩
instance {r : R2} : St1 (tOp r ta tb σ H Q) (ta σ H fun x H1 => tb σ H1 fun y H2 => r x y H2 Q) := ⟨g_op⟩
instance {r : V → Hp → VK → Prop} : St1 (tUn r ta σ H Q) (ta σ H fun x H1 => r x H1 Q) := ⟨g_un⟩
instance  : St1 (rU (fun i => .int (-i)) (.int i) H Q) (Q (.int (-i)) H) := ⟨g_neg⟩
instance {g : Int → Int → V} : St1 (rI0 g (.int i) (.int j) H Q) (Q (g i j) H) := ⟨g_I0⟩
instance  : St1 (rEq (.int i) (.int j) H Q) (Q (.bl (decide (i = j))) H) := ⟨g_eqI⟩
instance  : St1 (rNe (.int i) (.int j) H Q) (Q (.bl (!decide (i = j))) H) := ⟨g_neI⟩
instance {a b : Bool} : St1 (rEq (.bl a) (.bl b) H Q) (Q (.bl (decide (a = b))) H) := ⟨g_eqB⟩
instance {a b : Bool} : St1 (rNe (.bl a) (.bl b) H Q) (Q (.bl (!decide (a = b))) H) := ⟨g_neB⟩
instance {tr : TA} {Q : List V → Hp → Prop} : St1 (tCons ta tr σ H Q) (ta σ H fun x H1 => tr σ H1 fun xs H2 => Q (x :: xs) H2) := ⟨g_tcons⟩
instance {Q : List V → Hp → Prop} : St1 (tNil σ H Q) (Q [] H) := ⟨g_tnil⟩
instance {r : List V → Hp → VK → Prop} {t : TA} : St1 (tCB r t σ H Q) (t σ H fun vs H1 => r vs H1 Q) := ⟨g_cb⟩
instance {sp : Sp} {dvs : List V} {E : XK} {t : TA} : St1 (tCall sp dvs E t σ H Q) (t σ H fun vs H1 => sp (vs ++ dvs) H1 Q E) := ⟨g_call⟩
instance {t : TA} : St1 (tTup t σ H Q) (t σ H fun xs H1 => xs.length ≤ sizeLine ∧ ∀ p, H1 p = none → Q (.ref p) (upd H1 p (.tup xs))) := ⟨g_tup⟩
instance {t : TA} : St1 (tLst t σ H Q) (t σ H fun xs H1 => xs.length ≤ sizeLine ∧ ∀ p, H1 p = none → Q (.ref p) (upd H1 p (.lst xs))) := ⟨g_lst⟩
instance {c : TT} : St1 (tIfS c t u D σ H) (c σ H fun b H1 => if b = true then t D σ H1 else u D σ H1) := ⟨g_if⟩
instance {Q : Bool → Hp → Prop} : St1 (tTest te σ H Q) (te σ H fun x H' => ∃ k, x = .bl k ∧ Q k H') := ⟨g_test⟩
instance {Q : Bool → Hp → Prop} : St1 (tB te σ H Q) (te σ H fun x H' => ∃ k, x = .bl k ∧ Q k H') := ⟨g_tB⟩
instance {c : TT} {Q : Bool → Hp → Prop} : St1 (tNot c σ H Q) (c σ H fun c H1 => Q (!c) H1) := ⟨g_not⟩
instance {c d : TT} {Q : Bool → Hp → Prop} : St1 (tAnd c d σ H Q) (c σ H fun c H1 => if c = true then d σ H1 Q else Q false H1) := ⟨g_and⟩
instance {c d : TT} {Q : Bool → Hp → Prop} : St1 (tOr c d σ H Q) (c σ H fun c H1 => if c = true then Q true H1 else d σ H1 Q) := ⟨g_or⟩
instance  : St1 (tAndV ta tb σ H Q) (ta σ H fun x H1 => ∃ c, x = .bl c ∧ if c = true then tb σ H1 Q else Q (.bl false) H1) := ⟨g_andV⟩
instance  : St1 (tOrV ta tb σ H Q) (ta σ H fun x H1 => ∃ c, x = .bl c ∧ if c = true then Q (.bl true) H1 else tb σ H1 Q) := ⟨g_orV⟩
instance  : St1 (tNotV ta σ H Q) (ta σ H fun x H1 => ∃ c, x = .bl c ∧ Q (.bl (!c)) H1) := ⟨g_notV⟩
instance  : St1 (tSeq t u D σ H) (t { D with nx := u D } σ H) := ⟨g_seq⟩
instance  : St1 (tNext D σ H) (D.nx σ H) := ⟨g_next⟩
instance {g : TG} : St1 (tAsg te g D σ H) (te σ H fun x H1 => g x σ H1 D.nx) := ⟨g_asg⟩
instance {Q : L2.St → Hp → Prop} : St1 (gName n v σ H Q) (Q (σ.set n (some v)) H) := ⟨g_name⟩
instance  : St1 (tRet te D σ H) (te σ H D.rt) := ⟨g_ret⟩
instance  : St1 (tDrop te D σ H) (te σ H fun _ H1 => D.nx σ H1) := ⟨g_drop⟩
instance {ta : TA} : St1 (tPar n m ta D σ H) (ta σ H fun vs H1 => ∃ v w, vs = [v, w] ∧ D.nx ((σ.set n (some v)).set m (some w)) H1) := ⟨g_par⟩
instance {g : Int → Int → Int} : St1 (ipI g (.int i) (.int j) H Q) (Q (.int (g i j)) H) := ⟨g_ipI⟩
instance {o ix : TE} {s : V → V → V → Hp → (Hp → Prop) → Prop} {Q : L2.St → Hp → Prop} : St1 (gSub o ix s v σ H Q) (o σ H fun o H1 => ix σ H1 fun i H2 => s o i v H2 fun H3 => Q σ H3) := ⟨g_sub⟩
instance  : St1 (rAbs [.int i] H Q) (Q (.int (if i < 0 then -i else i)) H) := ⟨g_abs⟩
instance  : St1 (rMax2 [.int i, .int j] H Q) (Q (.int (if j > i then j else i)) H) := ⟨g_max2⟩
instance  : St1 (rMin2 [.int i, .int j] H Q) (Q (.int (if j < i then j else i)) H) := ⟨g_min2⟩
instance  : St1 (rInt1 [.int i] H Q) (Q (.int i) H) := ⟨g_intI⟩
instance  : St1 (rInt1 [.bl b] H Q) (Q (.int (if b then 1 else 0)) H) := ⟨g_intB⟩
instance {wi : TI} {g : TG} {tb : TS} : St1 (tFor wi g tb D σ H) (wi σ H fun J H1 => LoopF J g tb D σ H1) := ⟨g_for⟩
instance {ta : TA} {R : It → Hp → Prop} : St1 (iRng1 ta σ H R) (ta σ H (rng1 R)) := ⟨g_irng1⟩
instance {ta : TA} {R : It → Hp → Prop} : St1 (iRng2 ta σ H R) (ta σ H (rng2 R)) := ⟨g_irng2⟩
instance {tl : TE} {R : It → Hp → Prop} : St1 (iList K tl σ H R) (tl σ H (ilR K R)) := ⟨g_ilist⟩
instance {tl : TE} {R : It → Hp → Prop} : St1 (iTup K tl σ H R) (tl σ H (itR K R)) := ⟨g_itup⟩
instance {wi : TI} {g : TG} {tt : TT} {vs : List Nat} : St1 (tLc wi g tt te vs σ H Q) (wi σ H fun J H1 => ∀ L, H1 L = none → LoopC J g tt te vs L σ (fun H => Q (.ref L) H) H1) := ⟨g_lc⟩
instance {Q : Bool → Hp → Prop} : St1 (tYes σ H Q) (Q true H) := ⟨g_yes⟩
instance  : St1 (rIsi K [.int i, .ty "int"] H Q) (Q (.bl true) H) := ⟨g_isiI⟩
instance  : St1 (rIsi K [.int i, .ty "bool"] H Q) (Q (.bl false) H) := ⟨g_isiIB⟩
instance  : St1 (rIsi K [.bl b, .ty "bool"] H Q) (Q (.bl true) H) := ⟨g_isiB⟩
instance {s : Str} : St1 (rIsi K [.str s, .ty "str"] H Q) (Q (.bl true) H) := ⟨g_isiS⟩
instance {b : Bool} {Q : Bool → Prop} : St1 (∃ k, V.bl b = .bl k ∧ Q k) (Q b) := ⟨fun q => ⟨b, rfl, q⟩⟩
instance {x y : V} {Q : V → V → Prop} : St1 (∃ v w, [x, y] = [v, w] ∧ Q v w) (Q x y) := ⟨fun q => ⟨x, y, rfl, q⟩⟩
instance {A B : Prop} : St1 (if true = true then A else B) A := ⟨iteT⟩
instance {A B : Prop} : St1 (if false = true then A else B) B := ⟨iteF⟩
instance {A B : Prop} : St1 (if (!true) = true then A else B) B := ⟨iteF⟩
instance {A B : Prop} : St1 (if (!false) = true then A else B) A := ⟨iteT⟩
instance {p A B : Prop} [Decidable p] : St1 (if (!!decide p) = true then A else B) (if decide p = true then A else B) := ⟨fun h => by rw [Bool.not_not]; exact h⟩
end

/-! ### the rules that hang on the written part, with K said -/
section
variable {X : Cx} {K : PySem.W.Frag}
theorem k_isi (h : X.K = K := by rfl) : CallR X (.builtin "isinstance") (rIsi K) := by subst h; exact call_isi
theorem k_isiT (h : X.K = K := by rfl) : CallR X (.builtin "isinstance") (rIsiT K) := by subst h; exact call_isiT
theorem k_ixL (h : X.K = K := by rfl) : IxR X (rIxL K) := by subst h; exact ix_list
theorem k_ixT (h : X.K = K := by rfl) : IxR X (rIxT K) := by subst h; exact ix_tup
theorem k_slL (h : X.K = K := by rfl) : SlR X (rSlL K) := by subst h; exact sl_list
theorem k_slT (h : X.K = K := by rfl) : SlR X (rSlA K) := by subst h; exact sl_tupA
theorem k_len (h : X.K = K := by rfl) : CallR X (.builtin "len") (rLenSeq K) := by subst h; exact cr_lenSeq
theorem k_list (h : X.K = K := by rfl) : CallR X (.type "list") (rListOf K) := by subst h; exact cr_listOf
theorem k_sum (hc : X.calm = true := by rfl) (h : X.K = K := by rfl) : CallR X (.builtin "sum") (rSum K) := by subst h; exact cr_sum hc
theorem k_max (hc : X.calm = true := by rfl) (h : X.K = K := by rfl) : CallR X (.builtin "max") (rMax K) := by subst h; exact cr_max hc
theorem k_min (hc : X.calm = true := by rfl) (h : X.K = K := by rfl) : CallR X (.builtin "min") (rMin K) := by subst h; exact cr_min hc
theorem k_all (hc : X.calm = true := by rfl) (h : X.K = K := by rfl) : CallR X (.builtin "all") (rAll K) := by subst h; exact cr_all hc
theorem k_any (hc : X.calm = true := by rfl) (h : X.K = K := by rfl) : CallR X (.builtin "any") (rAny K) := by subst h; exact cr_any hc
theorem k_sortedI (h : X.K = K := by rfl) : CallR X (.builtin "sorted") (rSortedI K) := by subst h; exact cr_sortedI
theorem k_in (h : X.K = K := by rfl) : OpR X (compareOp .In) (rIn K false) := by subst h; exact op_in_seq
theorem k_notIn (h : X.K = K := by rfl) : OpR X (compareOp .NotIn) (rIn K true) := by subst h; exact op_notIn_seq
theorem k_eqD (hu : X.A.units + 64 < cLine) (h : X.K = K := by rfl) : OpR X (compareOp .Eq) (rEqD K) := by subst h; exact op_eqD hu
theorem k_neD (hu : X.A.units + 64 < cLine) (h : X.K = K := by rfl) : OpR X (compareOp .NotEq) (rNeD K) := by subst h; exact op_neD hu
theorem k_inD (hu : X.A.units + 65 < cLine) (h : X.K = K := by rfl) : OpR X (compareOp .In) (rInD K) := by subst h; exact op_inD hu
theorem k_notInD (hu : X.A.units + 65 < cLine) (h : X.K = K := by rfl) : OpR X (compareOp .NotIn) (rNotInD K) := by subst h; exact op_notInD hu
theorem k_catT (h : X.K = K := by rfl) : OpR X (binaryOp .Add) (rCatA K) := by subst h; exact op_catA
end
section
variable {X : Cx} {K : PySem.W.Frag} {tg : Expr}
theorem k_piL {l : Expr} {tl : TE} (hl : PE X l tl) (h : X.K = K := by rfl) : PI X tg l (iList K tl) := by subst h; exact pi_list hl
theorem k_piT {l : Expr} {tl : TE} (hl : PE X l tl) (h : X.K = K := by rfl) : PI X tg l (iTup K tl) := by subst h; exact pi_tup hl
theorem k_enum {e : Expr} {ta : TA} {p pos tpos : Pos} {elts : List Expr} {kk : Nat} (hg : Gl X "enumerate") (hm : X.mg "enumerate" = none) (ha : PA X [e] ta) (hs : starEach [e] X.env = [(false, eval e X.env)] := by rfl) (h : X.K = K := by rfl) :
    PI X (.Tuple elts kk tpos) (.Call (.Name "enumerate" p) [e] [] pos) (iEnum K ta) := by subst h; exact pi_enum hg hm ha hs
theorem k_zip {e e2 : Expr} {ta : TA} {p pos tpos : Pos} {elts : List Expr} {kk : Nat} (hg : Gl X "zip") (hm : X.mg "zip" = none) (ha : PA X [e, e2] ta)
    (hs : starEach [e, e2] X.env = (false, eval e X.env) :: starEach [e2] X.env := by rfl) (hpl : (backTo pos (starEach [e2] X.env)).any (·.1) = false := by rfl) (h : X.K = K := by rfl) :
    PI X (.Tuple elts kk tpos) (.Call (.Name "zip" p) [e, e2] [] pos) (iZip K ta) := by subst h; exact pi_zip hg hm ha hs hpl
theorem k_tup {pos : Pos} {es : List Expr} {k : Nat} {t : TGs} {n : Nat} (hc : X.calm = true) (h : PGs X es t)
    (hn : (assignEach es X.env).length = n := by rfl) (hst : (assignEach es X.env).findIdx? (·.1) = none := by rfl) (h : X.K = K := by rfl) : PG X (.Tuple es k pos) (gTup K n t) := by subst h; exact pg_tup hc (by assumption) hn hst
end

/-! ### fractions: the mathematics -/
theorem divInt_num (t b : Int) (hb : b ≠ 0) : (Rat.divInt t b).num = if b < 0 then t.fdiv (-(Int.gcd t b : Int)) else t.fdiv (Int.gcd t b : Int) := by
  rw [Rat.num_divInt, Int.gcd_comm]
  have hd : ((t.gcd b : Nat) : Int) ∣ t := Int.gcd_dvd_left t b
  by_cases h : b < 0
  · rw [if_pos h, Int.sign_eq_neg_one_of_neg h, Int.fdiv_eq_ediv_of_dvd (Int.neg_dvd.mpr hd), Int.ediv_neg, Int.neg_mul, Int.one_mul, Int.neg_ediv_of_dvd hd]
  · rw [if_neg h, Int.sign_eq_one_of_pos (by omega), Int.one_mul, Int.fdiv_eq_ediv_of_dvd hd]
theorem divInt_den (t b : Int) (hb : b ≠ 0) : ((Rat.divInt t b).den : Int) = if b < 0 then b.fdiv (-(Int.gcd t b : Int)) else b.fdiv (Int.gcd t b : Int) := by
  rw [Rat.den_divInt, if_neg hb, Int.gcd_comm]
  have hd : ((t.gcd b : Nat) : Int) ∣ b := Int.gcd_dvd_right t b
  by_cases h : b < 0
  · rw [if_pos h, Int.fdiv_eq_ediv_of_dvd (Int.neg_dvd.mpr hd), Int.ediv_neg, ← Int.neg_ediv_of_dvd hd, Int.natCast_ediv]
    congr 1; omega
  · rw [if_neg h, Int.fdiv_eq_ediv_of_dvd hd, Int.natCast_ediv]
    congr 1; omega
theorem gcd_fmod (a b : Int) : b.gcd (a.fmod b) = a.gcd b := by
  rw [Int.fmod_def, Int.gcd_sub_mul_left_right, Int.gcd_comm]
theorem fmod_small (a b : Int) (hb : b ≠ 0) : (a.fmod b).natAbs < b.natAbs := by
  by_cases h : 0 < b
  · have h1 := Int.fmod_nonneg_of_pos a h
    have h2 := Int.fmod_lt_of_pos a h
    omega
  · have h0 : 0 < -b := by omega
    have e : a.fmod b = -((-a).fmod (-b)) := by
      rw [Int.fmod_def, Int.fmod_def, Int.neg_fdiv_neg, Int.neg_mul]; omega
    have h1 := Int.fmod_nonneg_of_pos (-a) h0
    have h2 := Int.fmod_lt_of_pos (-a) h0
    omega
theorem gcd_lt {t b : Int} {n : Nat} (hb : b ≠ 0) (h : b.natAbs < 2 ^ n) : (Int.gcd t b : Int).natAbs < 2 ^ n := by
  have : Int.gcd t b ≤ b.natAbs := Nat.le_of_dvd (by omega) (Nat.gcd_dvd_right _ _)
  show Int.gcd t b < 2 ^ n
  omega
theorem gcd_pos' {t b : Int} (hb : b ≠ 0) : 0 < (Int.gcd t b : Int) := by
  have := Int.gcd_pos_iff (a := t) (b := b) |>.mpr (.inr hb)
  omega
theorem gcd_abs (a b : Int) : Int.gcd (if a < 0 then -a else a) (if b < 0 then -b else b) = Int.gcd a b := by
  unfold Int.gcd
  congr 1 <;> split <;> omega
/-- what a fraction's tuple holds -/
def FV (x : Rat) : List V := [.int x.num, .int (x.den : Int)]
/-- small enough -/
def Bd (n : Nat) (x : Rat) : Prop := x.num.natAbs < 2 ^ n ∧ (x.den : Int).natAbs < 2 ^ n
theorem Bd.mono {n m : Nat} {x : Rat} (h : Bd n x) (l : n ≤ m) : Bd m x := ⟨Nat.lt_of_lt_of_le h.1 (Nat.pow_le_pow_right (by decide) l), Nat.lt_of_lt_of_le h.2 (Nat.pow_le_pow_right (by decide) l)⟩
theorem Bd.num {n : Nat} {x : Rat} (h : Bd n x) : x.num.natAbs < 2 ^ n := h.1
theorem Bd.de {n : Nat} {x : Rat} (h : Bd n x) : (x.den : Int).natAbs < 2 ^ n := h.2
theorem den_ne (x : Rat) : (x.den : Int) ≠ 0 := by have := x.den_pos; omega
theorem den_pos' (x : Rat) : (0 : Int) < (x.den : Int) := by have := x.den_pos; omega
theorem mulW {i j : Int} (n m : Nat) (h1 : i.natAbs < 2 ^ n) (h2 : j.natAbs < 2 ^ m) (h0 : 0 < n := by decide) (h3 : 0 < m := by decide) (h : n + m ≤ 1000000 := by decide) : CMulW i j := wide_mul h1 h2 h0 h3 h
theorem plus_eq (x y : Rat) : Rat.divInt (x.num * y.den + y.num * x.den) (x.den * y.den) = x + y := by
  have := Rat.divInt_add_divInt x.num y.num (den_ne x) (den_ne y)
  rw [Rat.num_divInt_den, Rat.num_divInt_den] at this
  exact this.symm
theorem minus_eq (x y : Rat) : Rat.divInt (x.num * y.den - y.num * x.den) (x.den * y.den) = x - y := by
  have := Rat.divInt_sub_divInt x.num y.num (den_ne x) (den_ne y)
  rw [Rat.num_divInt_den, Rat.num_divInt_den] at this
  exact this.symm
theorem times_eq (x y : Rat) : Rat.divInt (x.num * y.num) (x.den * y.den) = x * y := by
  have := Rat.divInt_mul_divInt x.num y.num (d₁ := x.den) (d₂ := y.den)
  rw [Rat.num_divInt_den, Rat.num_divInt_den] at this
  exact this.symm
theorem divided_eq (x y : Rat) : Rat.divInt (x.num * y.den) (x.den * y.num) = x / y := by
  have h := Rat.divInt_mul_divInt x.num y.den (d₁ := x.den) (d₂ := y.num)
  rw [← Rat.inv_divInt y.num y.den, Rat.num_divInt_den, Rat.num_divInt_den] at h
  rw [Rat.div_def]; exact h.symm
theorem lt_eq (x y : Rat) : decide (x.num * (y.den : Int) < y.num * (x.den : Int)) = decide (x < y) := by
  rw [decide_eq_decide]; exact (Rat.lt_iff x y).symm
theorem natAbs_mul_lt {i j : Int} {n m : Nat} (h1 : i.natAbs < 2 ^ n) (h2 : j.natAbs < 2 ^ m) : (i * j).natAbs < 2 ^ (n + m) := wide_lt h1 h2
/-- the floor by a divisor of either sign -/
def CDivV (_ j : Int) : Prop := j ≠ 0 ∧ j.natAbs.log2 < 9000
theorem op_fdivV {X : Cx} : OpR X (binaryOp .FloorDiv) (rI CDivV fun i j => .int (i.fdiv j)) := opI fun i j _ _ _ _ _ hc q =>
  floordiv_int hc.1 q (.inl (PyProof.noPylong_of_log2 hc.2))
theorem divV {i j : Int} (n : Nat) (h : j ≠ 0) (hb : j.natAbs < 2 ^ n) (h0 : 0 < n := by decide) (h9 : n ≤ 9000 := by decide) : CDivV i j := ⟨h, Nat.lt_of_lt_of_le (PySem.Flt.log2_lt_of h0 hb) h9⟩
section
variable {Q : VK} {H : Hp} {i j : Int}
theorem g_divV (c : CDivV i j) (q : Q (.int (i.fdiv j)) H) : rI CDivV (fun i j => .int (i.fdiv j)) (.int i) (.int j) H Q := ⟨i, j, rfl, rfl, c, q⟩
theorem g_modN (c : j ≠ 0) (q : Q (.int (i.fmod j)) H) : rI (fun _ j => j ≠ 0) (fun i j => .int (i.fmod j)) (.int i) (.int j) H Q := ⟨i, j, rfl, rfl, c, q⟩
end
abbrev Fr (K : PySem.W.Frag) (H : Hp) (a : Addr) (x : Rat) : Prop := SqT K H a (FV x)

/-! ### == of data -/
/-- a fraction as a datum -/
abbrev FD (x : Rat) : PyData := .tuple [.int x.num, .int (x.den : Int)]
theorem rat_ext {x y : Rat} : x = y ↔ x.num = y.num ∧ x.den = y.den := ⟨fun e => by subst e; exact ⟨rfl, rfl⟩, fun ⟨a, b⟩ => Rat.ext a b⟩
theorem FD_eqv (x y : Rat) : PyData.eqv (FD x) (FD y) = decide (x = y) := by
  unfold FD
  simp only [PyData.eqv, PyData.eqvAll, Bool.and_true]
  rw [Bool.eq_iff_iff]
  simp only [Bool.and_eq_true, beq_iff_eq, decide_eq_true_eq, rat_ext, Int.natCast_inj]
theorem FD_shaped (x : Rat) : SeqAt.shaped (FD x) = true := rfl
theorem FD_dp {K : PySem.W.Frag} {H : Hp} {a : Addr} {x : Rat} (h : Fr K H a x) : Dp K H (.ref a) (FD x) := .tup h (.cons (.int _) (.cons (.int _) .nil))
theorem g_eqF {K : PySem.W.Frag} {H : Hp} {Q : VK} {a b : Addr} {x y : Rat} (h1 : Fr K H a x) (h2 : Fr K H b y) (q : Q (.bl (decide (x = y))) H) : rEqD K (.ref a) (.ref b) H Q := ⟨_, _, FD_dp h1, FD_dp h2, rfl, rfl, by rw [FD_eqv]; exact q⟩
theorem g_neF {K : PySem.W.Frag} {H : Hp} {Q : VK} {a b : Addr} {x y : Rat} (h1 : Fr K H a x) (h2 : Fr K H b y) (q : Q (.bl (!decide (x = y))) H) : rNeD K (.ref a) (.ref b) H Q := ⟨_, _, FD_dp h1, FD_dp h2, rfl, rfl, by rw [FD_eqv]; exact q⟩
/-- an empty list against a list -/
theorem g_neNil {K : PySem.W.Frag} {H : Hp} {Q : VK} {a b : Addr} (h1 : SqL K H a []) (h2 : SqL K H b []) (q : Q (.bl false) H) : rNeD K (.ref a) (.ref b) H Q := ⟨_, _, .lst h1 .nil, .lst h2 .nil, rfl, rfl, q⟩
theorem g_eqNil {K : PySem.W.Frag} {H : Hp} {Q : VK} {a b : Addr} (h1 : SqL K H a []) (h2 : SqL K H b []) (q : Q (.bl true) H) : rEqD K (.ref a) (.ref b) H Q := ⟨_, _, .lst h1 .nil, .lst h2 .nil, rfl, rfl, q⟩

section
variable {P : Program} {w : World} {K : PySem.W.Frag} {mg : Str → Option Value} {base : Heap}
/-! ### fractions: the walk -/
def sp_common : Sp := fun vs H Q _ => ∃ a b : Int, vs = [.int a, .int b] ∧ Q (.int (Int.gcd a b)) H
theorem abs_gcd0 (a : Int) : (if a < 0 then -a else a) = (Int.gcd a 0 : Int) := by
  rw [Int.gcd_zero_right]; split <;> omega
def sp_fraction : Sp := fun vs H Q _ => ∃ t b : Int, vs = [.int t, .int b] ∧ b ≠ 0 ∧ b.natAbs < 2 ^ 8500 ∧ ∀ p, H p = none → Q (.ref p) (upd H p (.tup (FV (Rat.divInt t b))))
/-- two fractions to one -/
def sp2F (K : PySem.W.Frag) (f : Rat → Rat → Rat) (pre : Rat → Rat → Prop) : Sp := fun vs H Q _ => ∃ (a b : Addr) (x y : Rat), vs = [.ref a, .ref b] ∧ Fr K H a x ∧ Fr K H b y ∧ Bd 4000 x ∧ Bd 4000 y ∧ pre x y ∧
  ∀ p, H p = none → Q (.ref p) (upd H p (.tup (FV (f x y))))
theorem fr_at {H : Hp} {a : Addr} {x : Rat} {o : HO} (h : o = .tup (FV x)) : Fr K (upd H a o) a x := by subst h; exact sqT_at
def sp_below (K : PySem.W.Frag) : Sp := fun vs H Q _ => ∃ (a b : Addr) (x y : Rat), vs = [.ref a, .ref b] ∧ Fr K H a x ∧ Fr K H b y ∧ Bd 4000 x ∧ Bd 4000 y ∧ Q (.bl (decide (x < y))) H
end

/-! ### the law's pool of draws -/
/-- a pool with at most n draws behind it -/
def Pool (n : Nat) (H : Hp) (p : Addr) : Prop := ∃ a b c : Int, H p = some (.lst [.int a, .int b, .int c]) ∧ 0 ≤ c ∧ c ≤ n
theorem Pool.mono {n m : Nat} {H : Hp} {p : Addr} (h : Pool n H p) (l : n ≤ m) : Pool m H p := by
  obtain ⟨a, b, c, e, h0, h1⟩ := h
  exact ⟨a, b, c, e, h0, by omega⟩
theorem Pool.same {n : Nat} {H H' : Hp} {p : Addr} (h : Pool n H p) (s : Same H H') : Pool n H' p := by
  obtain ⟨a, b, c, e, h0, h1⟩ := h
  exact ⟨a, b, c, s _ _ e, h0, h1⟩
theorem Pool.new {n : Nat} {H : Hp} {p q : Addr} {o : HO} (h : Pool n H p) (s : H q = none) : Pool n (upd H q o) p := h.same (same_new s)
theorem Pool.some {n : Nat} {H : Hp} {p : Addr} (h : Pool n H p) : ∃ xs, H p = Option.some (.lst xs) := by
  obtain ⟨a, b, c, e, _⟩ := h
  exact ⟨_, e⟩
theorem sqT_pool {K : PySem.W.Frag} {n : Nat} {H H' : Hp} {p a : Addr} {xs : List V} (b : But p H H') (e : Pool n H p) (h : SqT K H a xs) : SqT K H' a xs := by
  obtain ⟨ys, e⟩ := e.some
  exact sqT_but b e h
theorem same_of_but {p : Addr} {H H' : Hp} (b : But p H H') (n : H p = none) : Same H H' := fun q o e => b q o (ne_of_none e n) e
theorem But.newp {p q : Addr} {H H' : Hp} {o : HO} (b : But p H H') (n : H' q = none) : But p H (upd H' q o) := b.trans (But.new n)
section
variable {P : Program} {w : World} {K : PySem.W.Frag} {mg : Str → Option Value} {base : Heap}
def sp_pool (K : PySem.W.Frag) : Sp := fun vs H Q _ => ∃ (a : Addr) (ns : List Int) (k : Int), vs = [.ref a, .int k] ∧ SqL K H a (ns.map V.int) ∧ 0 ≤ k ∧ k ≤ 1000 ∧
  ∀ p H', H p = none → Same H H' → Pool 23000 H' p → Q (.ref p) H'
theorem atI_int {ns : List Int} {k : Int} (h0 : 0 ≤ k) (h : k < ns.length) : ∃ z, atI (ns.map V.int) k = some (.int z) := by
  obtain ⟨j, rfl⟩ : ∃ j : Nat, k = j := ⟨k.toNat, by omega⟩
  have hj : j < ns.length := by omega
  exact ⟨ns[j], atI_nat (by rw [List.getElem?_map, List.getElem?_eq_getElem hj]; rfl)⟩
def sp_take (K : PySem.W.Frag) : Sp := fun vs H Q _ => ∃ (p : Addr) (n : Nat) (m : Int), vs = [.ref p, .int m] ∧ Pool n H p ∧ n ≤ 2 ^ 60 ∧ 0 < m ∧ m.natAbs < 2 ^ 8500 ∧
  ∀ r H', 0 ≤ r → r < m → But p H H' → Pool (n + 1) H' p → Q (.int r) H'
end

/-! ### the law's own fractions -/
theorem Bd_divInt {t b : Int} {n : Nat} (hb : b ≠ 0) (h1 : t.natAbs < 2 ^ n) (h2 : b.natAbs < 2 ^ n) : Bd n (Rat.divInt t b) := by
  constructor
  · rw [Rat.num_divInt]
    refine Nat.lt_of_le_of_lt ?_ h1
    rw [Int.natAbs_ediv_of_dvd (Int.dvd_mul_of_dvd_right (Int.gcd_dvd_right b t)), Int.natAbs_mul, Int.natAbs_sign_of_ne_zero hb, Nat.one_mul]
    exact Nat.div_le_self _ _
  · rw [Rat.den_divInt, if_neg hb]
    exact Nat.lt_of_le_of_lt (Nat.div_le_self _ _) h2
theorem atI_memV {xs : List V} {k : Int} (p : V → Prop) (h0 : 0 ≤ k) (h : k < xs.length) (hp : ∀ z ∈ xs, p z) : ∃ z, atI xs k = some z ∧ p z := by
  obtain ⟨j, rfl⟩ : ∃ j : Nat, k = j := ⟨k.toNat, by omega⟩
  have hj : j < xs.length := by omega
  exact ⟨xs[j], atI_nat (List.getElem?_eq_getElem hj), hp _ (List.getElem_mem hj)⟩
theorem FV_neg (x : Rat) : FV (-x) = [.int (0 - x.num), .int (x.den : Int)] := by
  unfold FV
  rw [Rat.neg_num, Rat.neg_den, Int.zero_sub]
theorem Bd.neg {n : Nat} {x : Rat} (h : Bd n x) : Bd n (-x) := by
  unfold Bd at *
  rw [Rat.neg_num, Rat.neg_den]
  omega
section
variable {P : Program} {w : World} {K : PySem.W.Frag} {mg : Str → Option Value} {base : Heap}
def sp_figures (K : PySem.W.Frag) : Sp := fun vs H Q _ => ∃ (p : Addr) (n : Nat), vs = [.ref p] ∧ Pool n H p ∧ n ≤ 2 ^ 59 ∧
  ∀ r H', 0 ≤ r → r < 10 ^ 40 → But p H H' → Pool (n + 10) H' p → Q (.int r) H'
/-- a drawn fraction -/
def sp_q (K : PySem.W.Frag) : Sp := fun vs H Q _ => ∃ (p : Addr) (n : Nat), vs = [.ref p] ∧ Pool n H p ∧ n ≤ 2 ^ 58 ∧
  ∀ a x H', H a = none → Bd 134 x → But p H H' → Pool (n + 40) H' p → Fr K H' a x → Q (.ref a) H'
theorem pool_ne {n : Nat} {H : Hp} {p l : Addr} (h : Pool n H p) (e : H l = none) : l ≠ p := fun z => by
  obtain ⟨xs, e2⟩ := h.some
  rw [← z, e] at e2; cases e2
theorem FV_zero : FV 0 = [.int 0, .int 1] := rfl
theorem Bd_zero {n : Nat} (h : 0 < n) : Bd n 0 := ⟨Nat.pow_pos (by decide), Nat.one_lt_two_pow (by omega)⟩
theorem free_but {p a : Addr} {H H' : Hp} (b : But p H H') (n : a ≠ p) (e : H' a = none) : H a = none := by
  cases h : H a with
  | none => rfl
  | some o => rw [b a o n h] at e; cases e
end

section
variable {P : Program} {w : World} {K : PySem.W.Frag} {mg : Str → Option Value} {base : Heap}
/-- found is told to be the fraction t over b -/
def sp_isfr (K : PySem.W.Frag) : Sp := fun vs H Q _ => ∃ (a : Addr) (t b : Int), vs = [.ref a, .int t, .int b] ∧ Fr K H a (Rat.divInt t b) ∧ b ≠ 0 ∧ b.natAbs < 2 ^ 8500 ∧ ∀ H', Same H H' → Q (.bl true) H'
end

/-! ### bounds, and the deeds by one step each -/
def IB (n : Nat) (i : Int) : Prop := i.natAbs < 2 ^ n
theorem IB.mono {n m : Nat} {i : Int} (h : IB n i) (l : n ≤ m) : IB m i := Nat.lt_of_lt_of_le h (Nat.pow_le_pow_right (by decide) l)
theorem IB.num {n : Nat} {x : Rat} (h : Bd n x) : IB n x.num := h.1
theorem IB.den {n : Nat} {x : Rat} (h : Bd n x) : IB n (x.den : Int) := h.2
theorem IB.mul {n m : Nat} {i j : Int} (h : IB n i) (h' : IB m j) : IB (n + m) (i * j) := natAbs_mul_lt h h'
theorem two_pow_max {n m : Nat} {a b : Nat} (h : a < 2 ^ n) (h' : b < 2 ^ m) : a + b < 2 ^ (max n m + 1) := by
  have h1 := Nat.pow_le_pow_right (n := 2) (by decide) (Nat.le_max_left n m)
  have h2 := Nat.pow_le_pow_right (n := 2) (by decide) (Nat.le_max_right n m)
  rw [Nat.pow_succ]
  omega
theorem IB.add {n m : Nat} {i j : Int} (h : IB n i) (h' : IB m j) : IB (max n m + 1) (i + j) := Nat.lt_of_le_of_lt (Int.natAbs_add_le i j) (two_pow_max h h')
theorem IB.sub {n m : Nat} {i j : Int} (h : IB n i) (h' : IB m j) : IB (max n m + 1) (i - j) := by
  refine Nat.lt_of_le_of_lt ?_ (two_pow_max h h')
  omega
theorem IB.neg {n : Nat} {i : Int} (h : IB n i) : IB n (-i) := by unfold IB at *; rw [Int.natAbs_neg]; exact h
theorem IB.lit {i : Int} (h : i.natAbs < 2 ^ 64 := by decide) : IB 64 i := h
theorem IB.mulW {n m : Nat} {i j : Int} (h : IB n i) (h' : IB m j) (l : n + m + 2 ≤ 1000000) : CMulW i j := wide_mul (a := n + 1) (b := m + 1) (h.mono (by omega)) (h'.mono (by omega)) (by omega) (by omega) (by omega)
theorem Bd_add {n m : Nat} {x y : Rat} (h : Bd n x) (h' : Bd m y) : Bd (n + m + 1) (x + y) := by
  rw [← plus_eq]
  refine Bd_divInt (Int.ne_of_gt (Int.mul_pos (den_pos' x) (den_pos' y))) ?_ ?_
  · exact (IB.add (IB.mul (IB.num h) (IB.den h')) (IB.mul (IB.num h') (IB.den h))).mono (by omega)
  · exact (IB.mul (IB.den h) (IB.den h')).mono (by omega)
theorem Bd_sub {n m : Nat} {x y : Rat} (h : Bd n x) (h' : Bd m y) : Bd (n + m + 1) (x - y) := by
  rw [← minus_eq]
  refine Bd_divInt (Int.ne_of_gt (Int.mul_pos (den_pos' x) (den_pos' y))) ?_ ?_
  · exact (IB.sub (IB.mul (IB.num h) (IB.den h')) (IB.mul (IB.num h') (IB.den h))).mono (by omega)
  · exact (IB.mul (IB.den h) (IB.den h')).mono (by omega)
theorem Bd_mul {n m : Nat} {x y : Rat} (h : Bd n x) (h' : Bd m y) : Bd (n + m) (x * y) := by
  rw [← times_eq]
  refine Bd_divInt (Int.ne_of_gt (Int.mul_pos (den_pos' x) (den_pos' y))) ?_ ?_
  · exact IB.mul (IB.num h) (IB.num h')
  · exact IB.mul (IB.den h) (IB.den h')
theorem num_ne {y : Rat} (h : y ≠ 0) : y.num ≠ 0 := fun z => h (Rat.num_eq_zero.mp z)
theorem Bd_div {n m : Nat} {x y : Rat} (h : Bd n x) (h' : Bd m y) (h0 : y ≠ 0) : Bd (n + m) (x / y) := by
  rw [← divided_eq]
  refine Bd_divInt (Int.mul_ne_zero (den_ne x) (num_ne h0)) ?_ ?_
  · exact IB.mul (IB.num h) (IB.den h')
  · exact IB.mul (IB.den h) (IB.num h')
section
variable {K : PySem.W.Frag} {H : Hp} {Q : VK} {E : XK} {a b : Addr} {x y : Rat} {t u : Int}
theorem g_plus (hx : Fr K H a x) (hy : Fr K H b y) (bx : Bd 4000 x) (bu : Bd 4000 y) (q : ∀ p, H p = none → Q (.ref p) (upd H p (.tup (FV (x + y))))) : sp2F K (fun x y => x + y) (fun _ _ => True) ([.ref a, .ref b] ++ []) H Q E := ⟨a, b, x, y, rfl, hx, hy, bx, bu, trivial, q⟩
theorem g_minus (hx : Fr K H a x) (hy : Fr K H b y) (bx : Bd 4000 x) (bu : Bd 4000 y) (q : ∀ p, H p = none → Q (.ref p) (upd H p (.tup (FV (x - y))))) : sp2F K (fun x y => x - y) (fun _ _ => True) ([.ref a, .ref b] ++ []) H Q E := ⟨a, b, x, y, rfl, hx, hy, bx, bu, trivial, q⟩
theorem g_times (hx : Fr K H a x) (hy : Fr K H b y) (bx : Bd 4000 x) (bu : Bd 4000 y) (q : ∀ p, H p = none → Q (.ref p) (upd H p (.tup (FV (x * y))))) : sp2F K (fun x y => x * y) (fun _ _ => True) ([.ref a, .ref b] ++ []) H Q E := ⟨a, b, x, y, rfl, hx, hy, bx, bu, trivial, q⟩
theorem g_divided (hx : Fr K H a x) (hy : Fr K H b y) (bx : Bd 4000 x) (bu : Bd 4000 y) (h0 : y ≠ 0) (q : ∀ p, H p = none → Q (.ref p) (upd H p (.tup (FV (x / y))))) : sp2F K (fun x y => x / y) (fun _ y => y ≠ 0) ([.ref a, .ref b] ++ []) H Q E := ⟨a, b, x, y, rfl, hx, hy, bx, bu, h0, q⟩
theorem g_below (hx : Fr K H a x) (hy : Fr K H b y) (bx : Bd 4000 x) (bu : Bd 4000 y) (q : Q (.bl (decide (x < y))) H) : sp_below K ([.ref a, .ref b] ++ []) H Q E := ⟨a, b, x, y, rfl, hx, hy, bx, bu, q⟩
theorem g_frac (h0 : u ≠ 0) (h : IB 8500 u) (q : ∀ p, H p = none → Q (.ref p) (upd H p (.tup (FV (Rat.divInt t u))))) : sp_fraction ([.int t, .int u] ++ []) H Q E := ⟨t, u, rfl, h0, h, q⟩
theorem ifN_known {p A B : Prop} [Decidable p] (h : p) (q : B) : if (!decide p) = true then A else B := by
  rw [decide_eq_true h]; exact q
theorem ifY_known {p A B : Prop} [Decidable p] (h : p) (q : A) : if decide p = true then A else B := by
  rw [decide_eq_true h]; exact q
theorem fin_eq {p : Prop} [Decidable p] {Q : VK} (h : p) (q : Q (.bl true) H) : Q (.bl (decide p)) H := by rw [decide_eq_true h]; exact q
end

/-! ### lists of fractions -/
def TS (K : PySem.W.Frag) (H H' : Hp) : Prop := ∀ a xs, SqT K H a xs → SqT K H' a xs
theorem TS.refl {K : PySem.W.Frag} (H : Hp) : TS K H H := fun _ _ h => h
theorem TS.trans {K : PySem.W.Frag} {H H1 H2 : Hp} (a : TS K H H1) (b : TS K H1 H2) : TS K H H2 := fun x xs h => b x xs (a x xs h)
theorem Same.ts {K : PySem.W.Frag} {H H' : Hp} (s : Same H H') : TS K H H' := fun _ _ h => sqT_same s h
theorem ts_but {K : PySem.W.Frag} {H H' : Hp} {p : Addr} {ys : List V} (b : But p H H') (e : H p = some (.lst ys)) : TS K H H' := fun _ _ h => sqT_but b e h
theorem ts_pool {K : PySem.W.Frag} {H H' : Hp} {p : Addr} {n : Nat} (b : But p H H') (e : Pool n H p) : TS K H H' := fun _ _ h => sqT_pool b e h
theorem ts_new {K : PySem.W.Frag} {H : Hp} {p : Addr} {o : HO} (e : H p = none) : TS K H (upd H p o) := fun _ _ h => sqT_new e h
theorem ts_mut {K : PySem.W.Frag} {H : Hp} {p : Addr} {o : HO} {ys : List V} (e : H p = some (.lst ys)) : TS K H (upd H p o) := fun _ _ h => sqT_mut e h
def Frs (K : PySem.W.Frag) (H : Hp) : List V → List Rat → Prop
  | [], [] => True
  | v :: vs, x :: xs => (∃ a, v = .ref a ∧ Fr K H a x) ∧ Frs K H vs xs
  | _, _ => False
section
variable {K : PySem.W.Frag} {H H' : Hp}
theorem Frs.ts (t : TS K H H') : ∀ {vs : List V} {xs : List Rat}, Frs K H vs xs → Frs K H' vs xs
  | [], [], _ => True.intro
  | _ :: _, _ :: _, ⟨⟨a, e, h⟩, r⟩ => ⟨⟨a, e, t _ _ h⟩, Frs.ts t r⟩
  | [], _ :: _, h => h.elim
  | _ :: _, [], h => h.elim
theorem Frs.len : ∀ {vs : List V} {xs : List Rat}, Frs K H vs xs → vs.length = xs.length
  | [], [], _ => rfl
  | _ :: _, _ :: _, ⟨_, r⟩ => by rw [List.length_cons, List.length_cons, Frs.len r]
  | [], _ :: _, h => h.elim
  | _ :: _, [], h => h.elim
theorem Frs.snoc {a : Addr} {x : Rat} (h : Fr K H a x) : ∀ {vs : List V} {xs : List Rat}, Frs K H vs xs → Frs K H (vs ++ [.ref a]) (xs ++ [x])
  | [], [], _ => ⟨⟨a, rfl, h⟩, True.intro⟩
  | _ :: _, _ :: _, ⟨e, r⟩ => ⟨e, Frs.snoc h r⟩
  | [], _ :: _, h => h.elim
  | _ :: _, [], h => h.elim
theorem Frs.get : ∀ {vs : List V} {xs : List Rat} {i : Nat} {v : V}, Frs K H vs xs → vs[i]? = some v → ∃ a x, v = .ref a ∧ xs[i]? = some x ∧ Fr K H a x
  | [], [], _, _, _, h => by simp at h
  | _ :: _, x :: _, 0, v, ⟨⟨a, e, h⟩, _⟩, g => ⟨a, x, (Option.some.inj g).symm.trans e, rfl, h⟩
  | _ :: _, _ :: _, i + 1, v, ⟨_, r⟩, g => Frs.get (i := i) r g
  | [], _ :: _, _, _, h, _ => h.elim
  | _ :: _, [], _, _, h, _ => h.elim
theorem Frs.at : ∀ {vs : List V} {xs : List Rat} {i : Nat} {x : Rat}, Frs K H vs xs → xs[i]? = some x → ∃ a, vs[i]? = some (.ref a) ∧ Fr K H a x
  | [], [], _, _, _, h => by simp at h
  | v :: _, x :: _, 0, y, ⟨⟨a, e, h⟩, _⟩, g => by
    obtain rfl : x = y := Option.some.inj g
    exact ⟨a, by rw [e]; rfl, h⟩
  | _ :: _, _ :: _, i + 1, v, ⟨_, r⟩, g => Frs.at (i := i) r g
  | [], _ :: _, _, _, h, _ => h.elim
  | _ :: _, [], _, _, h, _ => h.elim
theorem k_unl {X : Cx} {pos : Pos} {es : List Expr} {k : Nat} {t : TGs} {n : Nat} (hc : X.calm = true) (h : PGs X es t)
    (hn : (assignEach es X.env).length = n := by rfl) (hst : (assignEach es X.env).findIdx? (·.1) = none := by rfl) (h : X.K = K := by rfl) : PG X (.Tuple es k pos) (gUnl K n t) := by subst h; exact pg_unl hc (by assumption) hn hst
end
theorem num_cast (x : Rat) : ((x.num : Int) : Rat) = x * ((x.den : Int) : Rat) := by
  have h := Rat.num_divInt_den x
  rw [Rat.divInt_eq_div] at h
  have h2 : ((x.den : Int) : Rat) ≠ 0 := fun z => den_ne x (by exact_mod_cast z)
  grind
theorem den_cast (x : Rat) : ((x.den : Int) : Rat) ≠ 0 := fun z => den_ne x (by exact_mod_cast z)
theorem fr_one_at {K : PySem.W.Frag} {H : Hp} {a : Addr} : Fr K (upd H a (.tup [.int 1, .int 1])) a 1 := sqT_at (xs := [.int 1, .int 1])
theorem fr_zero_at {K : PySem.W.Frag} {H : Hp} {a : Addr} : Fr K (upd H a (.tup [.int 0, .int 1])) a 0 := sqT_at (xs := [.int 0, .int 1])
theorem fr_int_at {K : PySem.W.Frag} {H : Hp} {a : Addr} {i : Int} : Fr K (upd H a (.tup [.int i, .int 1])) a ((i : Int) : Rat) := sqT_at (xs := [.int i, .int 1])
theorem fr_neg_at {K : PySem.W.Frag} {H : Hp} {a : Addr} {x : Rat} : Fr K (upd H a (.tup [.int (0 - x.num), .int (x.den : Int)])) a (-x) := by
  show SqT _ _ _ _
  rw [FV_neg]
  exact sqT_at
theorem Bd_int {n : Nat} {i : Int} (h : IB n i) : Bd (n + 1) ((i : Int) : Rat) := ⟨IB.mono h (by omega), Nat.one_lt_two_pow (by omega)⟩
theorem Bd_one : Bd 1 (1 : Rat) := ⟨by decide, by decide⟩
theorem ifY_no {p A B : Prop} [Decidable p] (h : ¬p) (q : B) : if decide p = true then A else B := by
  rw [decide_eq_false h]; exact q
theorem ifN_no {p A B : Prop} [Decidable p] (h : ¬p) (q : A) : if (!decide p) = true then A else B := by
  rw [decide_eq_false h]; exact q
theorem neg_ne {i : Int} (h : i ≠ 0) : 0 - i ≠ 0 := by omega
theorem rat_num_pos {x : Rat} : 0 < x.num ↔ 0 < x := by
  rw [Rat.lt_iff]
  show _ ↔ (0 : Int) * (x.den : Int) < x.num * ((1 : Nat) : Int)
  rw [Int.zero_mul, Int.natCast_one, Int.mul_one]
/-- the sum of the first i of some fractions -/
def sumT (xs : List Rat) : Nat → Rat
  | 0 => 0
  | i + 1 => sumT xs i + xs.getD i 0
theorem getD_of {xs : List Rat} {i : Nat} {x : Rat} (h : xs[i]? = some x) : xs.getD i 0 = x := by
  rw [List.getD_eq_getElem?_getD, h]; rfl
theorem mem_of_at {α : Type} {xs : List α} {i : Nat} {x : α} (h : xs[i]? = some x) : x ∈ xs := List.mem_of_getElem? h
section
variable {H : Hp} {Q : VK} {a : Addr} {i : Int} {s : Str} {b : Bool}
instance : St1 (rIsN (.ref a) .non H Q) (Q (.bl false) H) := ⟨fun q => ⟨rfl, q⟩⟩
instance : St1 (rIsN .non .non H Q) (Q (.bl true) H) := ⟨fun q => ⟨rfl, q⟩⟩
instance : St1 (rNotN (.ref a) .non H Q) (Q (.bl true) H) := ⟨fun q => ⟨rfl, q⟩⟩
instance : St1 (rNotN .non .non H Q) (Q (.bl false) H) := ⟨fun q => ⟨rfl, q⟩⟩
instance : St1 (rIsN (.int i) .non H Q) (Q (.bl false) H) := ⟨fun q => ⟨rfl, q⟩⟩
instance : St1 (rNotN (.int i) .non H Q) (Q (.bl true) H) := ⟨fun q => ⟨rfl, q⟩⟩
end
theorem cutV_int (ns : List Int) (lo hi : Option Int) : ∃ ms : List Int, cutV (ns.map V.int) lo hi = ms.map V.int ∧ ms.length ≤ ns.length := by
  unfold cutV
  refine ⟨(ns.drop (HT.sIx (ns.map V.int).length 0 lo)).take (HT.sIx (ns.map V.int).length (ns.map V.int).length hi - HT.sIx (ns.map V.int).length 0 lo), ?_, ?_⟩
  · rw [List.map_take, List.map_drop]
  · rw [List.length_take, List.length_drop]; omega
section
variable {K : PySem.W.Frag} {σ : L2.St} {H : Hp} {Q : VK} {T : String} {to : TE}
instance {r : V → List V → Hp → VK → Prop} {t : TA} : St1 (tBM K T r to t σ H Q) (to σ H fun x H1 => tyV K T x H1 ∧ t σ H1 fun xs H2 => r x xs H2 Q) := ⟨fun h => h⟩
instance {r : V → List V → Hp → VK → Prop} : St1 (tBM0 K T r to σ H Q) (to σ H fun x H1 => tyV K T x H1 ∧ r x [] H1 Q) := ⟨fun h => h⟩
theorem ty_l {a : Addr} {xs : List V} (h : H a = some (.lst xs)) : tyV K "list" (.ref a) H := .inl ⟨rfl, _, SqL.of h⟩
end
/-! ### data of any depth -/
mutual
theorem dp_same {K : PySem.W.Frag} {H H' : Hp} (s : Same H H') : ∀ (d : PyData) (v : V), Dp K H v d → Dp K H' v d
  | .none, _, h => by cases h; exact .non
  | .bool b, _, h => by cases h; exact .bl b
  | .int i, _, h => by cases h; exact .int i
  | .str x, _, h => by cases h; exact .str x
  | .list ds, _, h => by
    cases h with
    | lst h1 h2 => exact .lst (sqL_same s h1) (dpAll_same s ds _ h2)
  | .tuple ds, _, h => by
    cases h with
    | tup h1 h2 => exact .tup (sqT_same s h1) (dpAll_same s ds _ h2)
  | .dict _, _, h => nomatch h
theorem dpAll_same {K : PySem.W.Frag} {H H' : Hp} (s : Same H H') : ∀ (ds : List PyData) (vs : List V), DpAll K H vs ds → DpAll K H' vs ds
  | [], _, h => by cases h; exact .nil
  | d :: ds, _, h => by
    cases h with
    | cons h1 h2 => exact .cons (dp_same s d _ h1) (dpAll_same s ds _ h2)
end
section
variable {K : PySem.W.Frag} {H H' : Hp} {Q : VK} {x y v : V} {d e : PyData} {ds : List PyData} {vs : List V}
theorem Dp.sm (h : Dp K H v d) (s : Same H H') : Dp K H' v d := dp_same s d v h
theorem DpAll.sm (h : DpAll K H vs ds) (s : Same H H') : DpAll K H' vs ds := dpAll_same s ds vs h
theorem Dp.lstI (h : Dp K H v (.list ds)) : ∃ a xs, v = .ref a ∧ SqL K H a xs ∧ DpAll K H xs ds := by
  cases h with
  | lst h1 h2 => exact ⟨_, _, rfl, h1, h2⟩
theorem Dp.tupI (h : Dp K H v (.tuple ds)) : ∃ a xs, v = .ref a ∧ SqT K H a xs ∧ DpAll K H xs ds := by
  cases h with
  | tup h1 h2 => exact ⟨_, _, rfl, h1, h2⟩
theorem DpAll.len : ∀ {vs : List V} {ds : List PyData}, DpAll K H vs ds → vs.length = ds.length
  | _, _, .nil => rfl
  | _, _, .cons _ h => by rw [List.length_cons, List.length_cons, DpAll.len h]
theorem DpAll.get : ∀ {vs : List V} {ds : List PyData} {i : Nat} {d : PyData}, DpAll K H vs ds → ds[i]? = some d → ∃ v, vs[i]? = some v ∧ Dp K H v d
  | _, _, _, _, .nil, h => by simp at h
  | _, _, 0, _, .cons h1 _, h => by cases h; exact ⟨_, rfl, h1⟩
  | _, _, i + 1, _, .cons _ h2, h => DpAll.get (i := i) h2 h
theorem DpAll.got : ∀ {vs : List V} {ds : List PyData} {i : Nat} {v : V}, DpAll K H vs ds → vs[i]? = some v → ∃ d, ds[i]? = some d ∧ Dp K H v d
  | _, _, _, _, .nil, h => by simp at h
  | _, _, 0, _, .cons h1 _, h => by cases h; exact ⟨_, rfl, h1⟩
  | _, _, i + 1, _, .cons _ h2, h => DpAll.got (i := i) h2 h
theorem DpAll.snoc : ∀ {vs : List V} {ds : List PyData}, DpAll K H vs ds → Dp K H v d → DpAll K H (vs ++ [v]) (ds ++ [d])
  | _, _, .nil, h => .cons h .nil
  | _, _, .cons h1 h2, h => .cons h1 (DpAll.snoc h2 h)
theorem FD_fr {a : Addr} {x : Rat} (h : Dp K H (.ref a) (FD x)) : Fr K H a x := by
  cases h with
  | tup h1 h2 =>
    cases h2 with
    | cons h3 h4 =>
      cases h4 with
      | cons h5 h6 =>
        cases h3; cases h5; cases h6
        exact h1
theorem FD_ref {x : Rat} (h : Dp K H v (FD x)) : ∃ a, v = .ref a ∧ Fr K H a x := by
  obtain ⟨a, xs, rfl, _⟩ := Dp.tupI h
  exact ⟨a, rfl, FD_fr h⟩
theorem Frs.dp : ∀ {vs : List V} {xs : List Rat}, Frs K H vs xs → DpAll K H vs (xs.map FD)
  | [], [], _ => .nil
  | _ :: _, _ :: _, ⟨⟨a, e, h⟩, r⟩ => by subst e; exact .cons (FD_dp h) (Frs.dp r)
  | [], _ :: _, h => h.elim
  | _ :: _, [], h => h.elim
theorem frs_dp : ∀ {vs : List V} {xs : List Rat}, DpAll K H vs (xs.map FD) → Frs K H vs xs
  | _, [], h => by cases h; exact True.intro
  | _, x :: xs, h => by
    cases h with
    | cons h1 h2 => exact ⟨FD_ref h1, frs_dp h2⟩
/-- looks that == asks: lying, and no deeper than n -/
def Sh (n : Nat) (d : PyData) : Prop := d.canLay0 = true ∧ d.depth ≤ n
theorem Sh.ok {n : Nat} (h : Sh n d) (l : n ≤ 64 := by decide) : SeqAt.shaped d = true := by
  unfold SeqAt.shaped
  rw [h.1, Bool.true_and]
  exact decide_eq_true (Nat.le_trans h.2 l)
theorem sh_all {n : Nat} : ∀ {ds : List PyData}, (∀ d ∈ ds, Sh n d) → PyData.canLayAll0 ds = true ∧ PyData.depthAll ds ≤ n
  | [], _ => ⟨rfl, Nat.zero_le _⟩
  | d :: ds, h => by
    have h1 := h d List.mem_cons_self
    have h2 := sh_all fun e he => h e (List.mem_cons_of_mem _ he)
    constructor
    · rw [PyData.canLayAll0, h1.1, h2.1]; rfl
    · rw [PyData.depthAll]; exact Nat.max_le.mpr ⟨h1.2, h2.2⟩
theorem Sh.lst {n : Nat} (h : ∀ d ∈ ds, Sh n d) : Sh (n + 1) (.list ds) := by
  have z := sh_all h
  exact ⟨by rw [PyData.canLay0]; exact z.1, by rw [PyData.depth]; exact Nat.add_le_add_right z.2 1⟩
theorem Sh.tup {n : Nat} (h : ∀ d ∈ ds, Sh n d) : Sh (n + 1) (.tuple ds) := by
  have z := sh_all h
  exact ⟨by rw [PyData.canLay0]; exact z.1, by rw [PyData.depth]; exact Nat.add_le_add_right z.2 1⟩
theorem Sh.mono {n m : Nat} (h : Sh n d) (l : n ≤ m) : Sh m d := ⟨h.1, Nat.le_trans h.2 l⟩
theorem Sh.int {i : Int} {n : Nat} : Sh n (.int i) := ⟨rfl, Nat.zero_le _⟩
theorem Sh.fd {x : Rat} : Sh 1 (FD x) := ⟨rfl, Nat.le_refl _⟩
/-- a list of fractions, a table, a list of ints as data -/
abbrev FL (xs : List Rat) : PyData := .list (xs.map FD)
abbrev TD (t : List (List Rat)) : PyData := .list (t.map FL)
abbrev IL (ns : List Int) : PyData := .list (ns.map PyData.int)
theorem Sh.fl {xs : List Rat} : Sh 2 (FL xs) := Sh.lst fun d h => by
  obtain ⟨x, _, rfl⟩ := List.mem_map.mp h
  exact Sh.fd
theorem Sh.td {t : List (List Rat)} : Sh 3 (TD t) := Sh.lst fun d h => by
  obtain ⟨x, _, rfl⟩ := List.mem_map.mp h
  exact Sh.fl
theorem Sh.il {ns : List Int} : Sh 1 (IL ns) := Sh.lst fun d h => by
  obtain ⟨x, _, rfl⟩ := List.mem_map.mp h
  exact Sh.int
theorem il_dp : ∀ {ns : List Int}, DpAll K H (ns.map V.int) (ns.map PyData.int)
  | [] => .nil
  | n :: ns => .cons (.int n) il_dp
theorem IL_dp {a : Addr} {ns : List Int} (h : SqL K H a (ns.map V.int)) : Dp K H (.ref a) (IL ns) := .lst h il_dp
theorem g_neSame {n : Nat} (h1 : Dp K H x d) (h2 : Dp K H y d) (s : Sh n d) (q : Q (.bl false) H) (l : n ≤ 64 := by decide) : rNeD K x y H Q := ⟨d, d, h1, h2, s.ok l, s.ok l, by rw [SeqAt.eqv_refl d s.1]; exact q⟩
theorem g_eqSame {n : Nat} (h1 : Dp K H x d) (h2 : Dp K H y d) (s : Sh n d) (q : Q (.bl true) H) (l : n ≤ 64 := by decide) : rEqD K x y H Q := ⟨d, d, h1, h2, s.ok l, s.ok l, by rw [SeqAt.eqv_refl d s.1]; exact q⟩
/-- a list of ints against a fresh empty list -/
theorem eqv_nil (ds : List PyData) : PyData.eqv (.list ds) (.list []) = decide (ds = []) := by
  cases ds <;> simp [PyData.eqv, PyData.eqvAll]
theorem g_neE {a b : Addr} {n : Nat} {xs : List V} (h : SqL K H a xs) (hd : DpAll K H xs ds) (s : Sh n (.list ds)) (hb : SqL K H b []) (q : Q (.bl (!decide (ds = []))) H) (l : n ≤ 64 := by decide) : rNeD K (.ref a) (.ref b) H Q :=
  ⟨_, _, .lst h hd, .lst hb .nil, s.ok l, rfl, by rw [eqv_nil]; exact q⟩
theorem g_eqE {a b : Addr} {n : Nat} {xs : List V} (h : SqL K H a xs) (hd : DpAll K H xs ds) (s : Sh n (.list ds)) (hb : SqL K H b []) (q : Q (.bl (decide (ds = []))) H) (l : n ≤ 64 := by decide) : rEqD K (.ref a) (.ref b) H Q :=
  ⟨_, _, .lst h hd, .lst hb .nil, s.ok l, rfl, by rw [eqv_nil]; exact q⟩
/-- a cell of a table -/
theorem td_row {T : V} {t : List (List Rat)} {i : Nat} {row : List Rat} (h : Dp K H T (TD t)) (hr : t[i]? = some row) : ∃ a xs r, T = .ref a ∧ SqL K H a xs ∧ xs[i]? = some (.ref r) ∧ ∃ vs, SqL K H r vs ∧ Frs K H vs row := by
  obtain ⟨a, xs, rfl, hs, hd⟩ := Dp.lstI h
  obtain ⟨v, hv, hdv⟩ := DpAll.get hd (i := i) (d := FL row) (by rw [List.getElem?_map, hr]; rfl)
  obtain ⟨r, vs, rfl, hs2, hd2⟩ := Dp.lstI hdv
  exact ⟨a, xs, r, rfl, hs, hv, vs, hs2, frs_dp hd2⟩
/-- what is never called -/
def spNever : Sp := fun _ _ _ _ => False
theorem never_ok {P : Program} {w : World} {mg : Str → Option Value} {base : Heap} {k : Nat} {f : Addr} {fd : FuncData} {ps : List Str} : FnOk P w K mg base CX0 k f fd ps spNever :=
  ⟨fun _ _ _ _ h => h.elim, fun _ _ _ _ _ _ _ _ _ _ _ _ _ h => h.elim⟩
end
theorem same_mut {H H' : Hp} {p : Addr} {o : HO} (e : Same H H') (h : H p = none) : Same H (upd H' p o) := fun b u hb => by
  rw [upd_ne (ne_of_none hb h)]
  exact e b u hb
/-! ### tables by places -/
def at2 (t : List (List Rat)) (i j : Nat) : Rat := (t.getD i []).getD j 0
structure Sqr (b n : Nat) (t : List (List Rat)) : Prop where
  len : t.length = n
  row : ∀ r ∈ t, r.length = n
  bd : ∀ r ∈ t, ∀ x ∈ r, Bd b x
theorem Sqr.at {b n : Nat} {t : List (List Rat)} (s : Sqr b n t) {i j : Nat} (hi : i < n) (hj : j < n) : ∃ r, t[i]? = some r ∧ r[j]? = some (at2 t i j) ∧ Bd b (at2 t i j) := by
  have h1 : i < t.length := by rw [s.len]; exact hi
  have e1 : t[i]? = some t[i] := List.getElem?_eq_getElem h1
  have h2 : j < t[i].length := by rw [s.row _ (List.getElem_mem h1)]; exact hj
  have e2 : t[i][j]? = some t[i][j] := List.getElem?_eq_getElem h2
  have e3 : at2 t i j = t[i][j] := by
    unfold at2
    rw [show t.getD i [] = t[i] by rw [List.getD_eq_getElem?_getD, e1, Option.getD_some], List.getD_eq_getElem?_getD, e2, Option.getD_some]
  exact ⟨t[i], e1, by rw [e3]; exact e2, by rw [e3]; exact s.bd _ (List.getElem_mem h1) _ (List.getElem_mem h2)⟩
/-- a cell's way: the row's place, the cell's place -/
theorem td_at {K : PySem.W.Frag} {H : Hp} {T : V} {b n : Nat} {t : List (List Rat)} (h : Dp K H T (TD t)) (s : Sqr b n t) : ∃ a xs, T = .ref a ∧ SqL K H a xs ∧ xs.length = n ∧
    ∀ i, i < n → ∃ r vs, xs[i]? = some (.ref r) ∧ SqL K H r vs ∧ vs.length = n ∧ ∀ j, j < n → ∃ c, vs[j]? = some (.ref c) ∧ Fr K H c (at2 t i j) := by
  obtain ⟨a, xs, rfl, hs, hd⟩ := Dp.lstI h
  refine ⟨a, xs, rfl, hs, by rw [DpAll.len hd, List.length_map, s.len], fun i hi => ?_⟩
  have h1 : i < t.length := by rw [s.len]; exact hi
  have e1 : t[i]? = some t[i] := List.getElem?_eq_getElem h1
  obtain ⟨v, hv, hdv⟩ := DpAll.get hd (i := i) (d := FL t[i]) (by rw [List.getElem?_map, e1]; rfl)
  obtain ⟨r, vs, rfl, hs2, hd2⟩ := Dp.lstI hdv
  have fr := frs_dp hd2
  refine ⟨r, vs, hv, hs2, by rw [fr.len, s.row _ (List.getElem_mem h1)], fun j hj => ?_⟩
  obtain ⟨r', e2, e3, _⟩ := s.at hi hj
  rw [e1] at e2
  cases e2
  exact fr.at e3
def ab (x : Rat) : Rat := if x < 0 then -x else x
theorem ab_num (x : Rat) : x.num < 0 ↔ x < 0 := by
  rw [Rat.lt_iff]
  show _ ↔ x.num * ((1 : Nat) : Int) < (0 : Int) * (x.den : Int)
  rw [Int.zero_mul, Int.natCast_one, Int.mul_one]
theorem range_snoc {α : Type} (f : Nat → α) (i : Nat) : (List.range (i + 1)).map f = (List.range i).map f ++ [f i] := by
  rw [List.range_succ, List.map_append]; rfl
/-! ### a list under way, and all that does not hang on it -/
section
variable {K : PySem.W.Frag} {H H' : Hp} {L a : Addr} {o : HO} {xs : List V}
theorem same_del : Same (delH H L) H := fun b u e => by
  by_cases z : b = L
  · rw [z, delH_same] at e; cases e
  · rw [delH_ne z] at e; exact e
theorem del_mono (s : Same H H') : Same (delH H L) (delH H' L) := fun b u e => by
  by_cases z : b = L
  · rw [z, delH_same] at e; cases e
  · rw [delH_ne z] at e ⊢; exact s b u e
theorem del_upd : Same (delH H L) (delH (upd H L o) L) := fun b u e => by
  by_cases z : b = L
  · rw [z, delH_same] at e; cases e
  · rw [delH_ne z] at e ⊢; rw [upd_ne z]; exact e
theorem to_del (s : Same H H') (n : H L = none) : Same H (delH H' L) := fun b u e => by
  rw [delH_ne (ne_of_none e n)]; exact s b u e
theorem ts_del (e : H L = some (.lst xs)) : TS K H (delH H L) := fun c ys h => by
  rcases h with (h | ⟨u, h⟩) | h
  · exact .inl (.inl (by rw [delH_ne (ne_of h e (by intro z; cases z))]; exact h))
  · exact .inl (.inr ⟨u, by rw [delH_ne (ne_of h e (by intro z; cases z))]; exact h⟩)
  · exact .inr h
theorem sql_del {ys : List V} (h : H a = some (.lst ys)) (n : a ≠ L) : SqL K (delH H L) a ys := SqL.of (by rw [delH_ne n]; exact h)
/-- a fresh list of fractions, beside L -/
theorem fl_del {ys : List V} {qs : List Rat} (e : H L = some (.lst xs)) (h : H a = some (.lst ys)) (n : a ≠ L) (f : Frs K H ys qs) : Dp K (delH H L) (.ref a) (FL qs) := .lst (sql_del h n) (Frs.dp (Frs.ts (ts_del e) f))
theorem lcd_list {σ : L2.St} {g : TG} {te : TE} {vs : List Nat} {Qd : Hp → Prop} (e : Nat → PyData) (hs : SqL K H a xs) (nL : H L = none) (sz : xs.length < 100000)
    (turn : ∀ i x H' (R : VK), xs[i]? = some x → Same H H' → (∃ acc, H' L = some (.lst acc)) → (∀ y H4, Same H' H4 → Dp K (delH H4 L) y (e i) → R y H4) → g x (wipe σ vs) H' fun σ2 H2 => wipe σ2 vs = wipe σ vs ∧ te σ2 H2 R)
    (done : ∀ ws H', H' L = some (.lst ws) → Same H H' → DpAll K (delH H' L) ws ((List.range xs.length).map e) → Qd H') : LoopC (Itl K a) g tYes te vs L σ Qd H := by
  refine lcl_list (K := K) (a := a) (xs := xs) (fun i H' => ∃ ws, H' L = some (.lst ws) ∧ Same H H' ∧ DpAll K (delH H' L) ws ((List.range i).map e)) ⟨[], upd_same, same_new nL, .nil⟩ (fun i H' _ ⟨_, _, s1, _⟩ => sqL_same s1 hs) ?_ (fun H' ⟨ws, h1, h2, h3⟩ => done ws H' h1 h2 h3)
  rintro i x H' hx ⟨ws, h1, h2, h3⟩
  have hi : i < xs.length := (List.getElem?_eq_some_iff.mp hx).1
  have := turn i x H' (fun y H4 => ∃ acc, H4 L = some (.lst acc) ∧ acc.length < sizeLine ∧ ∃ ws, upd H4 L (.lst (acc ++ [y])) L = some (.lst ws) ∧ Same H (upd H4 L (.lst (acc ++ [y]))) ∧ DpAll K (delH (upd H4 L (.lst (acc ++ [y]))) L) ws ((List.range (i + 1)).map e)) hx h2 ⟨ws, h1⟩ (fun y H4 s4 d4 => by
    refine ⟨ws, s4 _ _ h1, sz_lt (by rw [DpAll.len h3, List.length_map, List.length_range]; omega), ws ++ [y], upd_same, same_mut (h2.trans s4) nL, ?_⟩
    rw [range_snoc]
    exact DpAll.sm (DpAll.snoc (DpAll.sm h3 (del_mono s4)) d4) del_upd)
  exact this
theorem lcd_range {lo : Int} {n : Nat} {σ : L2.St} {g : TG} {te : TE} {vs : List Nat} {Qd : Hp → Prop} (e : Nat → PyData) (nL : H L = none) (sz : n < 100000)
    (turn : ∀ (i : Nat) H' (R : VK), i < n → Same H H' → (∃ acc, H' L = some (.lst acc)) → (∀ y H4, Same H' H4 → Dp K (delH H4 L) y (e i) → R y H4) → g (.int (lo + i)) (wipe σ vs) H' fun σ2 H2 => wipe σ2 vs = wipe σ vs ∧ te σ2 H2 R)
    (done : ∀ ws H', H' L = some (.lst ws) → Same H H' → DpAll K (delH H' L) ws ((List.range n).map e) → Qd H') : LoopC (Itr lo n) g tYes te vs L σ Qd H := by
  refine lcl_range (fun i H' => ∃ ws, H' L = some (.lst ws) ∧ Same H H' ∧ DpAll K (delH H' L) ws ((List.range i).map e)) ⟨[], upd_same, same_new nL, .nil⟩ ?_ (fun H' ⟨ws, h1, h2, h3⟩ => done ws H' h1 h2 h3)
  rintro i H' hi ⟨ws, h1, h2, h3⟩
  have := turn i H' (fun y H4 => ∃ acc, H4 L = some (.lst acc) ∧ acc.length < sizeLine ∧ ∃ ws, upd H4 L (.lst (acc ++ [y])) L = some (.lst ws) ∧ Same H (upd H4 L (.lst (acc ++ [y]))) ∧ DpAll K (delH (upd H4 L (.lst (acc ++ [y]))) L) ws ((List.range (i + 1)).map e)) hi h2 ⟨ws, h1⟩ (fun y H4 s4 d4 => by
    refine ⟨ws, s4 _ _ h1, sz_lt (by rw [DpAll.len h3, List.length_map, List.length_range]; omega), ws ++ [y], upd_same, same_mut (h2.trans s4) nL, ?_⟩
    rw [range_snoc]
    exact DpAll.sm (DpAll.snoc (DpAll.sm h3 (del_mono s4)) d4) del_upd)
  exact this
theorem int_dp : ∀ {vs : List V} {ns : List Int}, DpAll K H vs (ns.map PyData.int) → vs = ns.map V.int
  | _, [], h => by cases h; rfl
  | _, n :: ns, h => by
    cases h with
    | cons h1 h2 => cases h1; rw [int_dp h2]; rfl
theorem range_at {α β : Type} (f : α → β) (xs : List α) (d : α) : (List.range xs.length).map (fun i => f (xs.getD i d)) = xs.map f := by
  apply List.ext_getElem
  · simp
  · intro i h1 h2
    simp only [List.getElem_map, List.getElem_range]
    rw [List.getD_eq_getElem?_getD, List.getElem?_eq_getElem (by simpa using h1)]
    rfl
end
/-! ### a deck -/
/-- a deck: a list of one number -/
def Deck (H : Hp) (p : Addr) : Prop := ∃ a : Int, H p = some (.lst [.int a])
theorem Deck.same {H H' : Hp} {p : Addr} (h : Deck H p) (s : Same H H') : Deck H' p := by
  obtain ⟨a, e⟩ := h
  exact ⟨a, s _ _ e⟩
theorem Deck.new {H : Hp} {p q : Addr} {o : HO} (h : Deck H p) (s : H q = none) : Deck (upd H q o) p := h.same (same_new s)
theorem deck_ne {H : Hp} {p l : Addr} (h : Deck H p) (e : H l = none) : l ≠ p := fun z => by
  obtain ⟨a, e2⟩ := h
  rw [← z, e] at e2; cases e2
theorem sqT_deck {K : PySem.W.Frag} {H H' : Hp} {p a : Addr} {xs : List V} (b : But p H H') (e : Deck H p) (h : SqT K H a xs) : SqT K H' a xs := by
  obtain ⟨z, e⟩ := e
  exact sqT_but b e h
theorem ts_deck {K : PySem.W.Frag} {H H' : Hp} {p : Addr} (b : But p H H') (e : Deck H p) : TS K H H' := fun _ _ h => sqT_deck b e h
def sp_dtake (K : PySem.W.Frag) : Sp := fun vs H Q _ => ∃ (p : Addr) (m : Int), vs = [.ref p, .int m] ∧ Deck H p ∧ 0 < m ∧ m.natAbs < 2 ^ 8500 ∧ ∀ r H', 0 ≤ r → r < m → But p H H' → Deck H' p → Q (.int r) H'
/-! ### sorted of data -/
/-- items with their data, sorted by these, stable -/
def sortD (xs : List V) (ds : List PyData) : List (V × PyData) := (xs.zip ds).mergeSort (PySem.W.dataLe false Prod.snd)
def rSortedD (K : PySem.W.Frag) : List V → Hp → VK → Prop := fun vs H Q => ∃ (a : Addr) (xs : List V) (ds : List PyData), vs = [V.ref a] ∧ SqL K H a xs ∧ DpAll K H xs ds ∧ PySem.W.AllAlike ds ∧ PySem.W.Sortable ds ∧ (∀ d ∈ ds, d.depth ≤ 50) ∧
  ∀ p : Addr, H p = none → Q (.ref p) (upd H p (.lst ((sortD xs ds).map Prod.fst)))
theorem each_in {K : PySem.W.Frag} {H : Hp} : ∀ {xs : List V} {us : List Value} {ds : List PyData}, Vals xs us → DpAll K H xs ds → PySem.W.EachIs (fun u (b : V × PyData) => RelV b.1 u ∧ Dp K H b.1 b.2) us (xs.zip ds)
  | _, _, _, .nil, .nil => .nil
  | _, _, _, .cons r rs, .cons h hs => .cons ⟨r, h⟩ (each_in rs hs)
theorem each_out {K : PySem.W.Frag} {H : Hp} : ∀ {us : List Value} {bs : List (V × PyData)}, PySem.W.EachIs (fun u (b : V × PyData) => RelV b.1 u ∧ Dp K H b.1 b.2) us bs → Vals (bs.map Prod.fst) us
  | _, _, .nil => .nil
  | _, _, .cons ⟨r, _⟩ t => .cons r (each_out t)
theorem each_reads {X : Cx} {pins : List (Addr × Obj)} {σ : L2.St} {H : Hp} {s : Shared} (I : Inv X pins σ H s) : ∀ {us : List Value} {bs : List (V × PyData)}, PySem.W.EachIs (fun u (b : V × PyData) => RelV b.1 u ∧ Dp X.K H b.1 b.2) us bs → PySem.W.EachIs (fun u (b : V × PyData) => ∃ as, Reads s.heap u (Prod.snd b) as) us bs
  | _, _, .nil => .nil
  | _, _, .cons ⟨r, h⟩ t => .cons (Dp.reads I _ _ _ h r) (each_reads I t)
theorem zip_snd {α β : Type} : ∀ {xs : List α} {ds : List β}, xs.length = ds.length → (xs.zip ds).map Prod.snd = ds
  | [], [], _ => rfl
  | _ :: xs, _ :: ds, h => by
    have e := zip_snd (xs := xs) (ds := ds) (by simpa using h)
    rw [List.zip_cons_cons, List.map_cons, e]
theorem zip_fst {α β : Type} : ∀ {xs : List α} {ds : List β}, xs.length = ds.length → (xs.zip ds).map Prod.fst = xs
  | [], [], _ => rfl
  | _ :: xs, _ :: ds, h => by
    have e := zip_fst (xs := xs) (ds := ds) (by simpa using h)
    rw [List.zip_cons_cons, List.map_cons, e]
theorem sortD_perm (xs : List V) (ds : List PyData) : (sortD xs ds).Perm (xs.zip ds) := List.mergeSort_perm _ _
theorem sortD_len {xs : List V} {ds : List PyData} (h : xs.length = ds.length) : (sortD xs ds).length = xs.length := by
  rw [(sortD_perm xs ds).length_eq, List.length_zip, h, Nat.min_self]
theorem cr_sortedD {X : Cx} (hu : X.A.units + 64 < cLine) : CallR X (.builtin "sorted") (rSortedD X.K) := by
  intro pins s σ H vs us Q I r h
  obtain ⟨a, xs, ds, rfl, hs, hd, hal, hk, hdp, q⟩ := h
  obtain ⟨its, rv, hl, hz⟩ := I.list hs
  rw [Vals.ref1 r]
  have e := each_in rv hd
  have ld : xs.length = ds.length := DpAll.len hd
  refine PySem.W.sorted_data (enc := Prod.snd) (bs := xs.zip ds) hl.isList e (each_reads I e) (by rw [zip_snd ld]; exact hal) (by rw [zip_snd ld]; exact hk) (by rw [List.length_zip, ← ld, Nat.min_self]; exact hz) (fun b hm => ?_) fun out hlen ho => ?_
  · have := hdp b.2 (List.of_mem_zip hm).2
    show X.A.units + 2 + b.2.depth < cLine
    omega
  · obtain ⟨ep, he'⟩ := PyProof.Rows.sortedAll_at s.heap its out.toArray
    exact ⟨.ref _, upd H (s.heap.objs.size + 1) (.lst ((sortD xs ds).map Prod.fst)), I.laid (t' := s.toks) (fun _ _ => PyProof.Rows.sortedAll_old) (Nat.le_succ _) ⟨by rw [List.length_map, sortD_len ld]; exact hz, out, ep, each_out ho, he'⟩, rfl, q _ (I.hok.fresh (Nat.le_succ _))⟩
theorem k_sortedD {X : Cx} {K : PySem.W.Frag} (hu : X.A.units + 64 < cLine) (h : X.K = K := by rfl) : CallR X (.builtin "sorted") (rSortedD K) := by subst h; exact cr_sortedD hu
/-- what is sorted stays -/
theorem sortD_id {xs : List V} {ds : List PyData} (h : ds.Pairwise fun a b => PySem.W.dataLe false id a b = true) (l : xs.length = ds.length) : (sortD xs ds).map Prod.fst = xs := by
  unfold sortD
  rw [List.mergeSort_of_pairwise, zip_fst l]
  have : ((xs.zip ds).map Prod.snd).Pairwise fun a b => PySem.W.dataLe false id a b = true := by rw [zip_snd l]; exact h
  exact List.pairwise_map.mp this
/-! ### all cuts, in order -/
def cutsL : Nat → Nat → List (List Int)
  | 0, _ => []
  | k + 1, p => [[(p : Int)]] ++ (cutsL k (p + 1)).map (fun c => (p : Int) :: c) ++ cutsL k (p + 1)
theorem cutsL_head : ∀ {k p : Nat} {c : List Int}, c ∈ cutsL k p → ∃ z r, c = z :: r ∧ (p : Int) ≤ z
  | k + 1, p, c, h => by
    unfold cutsL at h
    rcases List.mem_append.mp h with h | h
    · rcases List.mem_append.mp h with h | h
      · rw [List.mem_singleton.mp h]; exact ⟨_, _, rfl, Int.le_refl _⟩
      · obtain ⟨x, _, rfl⟩ := List.mem_map.mp h
        exact ⟨_, _, rfl, Int.le_refl _⟩
    · obtain ⟨z, r, e, hz⟩ := cutsL_head h
      exact ⟨z, r, e, by omega⟩
theorem cutsL_sorted : ∀ k p : Nat, (cutsL k p).Pairwise (· < ·)
  | 0, _ => .nil
  | k + 1, p => by
    have ih := cutsL_sorted k (p + 1)
    unfold cutsL
    rw [List.pairwise_append]
    refine ⟨?_, ih, fun a ha b hb => ?_⟩
    · rw [List.singleton_append, List.pairwise_cons]
      refine ⟨fun b hb => ?_, ?_⟩
      · obtain ⟨c, hc, rfl⟩ := List.mem_map.mp hb
        obtain ⟨z, r, rfl, _⟩ := cutsL_head hc
        rw [List.cons_lt_cons_iff]
        exact .inr ⟨rfl, List.nil_lt_cons _ _⟩
      · rw [List.pairwise_map]
        exact ih.imp fun h => by rw [List.cons_lt_cons_iff]; exact .inr ⟨rfl, h⟩
    · obtain ⟨z, r, rfl, hz⟩ := cutsL_head hb
      have ha' : ∃ s, a = (p : Int) :: s := by
        rcases List.mem_append.mp ha with h | h
        · rw [List.mem_singleton.mp h]; exact ⟨_, rfl⟩
        · obtain ⟨x, _, rfl⟩ := List.mem_map.mp h
          exact ⟨_, rfl⟩
      obtain ⟨s, rfl⟩ := ha'
      rw [List.cons_lt_cons_iff]
      exact .inl (by omega)
theorem cutsL_len : ∀ k p : Nat, (cutsL k p).length + 1 = 2 ^ k
  | 0, _ => rfl
  | k + 1, p => by
    have := cutsL_len k (p + 1)
    unfold cutsL
    rw [List.length_append, List.length_append, List.length_map, List.length_singleton, Nat.pow_succ]
    omega
theorem dataLe_il {a b : List Int} (h : a < b) : PySem.W.dataLe false id (IL a) (IL b) = true := by
  have := PySem.W.dataLe_rows (fun x : List Int => x)
  have e := congrFun (congrFun this a) b
  show PySem.W.dataLe false (fun x : List Int => PyData.list (x.map PyData.int)) a b = true
  rw [e]
  exact decide_eq_true (List.le_of_lt h)
theorem cuts_sortable {css : List (List Int)} : PySem.W.Sortable (css.map IL) := PySem.W.Sortable.others fun b => ⟨nofun, fun _ => nofun⟩
theorem cuts_alike {css : List (List Int)} : PySem.W.AllAlike (css.map IL) := PySem.W.AllAlike.of fun b b' => by
  show PySem.W.alikeAll _ _ = true
  exact PySem.W.alike_ints b b'
/-- lists of ints, each its own -/
def LLs (H : Hp) : List Addr → List (List Int) → Prop
  | [], [] => True
  | r :: rs, c :: cs => H r = some (.lst (c.map V.int)) ∧ LLs H rs cs
  | _, _ => False
theorem LLs.same {H H' : Hp} (s : Same H H') : ∀ {rs : List Addr} {cs : List (List Int)}, LLs H rs cs → LLs H' rs cs
  | [], [], _ => True.intro
  | _ :: _, _ :: _, ⟨h, t⟩ => ⟨s _ _ h, LLs.same s t⟩
  | [], _ :: _, h => h.elim
  | _ :: _, [], h => h.elim
theorem LLs.upd {H : Hp} {L : Addr} {o : HO} : ∀ {rs : List Addr} {cs : List (List Int)}, L ∉ rs → LLs H rs cs → LLs (upd H L o) rs cs
  | [], [], _, _ => True.intro
  | r :: _, _ :: _, n, ⟨h, t⟩ => ⟨by rw [upd_ne (fun z => n (by rw [← z]; exact List.mem_cons_self))]; exact h, LLs.upd (fun z => n (List.mem_cons_of_mem _ z)) t⟩
  | [], _ :: _, _, h => h.elim
  | _ :: _, [], _, h => h.elim
theorem LLs.app {H : Hp} : ∀ {rs ss : List Addr} {cs ds : List (List Int)}, LLs H rs cs → LLs H ss ds → LLs H (rs ++ ss) (cs ++ ds)
  | [], _, [], _, _, h => h
  | _ :: _, _, _ :: _, _, ⟨h, t⟩, g => ⟨h, LLs.app t g⟩
  | [], _, _ :: _, _, h, _ => h.elim
  | _ :: _, _, [], _, h, _ => h.elim
theorem LLs.len {H : Hp} : ∀ {rs : List Addr} {cs : List (List Int)}, LLs H rs cs → rs.length = cs.length
  | [], [], _ => rfl
  | _ :: _, _ :: _, ⟨_, t⟩ => by rw [List.length_cons, List.length_cons, LLs.len t]
  | [], _ :: _, h => h.elim
  | _ :: _, [], h => h.elim
theorem LLs.get {H : Hp} : ∀ {rs : List Addr} {cs : List (List Int)} {i : Nat} {r : Addr}, LLs H rs cs → rs[i]? = some r → ∃ c, cs[i]? = some c ∧ H r = some (.lst (c.map V.int))
  | [], [], _, _, _, h => by simp at h
  | _ :: _, _ :: _, 0, _, ⟨h, _⟩, e => by cases e; exact ⟨_, rfl, h⟩
  | _ :: _, _ :: _, i + 1, _, ⟨_, t⟩, e => LLs.get (i := i) t e
  | [], _ :: _, _, _, h, _ => h.elim
  | _ :: _, [], _, _, h, _ => h.elim
theorem LLs.dp {K : PySem.W.Frag} {H : Hp} : ∀ {rs : List Addr} {cs : List (List Int)}, LLs H rs cs → DpAll K H (rs.map V.ref) (cs.map IL)
  | [], [], _ => .nil
  | _ :: _, _ :: _, ⟨h, t⟩ => .cons (IL_dp (SqL.of h)) (LLs.dp t)
  | [], _ :: _, h => h.elim
  | _ :: _, [], h => h.elim
theorem loop_rangeC {lo c : Int} {n : Nat} {g : L2.TG} {tb : L2.TS} {D : Ends} {σ : L2.St} {H : Hp} (Pv : Nat → L2.St → Hp → Prop) (h0 : Pv 0 σ H)
    (hs : ∀ i σ H, i < n → Pv i σ H → g (.int (lo + (i : Nat) * c)) σ H fun σ2 H2 => tb { D with nx := Pv (i + 1), ct := Pv (i + 1), bk := D.nx } σ2 H2) (hd : ∀ σ H, Pv n σ H → D.nx σ H) : LoopF (Itc lo c n) g tb D σ H := for_rangeC Pv h0 hs hd
def rng3 (R : It → Hp → Prop) (vs : List V) (H : Hp) : Prop := ∃ (i j c : Int) (n : Nat), vs = [.int i, .int j, .int c] ∧ RgC i j c n ∧ R (Itc i c n) H
instance {σ : L2.St} {H : Hp} {ta : TA} {R : It → Hp → Prop} : St1 (iRng3 ta σ H R) (ta σ H (rng3 R)) := ⟨fun h => h⟩
theorem g_rng3d {H : Hp} {i j : Int} {R : It → Hp → Prop} (h : -(2 ^ 62) ≤ i ∧ i < 2 ^ 62 ∧ -(2 ^ 62) ≤ j ∧ j < 2 ^ 62) (q : R (Itc i (-1) (i - j).toNat) H) : rng3 R [.int i, .int j, .int (-1)] H := ⟨i, j, -1, _, rfl, RgC.neg h.1 h.2.1 h.2.2.1 h.2.2.2, q⟩
theorem nd_app {a b : List Addr} (h1 : a.Nodup) (h2 : b.Nodup) (h : ∀ x ∈ a, x ∉ b) : (a ++ b).Nodup := List.nodup_append.mpr ⟨h1, h2, fun x hx y hy e => h x hx (e ▸ hy)⟩
theorem ll_keep {H H' : Hp} {rs : List Addr} {cs : List (List Int)} (k : ∀ r ∈ rs, ∀ o, H r = some o → H' r = some o) (h : LLs H rs cs) : LLs H' rs cs := by
  induction rs generalizing cs with
  | nil => cases cs <;> exact h
  | cons r rs ih =>
    cases cs with
    | nil => exact h
    | cons c cs => exact ⟨k r List.mem_cons_self _ h.1, ih (fun x hx => k x (List.mem_cons_of_mem _ hx)) h.2⟩
theorem take_snoc {α : Type} {l : List α} {i : Nat} {x : α} (h : l[i]? = some x) : l.take (i + 1) = l.take i ++ [x] := by
  rw [List.take_add_one, h]; rfl
theorem cutsL_el : ∀ {k p : Nat} {c : List Int}, c ∈ cutsL k p → c.length ≤ k
  | k + 1, p, c, h => by
    unfold cutsL at h
    rcases List.mem_append.mp h with h | h
    · rcases List.mem_append.mp h with h | h
      · rw [List.mem_singleton.mp h]; simp
      · obtain ⟨x, hx, rfl⟩ := List.mem_map.mp h
        have := cutsL_el hx
        rw [List.length_cons]; omega
    · have := cutsL_el h
      omega
theorem il_depth {d : PyData} {css : List (List Int)} (h : d ∈ css.map IL) : d.depth ≤ 50 := by
  obtain ⟨c, _, rfl⟩ := List.mem_map.mp h
  exact Nat.le_trans Sh.il.2 (by decide)
theorem cutsL_pair {k p : Nat} : ((cutsL k p).map IL).Pairwise fun a b => PySem.W.dataLe false id a b = true := by
  rw [List.pairwise_map]
  exact (cutsL_sorted k p).imp dataLe_il
/-! a cut and all that begin with it; a pile of such, the top last -/
def lastN (c : List Int) : Nat := (c.getLastD 0).toNat
def begun (n : Nat) (c : List Int) : List (List Int) := [c] ++ (cutsL (n - 1 - lastN c) (lastN c + 1)).map (c ++ ·)
def pileR (n : Nat) (ps : List (List Int)) : List (List Int) := (ps.reverse.map (begun n)).flatten
theorem pileR_snoc (n : Nat) (ps : List (List Int)) (c : List Int) : pileR n (ps ++ [c]) = begun n c ++ pileR n ps := by
  unfold pileR
  rw [List.reverse_append, List.map_append]
  rfl
theorem pileR_app (n : Nat) (ps qs : List (List Int)) : pileR n (ps ++ qs) = pileR n qs ++ pileR n ps := by
  unfold pileR
  rw [List.reverse_append, List.map_append, List.flatten_append]
theorem lastN_snoc (c : List Int) (q : Nat) : lastN (c ++ [(q : Int)]) = q := by
  unfold lastN
  rw [List.getLastD_eq_getLast?, List.getLast?_concat]
  rfl
/-- the longer ones by one point, from the greatest point down, come to all that begin with c and are longer -/
theorem pileR_longer (n : Nat) (c : List Int) : ∀ (k p : Nat), p + k = n → pileR n ((List.range k).map fun i => c ++ [((n - 1 - i : Nat) : Int)]) = (cutsL k p).map (c ++ ·)
  | 0, _, _ => rfl
  | k + 1, p, h => by
    have ih := pileR_longer n c k (p + 1) (by omega)
    rw [range_snoc, pileR_snoc, ih]
    have e : n - 1 - k = p := by omega
    rw [e]
    unfold begun
    rw [lastN_snoc, show n - 1 - p = k by omega, show cutsL (k + 1) p = [[(p : Int)]] ++ (cutsL k (p + 1)).map (fun c => (p : Int) :: c) ++ cutsL k (p + 1) from rfl, List.map_append, List.map_append, List.map_map]
    congr 2
    apply List.map_congr_left
    intro x _
    simp
theorem pileR_first (n : Nat) (h : 1 ≤ n) : pileR n ((List.range (n - 1)).map fun i => [((n - 1 - i : Nat) : Int)]) = cutsL (n - 1) 1 := by
  have := pileR_longer n [] (n - 1) 1 (by omega)
  rw [show (fun x : List Int => [] ++ x) = id from funext fun x => List.nil_append x, List.map_id] at this
  exact this
theorem begun_len (n : Nat) (c : List Int) : 1 ≤ (begun n c).length := by
  unfold begun
  rw [List.length_append]
  show 1 ≤ 1 + _
  omega
theorem lcl_rangeC {lo st : Int} {n : Nat} {σ : L2.St} {H : Hp} {g : L2.TG} {tt : TT} {te : TE} {vs : List Nat} {L : Addr} {Qd : Hp → Prop} (Pv : Nat → Hp → Prop) (h0 : Pv 0 (upd H L (.lst [])))
    (turn : ∀ i G, i < n → Pv i G → g (.int (lo + (i : Nat) * st)) (wipe σ vs) G fun σ2 H2 => wipe σ2 vs = wipe σ vs ∧ tt σ2 H2 fun b H3 =>
      if b = true then te σ2 H3 fun y H4 => ∃ acc, H4 L = some (.lst acc) ∧ acc.length < sizeLine ∧ Pv (i + 1) (upd H4 L (.lst (acc ++ [y]))) else Pv (i + 1) H3) (done : ∀ G, Pv n G → Qd G) : LoopC (Itc lo st n) g tt te vs L σ Qd H := by
  refine ⟨fun i left G => left + i = n ∧ Pv i G, ⟨n, Nat.add_zero n, h0⟩, ?_⟩
  rintro i left G ⟨e, p⟩
  rcases Nat.lt_or_ge i n with lt | ge
  · refine Or.inr ⟨lt, Pv (i + 1), fun G' p' => ⟨left - 1, by omega, by omega, p'⟩, ?_⟩
    rintro x G' ⟨rfl, rfl⟩
    exact turn i _ lt p
  · obtain rfl : i = n := by omega
    exact Or.inl ⟨ge, done G p⟩
theorem g_while {c : TT} {tb : L2.TS} {D : Ends} {σ : L2.St} {H : Hp} (W : Nat → L2.St → Hp → Prop) (h0 : ∃ m, W m σ H) (turn : ∀ m σ G, W m σ G → c σ G fun b H1 => if b = true then
    ∃ N : L2.St → Hp → Prop, (∀ σ' H', N σ' H' → ∃ m', m' < m ∧ W m' σ' H') ∧ tb { D with nx := N, ct := N, bk := D.nx } σ H1 else D.nx σ H1) : tWhile c tb D σ H := ⟨W, h0, turn⟩
theorem LLs.snoc {H : Hp} {rs : List Addr} {cs : List (List Int)} {r : Addr} {c : List Int} (h : LLs H rs cs) (e : H r = some (.lst (c.map V.int))) : LLs H (rs ++ [r]) (cs ++ [c]) := LLs.app h ⟨e, True.intro⟩
theorem LLs.unsnoc {H : Hp} : ∀ {rs : List Addr} {cs : List (List Int)} {r : Addr}, LLs H (rs ++ [r]) cs → ∃ ds c, cs = ds ++ [c] ∧ LLs H rs ds ∧ H r = some (.lst (c.map V.int))
  | [], [c], r, ⟨h, _⟩ => ⟨[], c, rfl, True.intro, h⟩
  | [], _ :: _ :: _, _, ⟨_, h⟩ => h.elim
  | [], [], _, h => h.elim
  | _ :: rs, [], _, h => h.elim
  | _ :: rs, d :: cs, r, ⟨h, t⟩ => by
    obtain ⟨ds, c, rfl, h1, h2⟩ := LLs.unsnoc (rs := rs) t
    exact ⟨d :: ds, c, rfl, ⟨h, h1⟩, h2⟩
theorem pileR_ge (n : Nat) : ∀ ps : List (List Int), ps.length ≤ (pileR n ps).length := fun ps => by
  unfold pileR
  rw [← List.length_reverse (as := ps)]
  generalize ps.reverse = qs
  induction qs with
  | nil => exact Nat.zero_le _
  | cons c qs ih =>
    rw [List.map_cons, List.flatten_cons, List.length_append, List.length_cons]
    have := begun_len n c
    omega
/-! ### data of any depth, its lists standing by themselves -/
mutual
inductive Dq (K : PySem.W.Frag) (H : Hp) : V → PyData → Prop
  | non : Dq K H .non .none
  | bl (b : Bool) : Dq K H (.bl b) (.bool b)
  | int (i : Int) : Dq K H (.int i) (.int i)
  | str (x : Str) : Dq K H (.str x) (.str x)
  | lst {a : Addr} {xs : List V} {ds : List PyData} : H a = some (.lst xs) → DqAll K H xs ds → Dq K H (.ref a) (.list ds)
  | tup {a : Addr} {xs : List V} {ds : List PyData} : SqT K H a xs → DqAll K H xs ds → Dq K H (.ref a) (.tuple ds)
inductive DqAll (K : PySem.W.Frag) (H : Hp) : List V → List PyData → Prop
  | nil : DqAll K H [] []
  | cons {v : V} {vs : List V} {d : PyData} {ds : List PyData} : Dq K H v d → DqAll K H vs ds → DqAll K H (v :: vs) (d :: ds)
end
mutual
theorem dq_same {K : PySem.W.Frag} {H H' : Hp} (s : Same H H') : ∀ (d : PyData) (v : V), Dq K H v d → Dq K H' v d
  | .none, _, h => by cases h; exact .non
  | .bool b, _, h => by cases h; exact .bl b
  | .int i, _, h => by cases h; exact .int i
  | .str x, _, h => by cases h; exact .str x
  | .list ds, _, h => by
    cases h with
    | lst h1 h2 => exact .lst (s _ _ h1) (dqAll_same s ds _ h2)
  | .tuple ds, _, h => by
    cases h with
    | tup h1 h2 => exact .tup (sqT_same s h1) (dqAll_same s ds _ h2)
  | .dict _, _, h => nomatch h
theorem dqAll_same {K : PySem.W.Frag} {H H' : Hp} (s : Same H H') : ∀ (ds : List PyData) (vs : List V), DqAll K H vs ds → DqAll K H' vs ds
  | [], _, h => by cases h; exact .nil
  | d :: ds, _, h => by
    cases h with
    | cons h1 h2 => exact .cons (dq_same s d _ h1) (dqAll_same s ds _ h2)
end
mutual
theorem dq_dp {K : PySem.W.Frag} {H : Hp} : ∀ (d : PyData) (v : V), Dq K H v d → Dp K H v d
  | .none, _, h => by cases h; exact .non
  | .bool b, _, h => by cases h; exact .bl b
  | .int i, _, h => by cases h; exact .int i
  | .str x, _, h => by cases h; exact .str x
  | .list ds, _, h => by
    cases h with
    | lst h1 h2 => exact .lst (SqL.of h1) (dqAll_dp ds _ h2)
  | .tuple ds, _, h => by
    cases h with
    | tup h1 h2 => exact .tup h1 (dqAll_dp ds _ h2)
  | .dict _, _, h => nomatch h
theorem dqAll_dp {K : PySem.W.Frag} {H : Hp} : ∀ (ds : List PyData) (vs : List V), DqAll K H vs ds → DpAll K H vs ds
  | [], _, h => by cases h; exact .nil
  | d :: ds, _, h => by
    cases h with
    | cons h1 h2 => exact .cons (dq_dp d _ h1) (dqAll_dp ds _ h2)
end
section
variable {K : PySem.W.Frag} {H H' : Hp} {x y v : V} {d e : PyData} {ds : List PyData} {vs : List V}
theorem Dq.lstI (h : Dq K H v (.list ds)) : ∃ a xs, v = .ref a ∧ H a = some (.lst xs) ∧ DqAll K H xs ds := by
  cases h with
  | lst h1 h2 => exact ⟨_, _, rfl, h1, h2⟩
theorem Dq.tupI (h : Dq K H v (.tuple ds)) : ∃ a xs, v = .ref a ∧ SqT K H a xs ∧ DqAll K H xs ds := by
  cases h with
  | tup h1 h2 => exact ⟨_, _, rfl, h1, h2⟩
theorem DqAll.len : ∀ {vs : List V} {ds : List PyData}, DqAll K H vs ds → vs.length = ds.length
  | _, _, .nil => rfl
  | _, _, .cons _ h => by rw [List.length_cons, List.length_cons, DqAll.len h]
theorem DqAll.get : ∀ {vs : List V} {ds : List PyData} {i : Nat} {d : PyData}, DqAll K H vs ds → ds[i]? = some d → ∃ v, vs[i]? = some v ∧ Dq K H v d
  | _, _, _, _, .nil, h => by simp at h
  | _, _, 0, _, .cons h1 _, h => by cases h; exact ⟨_, rfl, h1⟩
  | _, _, i + 1, _, .cons _ h2, h => DqAll.get (i := i) h2 h
theorem DqAll.got : ∀ {vs : List V} {ds : List PyData} {i : Nat} {v : V}, DqAll K H vs ds → vs[i]? = some v → ∃ d, ds[i]? = some d ∧ Dq K H v d
  | _, _, _, _, .nil, h => by simp at h
  | _, _, 0, _, .cons h1 _, h => by cases h; exact ⟨_, rfl, h1⟩
  | _, _, i + 1, _, .cons _ h2, h => DqAll.got (i := i) h2 h
theorem fr_dq {a : Addr} {x : Rat} (h : Fr K H a x) : Dq K H (.ref a) (FD x) := .tup h (.cons (.int _) (.cons (.int _) .nil))
theorem dq_fr {a : Addr} {x : Rat} (h : Dq K H (.ref a) (FD x)) : Fr K H a x := FD_fr (dq_dp _ _ h)
theorem dq_frR {x : Rat} (h : Dq K H v (FD x)) : ∃ a, v = .ref a ∧ Fr K H a x := FD_ref (dq_dp _ _ h)
end
/-! ### what stands side by side in a heap: facts that stay, lists of one's own -/
mutual
/-- no list within -/
def noL : PyData → Bool
  | .list _ => false
  | .dict _ => false
  | .tuple ds => noLs ds
  | _ => true
def noLs : List PyData → Bool
  | [] => true
  | d :: ds => noL d && noLs ds
end
/-- the heap without some -/
noncomputable def wo (H : Hp) (O : Addr → Prop) : Hp := fun b => @ite _ (O b) (Classical.propDecidable _) none (H b)
theorem wo_in {H : Hp} {O : Addr → Prop} {b : Addr} (h : O b) : wo H O b = none := by unfold wo; rw [if_pos h]
theorem wo_out {H : Hp} {O : Addr → Prop} {b : Addr} (h : ¬ O b) : wo H O b = H b := by unfold wo; rw [if_neg h]
theorem wo_some {H : Hp} {O : Addr → Prop} {b : Addr} {o : HO} (h : wo H O b = some o) : ¬ O b ∧ H b = some o := by
  by_cases z : O b
  · rw [wo_in z] at h; cases h
  · rw [wo_out z] at h; exact ⟨z, h⟩
theorem wo_same {H : Hp} {O : Addr → Prop} : Same (wo H O) H := fun b o h => (wo_some h).2
def none0 : Addr → Prop := fun _ => False
theorem wo_no {H : Hp} {O : Addr → Prop} (h : ∀ b, ¬ O b) : wo H O = H := by funext b; exact wo_out (h b)
theorem wo_less {H : Hp} {O O' : Addr → Prop} (h : ∀ a, O' a → O a) : Same (wo H O) (wo H O') := fun b o e => by
  obtain ⟨n, e⟩ := wo_some e
  rw [wo_out (fun z => n (h b z))]; exact e
theorem wo_mono {H H' : Hp} {O : Addr → Prop} (s : Same H H') : Same (wo H O) (wo H' O) := fun b o e => by
  obtain ⟨n, e⟩ := wo_some e
  rw [wo_out n]; exact s _ _ e
mutual
theorem dq_noL {K : PySem.W.Frag} {H H' : Hp} (t : ∀ a xs, SqT K H a xs → SqT K H' a xs) : ∀ (d : PyData) (v : V), noL d = true → Dq K H v d → Dq K H' v d
  | .none, _, _, h => by cases h; exact .non
  | .bool b, _, _, h => by cases h; exact .bl b
  | .int i, _, _, h => by cases h; exact .int i
  | .str x, _, _, h => by cases h; exact .str x
  | .list ds, _, n, _ => by simp [noL] at n
  | .tuple ds, _, n, h => by
    cases h with
    | tup h1 h2 => exact .tup (t _ _ h1) (dqAll_noL t ds _ (by simpa [noL] using n) h2)
  | .dict _, _, n, _ => by simp [noL] at n
theorem dqAll_noL {K : PySem.W.Frag} {H H' : Hp} (t : ∀ a xs, SqT K H a xs → SqT K H' a xs) : ∀ (ds : List PyData) (vs : List V), noLs ds = true → DqAll K H vs ds → DqAll K H' vs ds
  | [], _, _, h => by cases h; exact .nil
  | d :: ds, _, n, h => by
    have n : noL d = true ∧ noLs ds = true := by simpa [noLs] using n
    cases h with
    | cons h1 h2 => exact .cons (dq_noL t d _ n.1 h1) (dqAll_noL t ds _ n.2 h2)
end
inductive Im where
  | ps (P : Hp → Prop)
  | top (a : Addr) (xs : List V)
  | fr (F : Addr → Option (List V))
  | ob (a : Addr) (o : HO)
/-- what may be changed -/
def Mutb : HO → Prop
  | .lst _ => True
  | .ins _ _ _ => True
  | .dK _ => True
  | .dT _ => True
  | _ => False
abbrev OwnO := { o : HO // Mutb o }
def Im.oad : Im → Option Addr
  | .ob a _ => some a
  | _ => none
def obs (L : List Im) : List Addr := L.filterMap Im.oad
theorem obs_app (A B : List Im) : obs (A ++ B) = obs A ++ obs B := List.filterMap_append
theorem mem_obs {a : Addr} {L : List Im} : a ∈ obs L ↔ ∃ o, Im.ob a o ∈ L := by
  unfold obs
  rw [List.mem_filterMap]
  constructor
  · rintro ⟨m, h, e⟩
    cases m with
    | ps P => cases e
    | top b xs => cases e
    | fr F => cases e
    | ob b o => cases e; exact ⟨o, h⟩
  · rintro ⟨xs, h⟩
    exact ⟨_, h, rfl⟩
def Im.ad : Im → Option Addr
  | .top a _ => some a
  | _ => none
def tops (L : List Im) : List Addr := L.filterMap Im.ad
theorem tops_app (A B : List Im) : tops (A ++ B) = tops A ++ tops B := List.filterMap_append
theorem tops_ps (P : Hp → Prop) (L : List Im) : tops (.ps P :: L) = tops L := rfl
theorem tops_top (a : Addr) (xs : List V) (L : List Im) : tops (.top a xs :: L) = a :: tops L := rfl
theorem mem_tops {a : Addr} {L : List Im} : a ∈ tops L ↔ ∃ xs, Im.top a xs ∈ L := by
  unfold tops
  rw [List.mem_filterMap]
  constructor
  · rintro ⟨m, h, e⟩
    cases m with
    | ps P => cases e
    | top b xs => cases e; exact ⟨xs, h⟩
    | fr F => cases e
    | ob b o => cases e
  · rintro ⟨xs, h⟩
    exact ⟨_, h, rfl⟩
/-- what is owned: one's own lists, and what stands in a frame -/
def ows (L : List Im) : Addr → Prop := fun a => a ∈ tops L ∨ (∃ F, Im.fr F ∈ L ∧ ∃ ys, F a = some ys) ∨ a ∈ obs L
theorem ows_sub {A B : List Im} (h : ∀ m ∈ A, m ∈ B) {a : Addr} : ows A a → ows B a := by
  rintro (z | ⟨F, hF, z⟩ | z)
  · obtain ⟨xs, hm⟩ := mem_tops.mp z
    exact .inl (mem_tops.mpr ⟨xs, h _ hm⟩)
  · exact .inr (.inl ⟨F, h _ hF, z⟩)
  · obtain ⟨o, hm⟩ := mem_obs.mp z
    exact .inr (.inr (mem_obs.mpr ⟨o, h _ hm⟩))
theorem ows_app {A B : List Im} {a : Addr} : ows (A ++ B) a ↔ ows A a ∨ ows B a := by
  constructor
  · rintro (z | ⟨F, hF, z⟩ | z)
    · rw [tops_app] at z
      rcases List.mem_append.mp z with z | z
      · exact .inl (.inl z)
      · exact .inr (.inl z)
    · rcases List.mem_append.mp hF with h | h
      · exact .inl (.inr (.inl ⟨F, h, z⟩))
      · exact .inr (.inr (.inl ⟨F, h, z⟩))
    · rw [obs_app] at z
      rcases List.mem_append.mp z with z | z
      · exact .inl (.inr (.inr z))
      · exact .inr (.inr (.inr z))
  · rintro (z | z)
    · exact ows_sub (fun m h => List.mem_append_left _ h) z
    · exact ows_sub (fun m h => List.mem_append_right _ h) z
theorem ows_ps {P : Hp → Prop} {L : List Im} {a : Addr} (h : ows (.ps P :: L) a) : ows L a := by
  rcases h with z | ⟨F, hF, z⟩ | z
  · exact .inl z
  · rcases List.mem_cons.mp hF with e | e
    · cases e
    · exact .inr (.inl ⟨F, e, z⟩)
  · exact .inr (.inr z)
theorem ows_top {b : Addr} {xs : List V} {L : List Im} {a : Addr} (h : ows (.top b xs :: L) a) : a = b ∨ ows L a := by
  rcases h with z | ⟨F, hF, z⟩ | z
  · rw [tops_top] at z
    rcases List.mem_cons.mp z with z | z
    · exact .inl z
    · exact .inr (.inl z)
  · rcases List.mem_cons.mp hF with e | e
    · cases e
    · exact .inr (.inr (.inl ⟨F, e, z⟩))
  · exact .inr (.inr (.inr z))
theorem ows_ob {b : Addr} {o : HO} {L : List Im} {a : Addr} (h : ows (.ob b o :: L) a) : a = b ∨ ows L a := by
  rcases h with z | ⟨F, hF, z⟩ | z
  · exact .inr (.inl z)
  · rcases List.mem_cons.mp hF with e | e
    · cases e
    · exact .inr (.inr (.inl ⟨F, e, z⟩))
  · have z : a ∈ b :: obs L := z
    rcases List.mem_cons.mp z with z | z
    · exact .inl z
    · exact .inr (.inr (.inr z))
def Im.ok (H : Hp) (O : Addr → Prop) : Im → Prop
  | .ps P => (∀ H H', Same H H' → P H → P H') ∧ P (wo H O)
  | .top a xs => H a = some (.lst xs)
  | .fr F => ∀ a xs, F a = some xs → H a = some (.lst xs)
  | .ob a o => H a = some o ∧ (Mutb o ∧ ∀ xs, o ≠ .lst xs)
theorem Im.ok_less {H : Hp} {O O' : Addr → Prop} (h : ∀ a, O' a → O a) {m : Im} (k : m.ok H O) : m.ok H O' := by
  cases m with
  | ps P => exact ⟨k.1, k.1 _ _ (wo_less h) k.2⟩
  | top a xs => exact k
  | fr F => exact k
  | ob a o => exact k
theorem Im.ok_same {H H' : Hp} {O : Addr → Prop} (s : Same H H') {m : Im} (k : m.ok H O) : m.ok H' O := by
  cases m with
  | ps P => exact ⟨k.1, k.1 _ _ (wo_mono s) k.2⟩
  | top a xs => exact s _ _ k
  | fr F => exact fun a xs ha => s _ _ (k a xs ha)
  | ob a o => exact ⟨s _ _ k.1, k.2⟩
structure Rf (H : Hp) (L : List Im) : Prop where
  nd : (tops L).Nodup
  fd : ∀ F, Im.fr F ∈ L → ∀ a ∈ tops L, F a = none
  all : ∀ m ∈ L, m.ok H (ows L)
  no : (obs L).Nodup
section
variable {H H' : Hp} {L L' : List Im} {a p : Addr} {xs ys : List V} {o : HO}
theorem Rf.lists (R : Rf H L) {b : Addr} (h : ows L b) : ∃ ys : OwnO, H b = some ys.1 := by
  rcases h with z | ⟨F, hF, z⟩ | z
  · obtain ⟨ys, hm⟩ := mem_tops.mp z
    exact ⟨⟨.lst ys, trivial⟩, R.all _ hm⟩
  · obtain ⟨ys, z⟩ := z
    exact ⟨⟨.lst ys, trivial⟩, R.all _ hF b ys z⟩
  · obtain ⟨o, hm⟩ := mem_obs.mp z
    have k := R.all _ hm
    exact ⟨⟨o, k.2.1⟩, k.1⟩
theorem Rf.perm (h : L.Perm L') (R : Rf H L) : Rf H L' := by
  have t : (tops L).Perm (tops L') := h.filterMap _
  have t2 : (obs L).Perm (obs L') := h.filterMap _
  refine ⟨t.nodup_iff.mp R.nd, fun F hF a ha => R.fd F (h.mem_iff.mpr hF) a (t.mem_iff.mpr ha), fun m hm => ?_, t2.nodup_iff.mp R.no⟩
  exact Im.ok_less (fun a ha => ows_sub (fun m hm => h.mem_iff.mpr hm) ha) (R.all m (h.mem_iff.mpr hm))
theorem Rf.sub (h : L'.Sublist L) (R : Rf H L) : Rf H L' := by
  have t : (tops L').Sublist (tops L) := h.filterMap _
  have t2 : (obs L').Sublist (obs L) := h.filterMap _
  exact ⟨t.nodup R.nd, fun F hF a ha => R.fd F (h.subset hF) a (t.subset ha), fun m hm => Im.ok_less (fun a ha => ows_sub (fun m hm => h.subset hm) ha) (R.all m (h.subset hm)), t2.nodup R.no⟩
theorem Rf.tail {m : Im} (R : Rf H (m :: L)) : Rf H L := R.sub (List.sublist_cons_self _ _)
theorem Rf.same (s : Same H H') (R : Rf H L) : Rf H' L := ⟨R.nd, R.fd, fun m hm => Im.ok_same s (R.all m hm), R.no⟩
theorem Rf.addps {P : Hp → Prop} (m : ∀ H H', Same H H' → P H → P H') (h : P (wo H (ows L))) (R : Rf H L) : Rf H (.ps P :: L) := by
  refine ⟨R.nd, fun F hF a ha => ?_, fun n hn => ?_, R.no⟩
  · rcases List.mem_cons.mp hF with e | e
    · cases e
    · exact R.fd F e a ha
  · rcases List.mem_cons.mp hn with rfl | hn
    · exact ⟨m, m _ _ (wo_less fun a ha => ows_ps ha) h⟩
    · exact Im.ok_less (fun a ha => ows_ps ha) (R.all n hn)
theorem Rf.psK {P : Hp → Prop} (R : Rf H (.ps P :: L)) : (∀ H H', Same H H' → P H → P H') ∧ P (wo H (ows L)) := by
  have k := R.all (.ps P) List.mem_cons_self
  exact ⟨k.1, k.1 _ _ (wo_less fun a ha => ows_sub (fun m hm => List.mem_cons_of_mem _ hm) ha) k.2⟩
theorem Rf.new (n : H p = none) (R : Rf H L) : Rf (upd H p (.lst xs)) (.top p xs :: L) := by
  have np : ¬ ows L p := fun z => by
    obtain ⟨ys, e⟩ := R.lists z
    rw [n] at e; cases e
  refine ⟨by rw [tops_top]; exact List.nodup_cons.mpr ⟨fun z => np (.inl z), R.nd⟩, fun F hF a ha => ?_, fun m hm => ?_, R.no⟩
  · rcases List.mem_cons.mp hF with e | e
    · cases e
    · rw [tops_top] at ha
      rcases List.mem_cons.mp ha with rfl | ha
      · cases q : F a with
        | none => rfl
        | some ys => exact (np (.inr (.inl ⟨F, e, ys, q⟩))).elim
      · exact R.fd F e a ha
  · rcases List.mem_cons.mp hm with rfl | hm
    · exact upd_same
    · have k := R.all m hm
      cases m with
      | ps P =>
        refine ⟨k.1, k.1 _ _ (fun b o e => ?_) k.2⟩
        obtain ⟨nb, e⟩ := wo_some e
        have bp : b ≠ p := ne_of_none e n
        rw [wo_out (fun z => by rcases ows_top z with z | z; exact bp z; exact nb z), upd_ne bp]; exact e
      | top b ys => exact same_new n _ _ k
      | fr F => exact Im.ok_same (m := .fr F) (O := ows L) (same_new n) k
      | ob b o => exact ⟨same_new n _ _ k.1, k.2⟩
/-- a list of one's own is changed -/
theorem Rf.mut (s : But a H H') (e : H' a = some (.lst ys)) (R : Rf H (.top a xs :: L)) : Rf H' (.top a ys :: L) := by
  have nd := R.nd
  rw [tops_top] at nd
  have na : ¬ ows L a := by
    rintro (z | ⟨F, hF, z⟩ | z)
    · exact (List.nodup_cons.mp nd).1 z
    · obtain ⟨ys, z⟩ := z
      rw [R.fd F (List.mem_cons_of_mem _ hF) a (by rw [tops_top]; exact List.mem_cons_self)] at z; cases z
    · obtain ⟨o, hm⟩ := mem_obs.mp z
      have k := R.all _ (List.mem_cons_of_mem _ hm)
      have k2 := R.all (.top a xs) List.mem_cons_self
      have e2 : some (HO.lst xs) = some o := Eq.trans (Eq.symm k2) k.1
      exact k.2.2 xs (Option.some.inj e2).symm
  refine ⟨R.nd, fun F hF b hb => ?_, fun m hm => ?_, R.no⟩
  · rcases List.mem_cons.mp hF with z | z
    · cases z
    · exact R.fd F (List.mem_cons_of_mem _ z) b hb
  · rcases List.mem_cons.mp hm with rfl | hm
    · exact e
    · have k := R.all m (List.mem_cons_of_mem _ hm)
      cases m with
      | ps P =>
        refine ⟨k.1, k.1 _ _ (fun b o q => ?_) k.2⟩
        obtain ⟨nb, q⟩ := wo_some q
        have ba : b ≠ a := fun z => nb (by rw [z]; exact .inl (by rw [tops_top]; exact List.mem_cons_self))
        rw [wo_out (fun z => nb (by
          rcases ows_top z with z | z
          · exact (ba z).elim
          · exact ows_sub (fun m hm => List.mem_cons_of_mem _ hm) z))]
        exact s b o ba q
      | top b zs => exact s b _ (fun z => na (.inl (z ▸ mem_tops.mpr ⟨zs, hm⟩))) k
      | fr F => exact fun b zs hb => s b _ (fun z => na (.inr (.inl ⟨F, hm, zs, z ▸ hb⟩))) (k b zs hb)
      | ob b o => exact ⟨s b _ (fun z => na (.inr (.inr (z ▸ mem_obs.mpr ⟨o, hm⟩)))) k.1, k.2⟩
end
section
variable {H H' : Hp} {L : List Im} {a p : Addr} {o o' : HO}
theorem Rf.newO (n : H p = none) (h : Mutb o ∧ ∀ xs, o ≠ .lst xs) (R : Rf H L) : Rf (upd H p o) (.ob p o :: L) := by
  have np : ¬ ows L p := fun z => by
    obtain ⟨ys, e⟩ := R.lists z
    rw [n] at e; cases e
  refine ⟨R.nd, fun F hF a ha => ?_, fun m hm => ?_, List.nodup_cons.mpr ⟨fun z => np (.inr (.inr z)), R.no⟩⟩
  · rcases List.mem_cons.mp hF with e | e
    · cases e
    · exact R.fd F e a ha
  · rcases List.mem_cons.mp hm with rfl | hm
    · exact ⟨upd_same, h⟩
    · have k := R.all m hm
      cases m with
      | ps P =>
        refine ⟨k.1, k.1 _ _ (fun b o e => ?_) k.2⟩
        obtain ⟨nb, e⟩ := wo_some e
        have bp : b ≠ p := ne_of_none e n
        rw [wo_out (fun z => by rcases ows_ob z with z | z; exact bp z; exact nb z), upd_ne bp]; exact e
      | top b ys => exact same_new n _ _ k
      | fr F => exact Im.ok_same (m := .fr F) (O := ows L) (same_new n) k
      | ob b o => exact ⟨same_new n _ _ k.1, k.2⟩
theorem Rf.mutO (s : But a H H') (e : H' a = some o') (h : Mutb o' ∧ ∀ xs, o' ≠ .lst xs) (R : Rf H (.ob a o :: L)) : Rf H' (.ob a o' :: L) := by
  have no := R.no
  have no : (a :: obs L).Nodup := no
  have k0 := R.all (.ob a o) List.mem_cons_self
  have na : ¬ ows L a := by
    rintro (z | ⟨F, hF, z⟩ | z)
    · obtain ⟨xs, hm⟩ := mem_tops.mp z
      have k := R.all _ (List.mem_cons_of_mem _ hm)
      have e2 : some o = some (HO.lst xs) := Eq.trans (Eq.symm k0.1) k
      exact k0.2.2 xs (Option.some.inj e2)
    · obtain ⟨ys, z⟩ := z
      have k := R.all _ (List.mem_cons_of_mem _ hF) a ys z
      have e2 : some o = some (HO.lst ys) := Eq.trans (Eq.symm k0.1) k
      exact k0.2.2 ys (Option.some.inj e2)
    · exact (List.nodup_cons.mp no).1 z
  refine ⟨R.nd, fun F hF b hb => ?_, fun m hm => ?_, no⟩
  · rcases List.mem_cons.mp hF with z | z
    · cases z
    · exact R.fd F (List.mem_cons_of_mem _ z) b hb
  · rcases List.mem_cons.mp hm with rfl | hm
    · exact ⟨e, h⟩
    · have k := R.all m (List.mem_cons_of_mem _ hm)
      cases m with
      | ps P =>
        refine ⟨k.1, k.1 _ _ (fun b o q => ?_) k.2⟩
        obtain ⟨nb, q⟩ := wo_some q
        have ba : b ≠ a := fun z => nb (by rw [z]; exact .inr (.inr List.mem_cons_self))
        rw [wo_out (fun z => nb (by
          rcases ows_ob z with z | z
          · exact (ba z).elim
          · exact ows_sub (fun m hm => List.mem_cons_of_mem _ hm) z))]
        exact s b o ba q
      | top b zs => exact s b _ (fun z => na (.inl (z ▸ mem_tops.mpr ⟨zs, hm⟩))) k
      | fr F => exact fun b zs hb => s b _ (fun z => na (.inr (.inl ⟨F, hm, zs, z ▸ hb⟩))) (k b zs hb)
      | ob b o => exact ⟨s b _ (fun z => na (.inr (.inr (z ▸ mem_obs.mpr ⟨o, hm⟩)))) k.1, k.2⟩
end
inductive Own where
  | lf | li (s : Own) | t2 (s1 s2 : Own) | t3 (s1 s2 s3 : Own)
inductive All3 (P : V → PyData → List Im → Prop) : List V → List PyData → List Im → Prop
  | nil : All3 P [] [] []
  | cons {x : V} {xs : List V} {d : PyData} {ds : List PyData} {p ps : List Im} : P x d p → All3 P xs ds ps → All3 P (x :: xs) (d :: ds) (p ++ ps)
def Unf (K : PySem.W.Frag) : Own → V → PyData → List Im → Prop
  | .lf, v, d, ps => ps = [.ps fun H => Dq K H v d]
  | .li s, v, d, ps => ∃ a xs ds qs, v = .ref a ∧ d = .list ds ∧ ps = .top a xs :: qs ∧ All3 (Unf K s) xs ds qs
  | .t2 s1 s2, v, d, ps => ∃ a x1 x2 d1 d2 p1 p2, v = .ref a ∧ d = .tuple [d1, d2] ∧ ps = .ps (fun H => SqT K H a [x1, x2]) :: (p1 ++ p2) ∧ Unf K s1 x1 d1 p1 ∧ Unf K s2 x2 d2 p2
  | .t3 s1 s2 s3, v, d, ps => ∃ a x1 x2 x3 d1 d2 d3 p1 p2 p3, v = .ref a ∧ d = .tuple [d1, d2, d3] ∧ ps = .ps (fun H => SqT K H a [x1, x2, x3]) :: (p1 ++ (p2 ++ p3)) ∧ Unf K s1 x1 d1 p1 ∧ Unf K s2 x2 d2 p2 ∧ Unf K s3 x3 d3 p3
inductive It where
  | ow (s : Own) (v : V) (d : PyData)
  | top (a : Addr) (xs : List V)
  | ps (P : Hp → Prop)
  | pr (P : List V → Prop) (a : Addr)
  | fr (F : Addr → Option (List V))
  | ob (a : Addr) (o : HO)
abbrev It.sh (v : V) (d : PyData) : It := .ow .lf v d
def UnI (K : PySem.W.Frag) : It → List Im → Prop
  | .ow s v d, qs => Unf K s v d qs
  | .top a xs, qs => qs = [.top a xs]
  | .ps P, qs => qs = [.ps P]
  | .pr P a, qs => ∃ xs, P xs ∧ qs = [.top a xs]
  | .fr F, qs => qs = [.fr F]
  | .ob a o, qs => qs = [.ob a o]
inductive UnIs (K : PySem.W.Frag) : List It → List Im → Prop
  | nil : UnIs K [] []
  | cons {m : It} {L : List It} {p ps : List Im} : UnI K m p → UnIs K L ps → UnIs K (m :: L) (p ++ ps)
/-- the heap H has all these, side by side -/
def Rp (K : PySem.W.Frag) (H : Hp) (L : List It) : Prop := ∃ ps, UnIs K L ps ∧ Rf H ps
theorem UnIs.inv {K : PySem.W.Frag} {m : It} {L : List It} {ps : List Im} (h : UnIs K (m :: L) ps) : ∃ p q, ps = p ++ q ∧ UnI K m p ∧ UnIs K L q := by
  cases h with
  | cons h t => exact ⟨_, _, rfl, h, t⟩
theorem Rp.inv {K : PySem.W.Frag} {H : Hp} {m : It} {L : List It} (R : Rp K H (m :: L)) : ∃ p q, UnI K m p ∧ UnIs K L q ∧ Rf H (p ++ q) := by
  obtain ⟨ps, u, r⟩ := R
  obtain ⟨p, q, rfl, h, t⟩ := u.inv
  exact ⟨p, q, h, t, r⟩
section
variable {K : PySem.W.Frag} {H H' : Hp} {L L' A B : List It} {a p : Addr} {xs ys : List V} {o : HO} {v x y : V} {d e : PyData} {ds : List PyData} {s : Own}
theorem UnIs.app : ∀ {A B : List It} {p q : List Im}, UnIs K A p → UnIs K B q → UnIs K (A ++ B) (p ++ q)
  | _, _, _, _, .nil, h => h
  | _, _, _, _, .cons h t, g => by rw [List.append_assoc]; exact .cons h (UnIs.app t g)
theorem UnIs.split : ∀ {A B : List It} {ps : List Im}, UnIs K (A ++ B) ps → ∃ p q, ps = p ++ q ∧ UnIs K A p ∧ UnIs K B q
  | [], _, ps, h => ⟨[], ps, rfl, .nil, h⟩
  | m :: A, _, _, .cons h t => by
    obtain ⟨p, q, rfl, h1, h2⟩ := UnIs.split (A := A) t
    exact ⟨_ ++ p, q, by rw [List.append_assoc], .cons h h1, h2⟩
theorem UnIs.perm (h : A.Perm B) : ∀ {ps : List Im}, UnIs K A ps → ∃ qs, UnIs K B qs ∧ ps.Perm qs := by
  induction h with
  | nil => intro ps u; exact ⟨ps, u, .refl _⟩
  | cons m _ ih =>
    intro ps u
    cases u with
    | cons h t =>
      obtain ⟨qs, h1, h2⟩ := ih t
      exact ⟨_, .cons h h1, h2.append_left _⟩
  | swap m n l =>
    intro ps u
    cases u with
    | cons h t =>
      cases t with
      | cons h2 t2 =>
        refine ⟨_, .cons h2 (.cons h t2), ?_⟩
        rw [← List.append_assoc, ← List.append_assoc]
        exact List.perm_append_comm.append_right _
  | trans _ _ ih1 ih2 =>
    intro ps u
    obtain ⟨qs, h1, h2⟩ := ih1 u
    obtain ⟨rs, h3, h4⟩ := ih2 h1
    exact ⟨rs, h3, h2.trans h4⟩
theorem Rp.perm (h : A.Perm B) (R : Rp K H A) : Rp K H B := by
  obtain ⟨ps, u, r⟩ := R
  obtain ⟨qs, u', h'⟩ := u.perm h
  exact ⟨qs, u', r.perm h'⟩
theorem Rf.nil : Rf H [] := ⟨List.nodup_nil, fun _ h => (by cases h), fun _ h => (by cases h), List.nodup_nil⟩
theorem Rp.nil : Rp K H [] := ⟨[], .nil, Rf.nil⟩
theorem Rp.tail {m : It} (R : Rp K H (m :: L)) : Rp K H L := by
  obtain ⟨_, _, h, t, r⟩ := R.inv
  exact ⟨_, t, r.sub (List.sublist_append_right _ _)⟩
theorem Rp.same (R : Rp K H L) (s : Same H H') : Rp K H' L := by
  obtain ⟨ps, u, r⟩ := R
  exact ⟨ps, u, r.same s⟩
theorem Rp.new (R : Rp K H L) (n : H p = none) : Rp K (upd H p o) L := R.same (same_new n)
/-- a new list -/
theorem Rp.lst (R : Rp K H L) (n : H p = none) : Rp K (upd H p (.lst xs)) (.top p xs :: L) := by
  obtain ⟨ps, u, r⟩ := R
  exact ⟨_, .cons (p := [.top p xs]) rfl u, r.new n⟩
theorem mono_dp : ∀ H H' : Hp, Same H H' → Dq K H v d → Dq K H' v d := fun _ _ s h => dq_same s d v h
theorem mono_sqt : ∀ H H' : Hp, Same H H' → SqT K H a xs → SqT K H' a xs := fun _ _ s h => sqT_same s h
theorem wo_sqt0 {O : Addr → Prop} (l : ∀ b, O b → ∃ ys : OwnO, H b = some ys.1) (h : SqT K H a xs) : SqT K (wo H O) a xs := by
  rcases h with (h | ⟨u, h⟩) | h
  · refine .inl (.inl ?_)
    rw [wo_out (fun z => by
      obtain ⟨ys, e⟩ := l _ z
      rw [h] at e
      have q := ys.2
      rw [← Option.some.inj e] at q
      exact q)]
    exact h
  · refine .inl (.inr ⟨u, ?_⟩)
    rw [wo_out (fun z => by
      obtain ⟨ys, e⟩ := l _ z
      rw [h] at e
      have q := ys.2
      rw [← Option.some.inj e] at q
      exact q)]
    exact h
  · exact .inr h
theorem wo_sqt {L : List Im} (R : Rf H L) (h : SqT K H a xs) : SqT K (wo H (ows L)) a xs := wo_sqt0 (fun _ z => R.lists z) h
/-- a datum without lists -/
theorem Rp.flat (R : Rp K H L) (h : Dq K H v d) (n : noL d = true) : Rp K H (.sh v d :: L) := by
  obtain ⟨ps, u, r⟩ := R
  exact ⟨_, .cons (p := [_]) rfl u, r.addps mono_dp (dq_noL (fun a xs h => wo_sqt r h) d v n h)⟩
theorem Rp.tup (R : Rp K H L) (n : H p = none) : Rp K (upd H p (.tup xs)) (.ps (fun H => SqT K H p xs) :: L) := by
  obtain ⟨ps, u, r⟩ := R
  have r' := r.same (same_new (o := .tup xs) n)
  exact ⟨_, .cons (p := [_]) rfl u, r'.addps mono_sqt (wo_sqt r' sqT_at)⟩
theorem Rp.int (R : Rp K H L) (i : Int) : Rp K H (.sh (.int i) (.int i) :: L) := R.flat (.int i) rfl
theorem Rp.str (R : Rp K H L) (i : Str) : Rp K H (.sh (.str i) (.str i) :: L) := R.flat (.str i) rfl
theorem Rp.bl (R : Rp K H L) (i : Bool) : Rp K H (.sh (.bl i) (.bool i) :: L) := R.flat (.bl i) rfl
theorem Rp.non (R : Rp K H L) : Rp K H (.sh .non .none :: L) := R.flat .non rfl
/-- an own list is changed -/
theorem Rp.chg (R : Rp K H (.top a xs :: L)) (s : But a H H') (e : H' a = some (.lst ys)) : Rp K H' (.top a ys :: L) := by
  obtain ⟨_, _, h, t, r⟩ := R.inv
  cases h
  exact ⟨_, .cons (p := [.top a ys]) rfl t, r.mut s e⟩
theorem Rp.mut (R : Rp K H (.top a xs :: L)) : Rp K (upd H a (.lst ys)) (.top a ys :: L) := R.chg But.mut upd_same
theorem Rp.chgP {P P' : List V → Prop} (R : Rp K H (.pr P a :: L)) (s : But a H H') (e : H' a = some (.lst ys)) (h : P' ys) : Rp K H' (.pr P' a :: L) := by
  obtain ⟨_, _, ⟨xs, _, h1⟩, t, r⟩ := R.inv
  cases h1
  exact ⟨_, .cons (p := [.top a ys]) ⟨ys, h, rfl⟩ t, r.mut s e⟩
theorem Rp.topAt (R : Rp K H (.top a xs :: L)) : H a = some (.lst xs) := by
  obtain ⟨_, _, h, t, r⟩ := R.inv
  cases h
  exact r.all (.top a xs) List.mem_cons_self
theorem Rp.prAt {P : List V → Prop} (R : Rp K H (.pr P a :: L)) : ∃ xs, H a = some (.lst xs) ∧ P xs := by
  obtain ⟨_, _, ⟨xs, hP, h1⟩, t, r⟩ := R.inv
  cases h1
  exact ⟨xs, r.all (.top a xs) List.mem_cons_self, hP⟩
theorem Rp.psAt {P : Hp → Prop} (R : Rp K H (.ps P :: L)) : P H := by
  obtain ⟨_, _, h, t, r⟩ := R.inv
  cases h
  have k := r.all (.ps P) List.mem_cons_self
  exact k.1 _ _ wo_same k.2
/-- what one owns is shared from here on -/
theorem unf_dp : ∀ (s : Own) {v : V} {d : PyData} {q r : List Im}, Unf K s v d q → Rf H (q ++ r) → Dq K (wo H (ows r)) v d
  | .lf, _, _, _, r, e, R => by
    cases e
    have k := R.all (.ps _) List.mem_cons_self
    exact k.1 _ _ (wo_less fun a ha => ows_sub (fun m hm => List.mem_cons_of_mem _ hm) ha) k.2
  | .li s, v, d, q, r, ⟨a, xs, ds, qs, e1, e2, e3, h⟩, R => by
    subst e1 e2 e3
    have nd := R.nd
    rw [List.cons_append, tops_top, tops_app] at nd
    have na : ¬ ows r a := by
      rintro (z | ⟨F, hF, z⟩ | z)
      · exact (List.nodup_cons.mp nd).1 (List.mem_append_right _ z)
      · obtain ⟨ys, z⟩ := z
        rw [R.fd F (List.mem_append_right _ hF) a (by rw [List.cons_append, tops_top]; exact List.mem_cons_self)] at z; cases z
      · obtain ⟨o, hm⟩ := mem_obs.mp z
        have k := R.all _ (List.mem_append_right _ hm)
        have k2 := R.all (.top a xs) List.mem_cons_self
        have e2 : some (HO.lst xs) = some o := Eq.trans (Eq.symm k2) k.1
        exact k.2.2 xs (Option.some.inj e2).symm
    refine .lst (by rw [wo_out na]; exact R.all (.top a xs) List.mem_cons_self) ?_
    have R' : Rf H (qs ++ r) := R.tail
    clear nd na R
    revert qs
    induction xs generalizing ds with
    | nil => intro qs h R'; cases h; exact .nil
    | cons x xs ih =>
      intro qs h R'
      cases h with
      | cons h1 h2 =>
        refine .cons (unf_dp s h1 ?_) (ih _ _ h2 (R'.sub ?_))
        · rw [List.append_assoc] at R'
          exact R'.sub ((List.sublist_append_right _ _).append_left _)
        · rw [List.append_assoc]
          exact List.sublist_append_right _ _
  | .t2 s1 s2, v, d, q, r, ⟨a, x1, x2, d1, d2, p1, p2, e1, e2, e3, h1, h2⟩, R => by
    subst e1 e2 e3
    have R' : Rf H (p1 ++ p2 ++ r) := R.tail
    have ht := R.all (.ps _) List.mem_cons_self
    refine .tup (wo_sqt (R'.sub (List.sublist_append_right _ _)) (ht.1 _ _ wo_same ht.2)) (.cons (unf_dp s1 h1 (R'.sub ?_)) (.cons (unf_dp s2 h2 (R'.sub ?_)) .nil))
    · rw [List.append_assoc]; exact (List.sublist_append_right _ _).append_left _
    · rw [List.append_assoc]; exact List.sublist_append_right _ _
  | .t3 s1 s2 s3, v, d, q, r, ⟨a, x1, x2, x3, d1, d2, d3, p1, p2, p3, e1, e2, e3, h1, h2, h3⟩, R => by
    subst e1 e2 e3
    have R' : Rf H (p1 ++ (p2 ++ p3) ++ r) := R.tail
    have ht := R.all (.ps _) List.mem_cons_self
    refine .tup (wo_sqt (R'.sub (List.sublist_append_right _ _)) (ht.1 _ _ wo_same ht.2)) (.cons (unf_dp s1 h1 (R'.sub ?_)) (.cons (unf_dp s2 h2 (R'.sub ?_)) (.cons (unf_dp s3 h3 (R'.sub ?_)) .nil)))
    · rw [List.append_assoc]; exact (List.sublist_append_right _ _).append_left _
    · rw [List.append_assoc, List.append_assoc]; exact ((List.sublist_append_right _ _).append_left _).trans (List.sublist_append_right _ _)
    · rw [List.append_assoc, List.append_assoc]; exact (List.sublist_append_right _ _).trans (List.sublist_append_right _ _)
theorem Rp.dp (R : Rp K H (.ow s v d :: L)) : Dq K H v d := by
  obtain ⟨_, _, h, t, r⟩ := R.inv
  exact dq_same wo_same _ _ (unf_dp s h r)
theorem Rp.fz (R : Rp K H (.ow s v d :: L)) : Rp K H (.sh v d :: L) := by
  obtain ⟨_, _, h, t, r⟩ := R.inv
  exact ⟨_, .cons (p := [_]) rfl t, (r.sub (List.sublist_append_right _ _)).addps mono_dp (unf_dp s h r)⟩
/-- a shared datum twice -/
theorem Rp.dup (R : Rp K H (.sh v d :: L)) : Rp K H (.sh v d :: .sh v d :: L) := by
  obtain ⟨_, _, h, t, r⟩ := R.inv
  cases h
  have k := r.all (.ps _) List.mem_cons_self
  exact ⟨_, .cons (p := [_]) rfl (.cons (p := [_]) rfl t), r.addps k.1 k.2⟩
theorem Rp.dupP {P : Hp → Prop} (R : Rp K H (.ps P :: L)) : Rp K H (.ps P :: .ps P :: L) := by
  obtain ⟨_, _, h, t, r⟩ := R.inv
  cases h
  have k := r.all (.ps _) List.mem_cons_self
  exact ⟨_, .cons (p := [_]) rfl (.cons (p := [_]) rfl t), r.addps k.1 k.2⟩
/-- what follows of a fact that stays -/
theorem Rp.imp {P P' : Hp → Prop} (R : Rp K H (.ps P :: L)) (h : ∀ H, P H → P' H) (m : ∀ H H', Same H H' → P' H → P' H') : Rp K H (.ps P' :: .ps P :: L) := by
  obtain ⟨_, _, h1, t, r⟩ := R.inv
  cases h1
  have k := r.all (.ps _) List.mem_cons_self
  exact ⟨_, .cons (p := [_]) rfl (.cons (p := [_]) rfl t), r.addps m (h _ k.2)⟩
theorem Rp.impS {P' : Hp → Prop} (R : Rp K H (.sh v d :: L)) (h : ∀ H, Dq K H v d → P' H) (m : ∀ H H', Same H H' → P' H → P' H') : Rp K H (.ps P' :: .sh v d :: L) := by
  obtain ⟨_, _, h1, t, r⟩ := R.inv
  cases h1
  have k := r.all (.ps _) List.mem_cons_self
  exact ⟨_, .cons (p := [_]) rfl (.cons (p := [_]) rfl t), r.addps m (h _ k.2)⟩
theorem Rp.toSh (R : Rp K H (.ps (fun H => Dq K H v d) :: L)) : Rp K H (.sh v d :: L) := by
  obtain ⟨_, _, h, t, r⟩ := R.inv
  cases h
  exact ⟨_, .cons (p := [_]) rfl t, r⟩
end
/-! ### what stands side by side: taken apart, put together, chosen -/
def each (s : Own) (xs : List V) (ds : List PyData) : List It := List.zipWith (fun x d => It.ow s x d) xs ds
section
variable {K : PySem.W.Frag} {H H' : Hp} {L L' A B : List It} {a p : Addr} {xs ys : List V} {o : HO} {v x y z : V} {d e f : PyData} {ds : List PyData} {s s1 s2 s3 : Own}
theorem All3.len {P : V → PyData → List Im → Prop} : ∀ {xs : List V} {ds : List PyData} {ps : List Im}, All3 P xs ds ps → xs.length = ds.length
  | _, _, _, .nil => rfl
  | _, _, _, .cons _ h => by rw [List.length_cons, List.length_cons, All3.len h]
theorem un_each : ∀ {xs : List V} {ds : List PyData} {ps : List Im}, All3 (Unf K s) xs ds ps → UnIs K (each s xs ds) ps
  | _, _, _, .nil => .nil
  | _, _, _, .cons h t => .cons h (un_each t)
theorem each_un : ∀ {xs : List V} {ds : List PyData} {ps : List Im}, xs.length = ds.length → UnIs K (each s xs ds) ps → All3 (Unf K s) xs ds ps
  | [], [], _, _, h => by cases h; exact .nil
  | _ :: _, _ :: _, _, l, h => by
    cases h with
    | cons h1 h2 => exact .cons h1 (each_un (by simpa using l) h2)
  | [], _ :: _, _, l, _ => by simp at l
  | _ :: _, [], _, l, _ => by simp at l
theorem Rp.put (R : Rp K H (.top a xs :: (each s xs ds ++ L))) (l : xs.length = ds.length) : Rp K H (.ow (.li s) (.ref a) (.list ds) :: L) := by
  obtain ⟨_, _, h, t, r⟩ := R.inv
  cases h
  obtain ⟨p, q, rfl, h1, h2⟩ := t.split
  exact ⟨_, .cons (p := .top a xs :: p) ⟨a, xs, ds, p, rfl, rfl, rfl, each_un l h1⟩ h2, r⟩
theorem Rp.take (R : Rp K H (.ow (.li s) v (.list ds) :: L)) : ∃ a xs, v = .ref a ∧ xs.length = ds.length ∧ Rp K H (.top a xs :: (each s xs ds ++ L)) := by
  obtain ⟨_, _, ⟨a, xs, ds', qs, e1, e2, e3, h⟩, t, r⟩ := R.inv
  cases e2
  subst e1 e3
  exact ⟨a, xs, rfl, h.len, _, .cons (p := [.top a xs]) rfl ((un_each h).app t), r⟩
theorem Rp.put2 (R : Rp K H (.ps (fun H => SqT K H a [x, y]) :: .ow s1 x d :: .ow s2 y e :: L)) : Rp K H (.ow (.t2 s1 s2) (.ref a) (.tuple [d, e]) :: L) := by
  obtain ⟨_, _, h, t1, r⟩ := R.inv
  obtain ⟨p1, _, rfl, h1, t2⟩ := t1.inv
  obtain ⟨p2, ps, rfl, h2, t⟩ := t2.inv
  cases h
  refine ⟨_, .cons (p := .ps (fun H => SqT K H a [x, y]) :: (p1 ++ p2)) ⟨a, x, y, d, e, p1, p2, rfl, rfl, rfl, h1, h2⟩ t, ?_⟩
  rw [List.cons_append, List.append_assoc]
  exact r
theorem Rp.take2 (R : Rp K H (.ow (.t2 s1 s2) v (.tuple [d, e]) :: L)) : ∃ a x y, v = .ref a ∧ Rp K H (.ps (fun H => SqT K H a [x, y]) :: .ow s1 x d :: .ow s2 y e :: L) := by
  obtain ⟨_, _, ⟨a, x1, x2, d1, d2, p1, p2, e1, e2, e3, h1, h2⟩, t, r⟩ := R.inv
  cases e2
  subst e1 e3
  refine ⟨a, x1, x2, rfl, _, .cons (p := [_]) rfl (.cons h1 (.cons h2 t)), ?_⟩
  rw [List.cons_append, List.append_assoc] at r
  exact r
theorem Rp.put3 (R : Rp K H (.ps (fun H => SqT K H a [x, y, z]) :: .ow s1 x d :: .ow s2 y e :: .ow s3 z f :: L)) : Rp K H (.ow (.t3 s1 s2 s3) (.ref a) (.tuple [d, e, f]) :: L) := by
  obtain ⟨_, _, h, t1, r⟩ := R.inv
  obtain ⟨p1, _, rfl, h1, t2⟩ := t1.inv
  obtain ⟨p2, _, rfl, h2, t3⟩ := t2.inv
  obtain ⟨p3, _, rfl, h3, t⟩ := t3.inv
  cases h
  refine ⟨_, .cons (p := .ps (fun H => SqT K H a [x, y, z]) :: (p1 ++ (p2 ++ p3))) ⟨a, x, y, z, d, e, f, p1, p2, p3, rfl, rfl, rfl, h1, h2, h3⟩ t, ?_⟩
  rw [List.cons_append, List.append_assoc, List.append_assoc]
  exact r
theorem Rp.take3 (R : Rp K H (.ow (.t3 s1 s2 s3) v (.tuple [d, e, f]) :: L)) : ∃ a x y z, v = .ref a ∧ Rp K H (.ps (fun H => SqT K H a [x, y, z]) :: .ow s1 x d :: .ow s2 y e :: .ow s3 z f :: L) := by
  obtain ⟨_, _, ⟨a, x1, x2, x3, d1, d2, d3, p1, p2, p3, e1, e2, e3, h1, h2, h3⟩, t, r⟩ := R.inv
  cases e2
  subst e1 e3
  refine ⟨a, x1, x2, x3, rfl, _, .cons (p := [_]) rfl (.cons h1 (.cons h2 (.cons h3 t))), ?_⟩
  rw [List.cons_append, List.append_assoc, List.append_assoc] at r
  exact r
/-- a new list of things one owns -/
theorem Rp.mkL (R : Rp K H (each s xs ds ++ L)) (l : xs.length = ds.length) (n : H p = none) : Rp K (upd H p (.lst xs)) (.ow (.li s) (.ref p) (.list ds) :: L) := (R.lst n).put l
theorem Rp.mkL0 (R : Rp K H L) (s : Own) (n : H p = none) : Rp K (upd H p (.lst [])) (.ow (.li s) (.ref p) (.list []) :: L) := Rp.mkL (xs := []) (ds := []) R rfl n
theorem Rp.mkL1 (R : Rp K H (.ow s x d :: L)) (n : H p = none) : Rp K (upd H p (.lst [x])) (.ow (.li s) (.ref p) (.list [d]) :: L) := Rp.mkL (xs := [x]) (ds := [d]) R rfl n
theorem Rp.mkL2 (R : Rp K H (.ow s x d :: .ow s y e :: L)) (n : H p = none) : Rp K (upd H p (.lst [x, y])) (.ow (.li s) (.ref p) (.list [d, e]) :: L) := Rp.mkL (xs := [x, y]) (ds := [d, e]) R rfl n
theorem Rp.mk2 (R : Rp K H (.ow s1 x d :: .ow s2 y e :: L)) (n : H p = none) : Rp K (upd H p (.tup [x, y])) (.ow (.t2 s1 s2) (.ref p) (.tuple [d, e]) :: L) := (R.tup n).put2
theorem Rp.mk3 (R : Rp K H (.ow s1 x d :: .ow s2 y e :: .ow s3 z f :: L)) (n : H p = none) : Rp K (upd H p (.tup [x, y, z])) (.ow (.t3 s1 s2 s3) (.ref p) (.tuple [d, e, f]) :: L) := (R.tup n).put3
/-- a list of ints -/
theorem each_ints : ∀ {ns : List Int} {ps : List Im}, Rf H ps → ∃ qs, UnIs K (each .lf (ns.map V.int) (ns.map PyData.int)) qs ∧ Rf H (qs ++ ps)
  | [], ps, r => ⟨[], .nil, r⟩
  | n :: ns, ps, r => by
    obtain ⟨qs, h1, h2⟩ := each_ints (ns := ns) r
    exact ⟨_, .cons (p := [_]) rfl h1, h2.addps mono_dp (.int n)⟩
theorem Rp.ints (R : Rp K H L) (ns : List Int) : Rp K H (each .lf (ns.map V.int) (ns.map PyData.int) ++ L) := by
  obtain ⟨ps, u, r⟩ := R
  obtain ⟨qs, h1, h2⟩ := each_ints (K := K) (ns := ns) r
  exact ⟨_, h1.app u, h2⟩
theorem Rp.il {ns : List Int} (R : Rp K H (.top a (ns.map V.int) :: L)) : Rp K H (.ow (.li .lf) (.ref a) (IL ns) :: L) := by
  obtain ⟨ps, u, r⟩ := R.tail
  have R2 := R.ints ns
  have R3 : Rp K H (.top a (ns.map V.int) :: (each .lf (ns.map V.int) (ns.map PyData.int) ++ L)) := R2.perm List.perm_middle
  exact Rp.put R3 (by rw [List.length_map, List.length_map])
theorem Rp.mkI {ns : List Int} (R : Rp K H L) (n : H p = none) : Rp K (upd H p (.lst (ns.map V.int))) (.ow (.li .lf) (.ref p) (IL ns) :: L) := (R.lst n).il
theorem each_int_eq : ∀ {xs : List V} {ns : List Int} {H : Hp}, xs.length = ns.length → Rp K H (each .lf xs (ns.map PyData.int) ++ L) → xs = ns.map V.int
  | [], [], _, _, _ => rfl
  | x :: xs, n :: ns, H, l, R => by
    have h : Dq K H x (.int n) := Rp.dp (L := each .lf xs (ns.map PyData.int) ++ L) R
    cases h
    rw [each_int_eq (xs := xs) (ns := ns) (by simpa using l) (Rp.tail R)]; rfl
  | [], _ :: _, _, l, _ => by simp at l
  | _ :: _, [], _, l, _ => by simp at l
theorem Rp.dropL : ∀ {A : List It}, Rp K H (A ++ L) → Rp K H L
  | [], R => R
  | _ :: _, R => Rp.dropL (Rp.tail R)
theorem Rp.ilTop {ns : List Int} (R : Rp K H (.ow (.li .lf) v (IL ns) :: L)) : ∃ a, v = .ref a ∧ Rp K H (.top a (ns.map V.int) :: L) := by
  obtain ⟨a, xs, rfl, l, R⟩ := R.take
  obtain rfl := each_int_eq (by simpa using l) R.tail
  exact ⟨a, rfl, Rp.dropL (A := each .lf (ns.map V.int) (ns.map PyData.int)) (R.perm List.perm_middle.symm)⟩
/-! choosing -/
inductive Sel : It → List It → List It → Prop
  | here {m : It} {L : List It} : Sel m (m :: L) L
  | there {m x : It} {L L' : List It} : Sel m L L' → Sel m (x :: L) (x :: L')
theorem Sel.perm {m : It} : ∀ {L L' : List It}, Sel m L L' → L.Perm (m :: L')
  | _, _, .here => .refl _
  | _, _, .there h => ((Sel.perm h).cons _).trans (.swap _ _ _)
theorem Sel.app {m : It} : ∀ {A L L' : List It}, Sel m L L' → Sel m (A ++ L) (A ++ L')
  | [], _, _, h => h
  | _ :: _, _, _, h => .there (Sel.app h)
theorem Rp.sel {m : It} (h : Sel m L L') (R : Rp K H L) : Rp K H (m :: L') := R.perm h.perm
inductive Wk : List It → List It → Prop
  | refl {L : List It} : Wk L L
  | take {m : It} {L L1 L' : List It} : Sel m L L1 → Wk L1 L' → Wk L (m :: L')
  | dup {v : V} {d : PyData} {L L1 L' : List It} : Sel (.sh v d) L L1 → Wk L L' → Wk L (.sh v d :: L')
  | dupP {P : Hp → Prop} {L L1 L' : List It} : Sel (.ps P) L L1 → Wk L L' → Wk L (.ps P :: L')
  | drop {m : It} {L L' : List It} : Wk L L' → Wk (m :: L) L'
  | dropA {A L L' : List It} : Wk L L' → Wk (A ++ L) L'
theorem Rp.wkA (w : Wk L L') : ∀ {A : List It}, Rp K H (A ++ L) → Rp K H (A ++ L') := by
  induction w with
  | refl => intro A R; exact R
  | @take m L L1 L' h _ ih =>
    intro A R
    have R1 : Rp K H (A ++ [m] ++ L1) := R.perm ((h.perm.append_left A).trans (by rw [List.append_assoc]; exact .refl _))
    have := ih R1
    rwa [List.append_assoc] at this
  | @dup v d L L1 L' h _ ih =>
    intro A R
    have R1 : Rp K H (.sh v d :: (A ++ L1)) := R.perm ((h.perm.append_left A).trans List.perm_middle)
    have R2 : Rp K H (A ++ [.sh v d] ++ L) := R1.dup.perm (by
      rw [List.append_assoc]
      refine (List.Perm.cons _ (List.perm_middle.symm.trans (h.perm.symm.append_left A))).trans ?_
      exact List.perm_middle.symm)
    have := ih R2
    rwa [List.append_assoc] at this
  | @dupP P L L1 L' h _ ih =>
    intro A R
    have R1 : Rp K H (.ps P :: (A ++ L1)) := R.perm ((h.perm.append_left A).trans List.perm_middle)
    have R2 : Rp K H (A ++ [.ps P] ++ L) := R1.dupP.perm (by
      rw [List.append_assoc]
      refine (List.Perm.cons _ (List.perm_middle.symm.trans (h.perm.symm.append_left A))).trans ?_
      exact List.perm_middle.symm)
    have := ih R2
    rwa [List.append_assoc] at this
  | @drop m L L' _ ih =>
    intro A R
    exact ih (Rp.tail (R.perm List.perm_middle))
  | @dropA B L L' _ ih =>
    intro A R
    refine ih (Rp.dropL (A := B) (R.perm ?_))
    rw [← List.append_assoc, ← List.append_assoc]
    exact List.perm_append_comm.append_right _
theorem Rp.wk (R : Rp K H L) (w : Wk L L') : Rp K H L' := Rp.wkA w (A := []) R
theorem sel_of_mem {m : It} : ∀ {L : List It}, m ∈ L → ∃ L', Sel m L L'
  | _ :: _, .head _ => ⟨_, .here⟩
  | _ :: _, .tail _ h => by
    obtain ⟨L', h'⟩ := sel_of_mem h
    exact ⟨_, .there h'⟩
theorem Rp.dpOf (R : Rp K H L) (h : It.ow s v d ∈ L) : Dq K H v d := by
  obtain ⟨L', h'⟩ := sel_of_mem h
  exact (R.sel h').dp
theorem Rp.psOf {P : Hp → Prop} (R : Rp K H L) (h : It.ps P ∈ L) : P H := by
  obtain ⟨L', h'⟩ := sel_of_mem h
  exact (R.sel h').psAt
theorem Rp.topOf (R : Rp K H L) (h : It.top a xs ∈ L) : H a = some (.lst xs) := by
  obtain ⟨L', h'⟩ := sel_of_mem h
  exact (R.sel h').topAt
theorem Rp.shM (R : Rp K H L) (h : It.sh v d ∈ L) : Rp K H (.sh v d :: L) := by
  obtain ⟨L', h'⟩ := sel_of_mem h
  exact R.wk (.dup h' .refl)
theorem Rp.psM {P : Hp → Prop} (R : Rp K H L) (h : It.ps P ∈ L) : Rp K H (.ps P :: L) := by
  obtain ⟨L', h'⟩ := sel_of_mem h
  exact R.wk (.dupP h' .refl)
theorem Rp.psI {P P' : Hp → Prop} (R : Rp K H L) (h : It.ps P ∈ L) (i : ∀ H, P H → P' H) (m : ∀ H H', Same H H' → P' H → P' H') : Rp K H (.ps P' :: L) :=
  ((R.psM h).imp i m).wk (.take .here (.drop .refl))
theorem Rp.shI {P' : Hp → Prop} (R : Rp K H L) (h : It.sh v d ∈ L) (i : ∀ H, Dq K H v d → P' H) (m : ∀ H H', Same H H' → P' H → P' H') : Rp K H (.ps P' :: L) :=
  ((R.shM h).impS i m).wk (.take .here (.drop .refl))
/-- a shared list seen: its items with their data -/
def Sv (K : PySem.W.Frag) (a : Addr) (xs : List V) (ds : List PyData) (H : Hp) : Prop := H a = some (.lst xs) ∧ DqAll K H xs ds
def Tv (K : PySem.W.Frag) (a : Addr) (xs : List V) (ds : List PyData) (H : Hp) : Prop := SqT K H a xs ∧ DqAll K H xs ds
theorem sv_mono : ∀ H H' : Hp, Same H H' → Sv K a xs ds H → Sv K a xs ds H' := fun _ _ s h => ⟨s _ _ h.1, dqAll_same s _ _ h.2⟩
theorem tv_mono : ∀ H H' : Hp, Same H H' → Tv K a xs ds H → Tv K a xs ds H' := fun _ _ s h => ⟨sqT_same s h.1, dqAll_same s _ _ h.2⟩
theorem Rp.sv (R : Rp K H L) (h : It.sh v (.list ds) ∈ L) : ∃ a xs, v = .ref a ∧ xs.length = ds.length ∧ H a = some (.lst xs) ∧ Rp K H (.ps (Sv K a xs ds) :: L) := by
  obtain ⟨L', h'⟩ := sel_of_mem h
  obtain ⟨_, _, h1, t, r⟩ := (R.shM h).inv
  cases h1
  have k := Rf.psK r
  obtain ⟨a, xs, rfl, h3, h4⟩ := Dq.lstI k.2
  exact ⟨a, xs, rfl, DqAll.len h4, wo_same _ _ h3, _, .cons (p := [_]) rfl t, r.tail.addps sv_mono ⟨h3, h4⟩⟩
theorem Rp.tv (R : Rp K H L) (h : It.sh v (.tuple ds) ∈ L) : ∃ a xs, v = .ref a ∧ xs.length = ds.length ∧ SqT K H a xs ∧ Rp K H (.ps (Tv K a xs ds) :: L) := by
  obtain ⟨L', h'⟩ := sel_of_mem h
  obtain ⟨_, _, h1, t, r⟩ := (R.shM h).inv
  cases h1
  have k := Rf.psK r
  obtain ⟨a, xs, rfl, h3, h4⟩ := Dq.tupI k.2
  exact ⟨a, xs, rfl, DqAll.len h4, sqT_same wo_same h3, _, .cons (p := [_]) rfl t, r.tail.addps tv_mono ⟨h3, h4⟩⟩
theorem Rp.svAt {i : Nat} (R : Rp K H L) (h : It.ps (Sv K a xs ds) ∈ L) (hx : xs[i]? = some x) (hd : ds[i]? = some d) : Rp K H (.sh x d :: L) := by
  refine Rp.toSh (R.psI h (fun H hh => ?_) mono_dp)
  obtain ⟨e, h1, h2⟩ := DqAll.got hh.2 hx
  rw [hd] at h1; cases h1
  exact h2
theorem Rp.tvAt {i : Nat} (R : Rp K H L) (h : It.ps (Tv K a xs ds) ∈ L) (hx : xs[i]? = some x) (hd : ds[i]? = some d) : Rp K H (.sh x d :: L) := by
  refine Rp.toSh (R.psI h (fun H hh => ?_) mono_dp)
  obtain ⟨e, h1, h2⟩ := DqAll.got hh.2 hx
  rw [hd] at h1; cases h1
  exact h2
/-- an item of a shared list -/
theorem Rp.shL {i : Nat} (R : Rp K H L) (h : It.sh v (.list ds) ∈ L) (hd : ds[i]? = some d) : ∃ a xs x, v = .ref a ∧ H a = some (.lst xs) ∧ xs[i]? = some x ∧ Rp K H (.sh x d :: L) := by
  obtain ⟨a, xs, rfl, l, hs, R'⟩ := R.sv h
  have hi : i < xs.length := by rw [l]; exact (List.getElem?_eq_some_iff.mp hd).1
  have hx : xs[i]? = some xs[i] := List.getElem?_eq_getElem hi
  exact ⟨a, xs, _, rfl, hs, hx, (R'.svAt List.mem_cons_self hx hd).wk (.take .here (.drop .refl))⟩
theorem Rp.shT {i : Nat} (R : Rp K H L) (h : It.sh v (.tuple ds) ∈ L) (hd : ds[i]? = some d) : ∃ a xs x, v = .ref a ∧ SqT K H a xs ∧ xs[i]? = some x ∧ Rp K H (.sh x d :: L) := by
  obtain ⟨a, xs, rfl, l, hs, R'⟩ := R.tv h
  have hi : i < xs.length := by rw [l]; exact (List.getElem?_eq_some_iff.mp hd).1
  have hx : xs[i]? = some xs[i] := List.getElem?_eq_getElem hi
  exact ⟨a, xs, _, rfl, hs, hx, (R'.tvAt List.mem_cons_self hx hd).wk (.take .here (.drop .refl))⟩
/-! beginnings and ends -/
/-- new: all its lists are new, each one of its own -/
def Nw (K : PySem.W.Frag) (H H' : Hp) (s : Own) (v : V) (d : PyData) : Prop := ∃ ps, Unf K s v d ps ∧ Rf H' ps ∧ ∀ a ∈ tops ps, H a = none
/-- the lists of a heap -/
def oldL (H : Hp) : Addr → Prop := fun a => ∃ xs, H a = some (.lst xs)
/-- new altogether: it does not hang on any list that stood -/
def Nf (K : PySem.W.Frag) (H H' : Hp) (s : Own) (v : V) (d : PyData) : Prop := ∃ ps, Unf K s v d ps ∧ Rf H' ps ∧ (∀ a ∈ tops ps, H a = none) ∧ ∀ P, Im.ps P ∈ ps → P (wo H' fun a => a ∈ tops ps ∨ oldL H a)
theorem mono_same {H0 : Hp} : ∀ H H' : Hp, Same H H' → Same H0 H → Same H0 H' := fun _ _ s h => h.trans s
theorem ows_nil {a : Addr} : ¬ ows [] a := by
  rintro (z | ⟨F, hF, _⟩ | z)
  · cases z
  · cases hF
  · cases z
theorem Rp.start : Rp K H [.ps (Same H)] := ⟨_, .cons (p := [_]) rfl .nil, Rf.addps (L := []) mono_same (by rw [wo_no fun _ => ows_nil]; exact Same.refl _) Rf.nil⟩
/-- with nothing of one's own all that stands is shared -/
theorem Rp.argS (R : Rp K H L) (n : ∀ ps, UnIs K L ps → ∀ a, ¬ ows ps a) (h : Dq K H v d) : Rp K H (.sh v d :: L) := by
  obtain ⟨ps, u, r⟩ := R
  exact ⟨_, .cons (p := [_]) rfl u, r.addps mono_dp (by show Dq K (wo H (ows ps)) v d; rw [wo_no (n ps u)]; exact h)⟩
theorem no_sh {L : List It} (n : ∀ ps, UnIs K L ps → ∀ a, ¬ ows ps a) : ∀ ps, UnIs K (.sh v d :: L) ps → ∀ a, ¬ ows ps a := fun ps u a h => by
  obtain ⟨p, q, rfl, h1, h2⟩ := u.inv
  cases h1
  exact n q h2 a (ows_ps h)
theorem no_ps {P : Hp → Prop} {L : List It} (n : ∀ ps, UnIs K L ps → ∀ a, ¬ ows ps a) : ∀ ps, UnIs K (.ps P :: L) ps → ∀ a, ¬ ows ps a := fun ps u a h => by
  obtain ⟨p, q, rfl, h1, h2⟩ := u.inv
  cases h1
  exact n q h2 a (ows_ps h)
theorem no_nil : ∀ ps, UnIs K [] ps → ∀ a, ¬ ows ps a := fun ps u a h => by
  cases u
  exact ows_nil h
/-- from arguments -/
theorem Rp.arg1 (h : Dq K H v d) : Rp K H [.sh v d, .ps (Same H)] := Rp.argS Rp.start (no_ps no_nil) h
theorem Rp.arg2 (h : Dq K H v d) (h2 : Dq K H x e) : Rp K H [.sh v d, .sh x e, .ps (Same H)] := Rp.argS (Rp.arg1 h2) (no_sh (no_ps no_nil)) h
theorem Rp.arg3 (h : Dq K H v d) (h2 : Dq K H x e) (h3 : Dq K H y f) : Rp K H [.sh v d, .sh x e, .sh y f, .ps (Same H)] := Rp.argS (Rp.arg2 h2 h3) (no_sh (no_sh (no_ps no_nil))) h
theorem Rp.out (R : Rp K H' (.ow s v d :: .ps (Same H) :: L)) : Same H H' ∧ Nw K H H' s v d := by
  obtain ⟨p, _, h, t1, r⟩ := R.inv
  obtain ⟨_, ps, rfl, h2, t⟩ := t1.inv
  cases h2
  have k := r.all (.ps (Same H)) (List.mem_append_right _ List.mem_cons_self)
  refine ⟨k.2.trans wo_same, p, h, r.sub (List.sublist_append_left _ _), fun a ha => ?_⟩
  cases e : H a with
  | none => rfl
  | some o =>
    have := k.2 _ _ e
    rw [wo_in (ows_app.mpr (.inl (.inl ha)))] at this
    cases this
/-- the lists that stand, but for one -/
noncomputable def oldF (H : Hp) (p : Option Addr) : Addr → Option (List V) := fun a => @ite _ (some a = p) (Classical.propDecidable _) none (match H a with | some (.lst xs) => some xs | _ => none)
theorem oldF_some {q : Option Addr} (h : oldF H q a = some xs) : some a ≠ q ∧ H a = some (.lst xs) := by
  unfold oldF at h
  by_cases z : some a = q
  · rw [if_pos z] at h; cases h
  · rw [if_neg z] at h
    refine ⟨z, ?_⟩
    cases e : H a with
    | none => rw [e] at h; cases h
    | some o => cases o <;> rw [e] at h <;> first | (cases h; rfl) | cases h
theorem oldF_of {q : Option Addr} (z : some a ≠ q) (e : H a = some (.lst xs)) : oldF H q a = some xs := by
  unfold oldF
  rw [if_neg z, e]
/-- a changed list (the pool) as argument; all else that stands is left alone -/
theorem Rp.startP {P : List V → Prop} (e : H p = some (.lst xs)) (h : P xs) : Rp K H [.pr P p, .ps (Same (wo H (oldL H))), .fr (oldF H (some p))] := by
  refine ⟨_, .cons (p := [.top p xs]) ⟨xs, h, rfl⟩ (.cons (p := [_]) rfl (.cons (p := [_]) rfl .nil)), ⟨by show [p].Nodup; simp, fun F hF a ha => ?_, fun m hm => ?_, List.nodup_nil⟩⟩
  · have ha : a = p := List.mem_singleton.mp ha
    have hF : Im.fr F ∈ [Im.top p xs, .ps (Same (wo H (oldL H))), .fr (oldF H (some p))] := hF
    simp only [List.mem_cons, reduceCtorEq, List.not_mem_nil, or_false, false_or, Im.fr.injEq] at hF
    subst hF
    cases q : oldF H (some p) a with
    | none => rfl
    | some ys => exact ((oldF_some q).1 (by rw [ha])).elim
  · have hm : m ∈ [Im.top p xs, .ps (Same (wo H (oldL H))), .fr (oldF H (some p))] := hm
    have ow : ∀ a, ows [Im.top p xs, .ps (Same (wo H (oldL H))), .fr (oldF H (some p))] a → oldL H a := fun a ha => by
      rcases ows_top ha with z | z
      · rw [z]; exact ⟨_, e⟩
      · rcases ows_ps z with z | ⟨F, hF, ys, z⟩ | z
        · cases z
        · simp only [List.mem_cons, List.not_mem_nil, or_false, Im.fr.injEq] at hF
          subst hF
          exact ⟨_, (oldF_some z).2⟩
        · cases z
    rcases List.mem_cons.mp hm with rfl | hm
    · exact e
    rcases List.mem_cons.mp hm with rfl | hm
    · exact ⟨mono_same, wo_less ow⟩
    · cases List.mem_singleton.mp hm
      exact fun a ys ha => (oldF_some ha).2
/-- no argument that is a list; all that stands is left alone -/
theorem Rp.startF : Rp K H [.ps (Same (wo H (oldL H))), .fr (oldF H none)] := by
  refine ⟨_, .cons (p := [_]) rfl (.cons (p := [_]) rfl .nil), ⟨by show ([] : List Addr).Nodup; simp, fun F hF a ha => (by cases ha), fun m hm => ?_, List.nodup_nil⟩⟩
  have hm : m ∈ [Im.ps (Same (wo H (oldL H))), .fr (oldF H none)] := hm
  have ow : ∀ a, ows [Im.ps (Same (wo H (oldL H))), .fr (oldF H none)] a → oldL H a := fun a ha => by
    rcases ows_ps ha with z | ⟨F, hF, ys, z⟩ | z
    · cases z
    · simp only [List.mem_cons, List.not_mem_nil, or_false, Im.fr.injEq] at hF
      subst hF
      exact ⟨_, (oldF_some z).2⟩
    · cases z
  rcases List.mem_cons.mp hm with rfl | hm
  · exact ⟨mono_same, wo_less ow⟩
  · cases List.mem_singleton.mp hm
    exact fun a ys ha => (oldF_some ha).2
theorem unf_nofr : ∀ (s : Own) {v : V} {d : PyData} {q : List Im}, Unf K s v d q → ∀ F, Im.fr F ∉ q
  | .lf, _, _, _, e, F => by cases e; simp
  | .li s, v, d, q, ⟨a, xs, ds, qs, e1, e2, e3, h⟩, F => by
    subst e1 e2 e3
    intro z
    replace z : Im.fr F ∈ qs := by
      rcases List.mem_cons.mp z with z | z
      · cases z
      · exact z
    induction h with
    | nil => cases z
    | cons h1 _ ih =>
      rcases List.mem_append.mp z with z | z
      · exact unf_nofr s h1 F z
      · exact ih z
  | .t2 s1 s2, v, d, q, ⟨a, x1, x2, d1, d2, p1, p2, e1, e2, e3, h1, h2⟩, F => by
    subst e1 e2 e3
    intro z
    rcases List.mem_cons.mp z with z | z
    · cases z
    · rcases List.mem_append.mp z with z | z
      · exact unf_nofr s1 h1 F z
      · exact unf_nofr s2 h2 F z
  | .t3 s1 s2 s3, v, d, q, ⟨a, x1, x2, x3, d1, d2, d3, p1, p2, p3, e1, e2, e3, h1, h2, h3⟩, F => by
    subst e1 e2 e3
    intro z
    rcases List.mem_cons.mp z with z | z
    · cases z
    · rcases List.mem_append.mp z with z | z
      · exact unf_nofr s1 h1 F z
      · rcases List.mem_append.mp z with z | z
        · exact unf_nofr s2 h2 F z
        · exact unf_nofr s3 h3 F z
theorem unf_noob : ∀ (s : Own) {v : V} {d : PyData} {q : List Im}, Unf K s v d q → ∀ a o, Im.ob a o ∉ q
  | .lf, _, _, _, e, a0, o => by cases e; simp
  | .li s, v, d, q, ⟨a, xs, ds, qs, e1, e2, e3, h⟩, a0, o => by
    subst e1 e2 e3
    intro z
    replace z : Im.ob a0 o ∈ qs := by
      rcases List.mem_cons.mp z with z | z
      · cases z
      · exact z
    induction h with
    | nil => cases z
    | cons h1 _ ih =>
      rcases List.mem_append.mp z with z | z
      · exact unf_noob s h1 a0 o z
      · exact ih z
  | .t2 s1 s2, v, d, q, ⟨a, x1, x2, d1, d2, p1, p2, e1, e2, e3, h1, h2⟩, a0, o => by
    subst e1 e2 e3
    intro z
    rcases List.mem_cons.mp z with z | z
    · cases z
    · rcases List.mem_append.mp z with z | z
      · exact unf_noob s1 h1 a0 o z
      · exact unf_noob s2 h2 a0 o z
  | .t3 s1 s2 s3, v, d, q, ⟨a, x1, x2, x3, d1, d2, d3, p1, p2, p3, e1, e2, e3, h1, h2, h3⟩, a0, o => by
    subst e1 e2 e3
    intro z
    rcases List.mem_cons.mp z with z | z
    · cases z
    · rcases List.mem_append.mp z with z | z
      · exact unf_noob s1 h1 a0 o z
      · rcases List.mem_append.mp z with z | z
        · exact unf_noob s2 h2 a0 o z
        · exact unf_noob s3 h3 a0 o z
theorem unf_obs {s : Own} {v : V} {d : PyData} {q : List Im} (h : Unf K s v d q) : obs q = [] := by
  refine List.eq_nil_iff_forall_not_mem.mpr fun a ha => ?_
  obtain ⟨o, hm⟩ := mem_obs.mp ha
  exact unf_noob s h a o hm
theorem but_old {q : Option Addr} (hF : ∀ b ys, oldF H q b = some ys → H' b = some (.lst ys)) (hS : Same (wo H (oldL H)) H') : ∀ b o, some b ≠ q → H b = some o → H' b = some o := fun b o n e => by
  cases o with
  | lst ys => exact hF b ys (oldF_of n e)
  | _ => exact hS b _ (by rw [wo_out (by rintro ⟨ys, z⟩; rw [e] at z; cases z)]; exact e)
theorem Rp.nf (R : Rp K H' (.ow s v d :: L)) (hold : ∀ ps, UnIs K L ps → ∀ a, oldL H a → ows ps a) (hn : ∀ a xs, H' a = some (.lst xs) → ¬ oldL H a → H a = none) : Nf K H H' s v d := by
  obtain ⟨p, q, h, t, r⟩ := R.inv
  refine ⟨p, h, r.sub (List.sublist_append_left _ _), fun a ha => ?_, fun P hP => ?_⟩
  · obtain ⟨xs, hm⟩ := mem_tops.mp ha
    refine hn a xs (r.all _ (List.mem_append_left _ hm)) fun z => ?_
    rcases hold q t a z with z | ⟨F, hF, ys, z⟩ | z
    · have nd := r.nd
      rw [tops_app] at nd
      exact (List.nodup_append.mp nd).2.2 a ha a z rfl
    · rw [r.fd F (List.mem_append_right _ hF) a (by rw [tops_app]; exact List.mem_append_left _ ha)] at z; cases z
    · obtain ⟨o, hm2⟩ := mem_obs.mp z
      have k := r.all _ (List.mem_append_right _ hm2)
      have k2 := r.all _ (List.mem_append_left _ hm)
      have e2 : some (HO.lst xs) = some o := Eq.trans (Eq.symm k2) k.1
      exact k.2.2 xs (Option.some.inj e2).symm
  · have k := r.all (.ps P) (List.mem_append_left _ hP)
    refine k.1 _ _ (wo_less fun a ha => ?_) k.2
    rcases ha with z | z
    · exact ows_app.mpr (.inl (.inl z))
    · exact ows_app.mpr (.inr (hold q t a z))
theorem new_or {q : Option Addr} (b : ∀ b o, some b ≠ q → H b = some o → H' b = some o) (hq : ∀ p, q = some p → oldL H p) {a : Addr} {xs : List V} (e : H' a = some (.lst xs)) (n : ¬ oldL H a) : H a = none := by
  cases z : H a with
  | none => rfl
  | some o =>
    have nq : some a ≠ q := fun h => n (hq a h.symm)
    have := b a o nq z
    rw [e] at this; cases this
    exact (n ⟨xs, z⟩).elim
theorem Rp.outF (R : Rp K H' (.ow s v d :: .ps (Same (wo H (oldL H))) :: .fr (oldF H none) :: L)) : Same H H' ∧ Nf K H H' s v d := by
  have R2 := R.tail
  have hS : Same (wo H (oldL H)) H' := R2.psAt
  obtain ⟨p, q, h, t, r⟩ := R2.tail.inv
  cases h
  have b := but_old (fun b ys z => r.all _ List.mem_cons_self b ys z) hS
  have sm : Same H H' := fun x o e => b x o (by simp) e
  refine ⟨sm, R.nf (fun ps u a ha => ?_) fun a xs e n => new_or b (by simp) e n⟩
  obtain ⟨p1, q1, rfl, h1, t1⟩ := u.inv
  obtain ⟨p2, q2, rfl, h2, t2⟩ := t1.inv
  cases h2
  obtain ⟨xs, ha⟩ := ha
  exact ows_app.mpr (.inr (.inr (.inl ⟨_, List.mem_cons_self, xs, oldF_of (by simp) ha⟩)))
theorem Rp.outP {P : List V → Prop} (hp : oldL H p) (R : Rp K H' (.ow s v d :: .pr P p :: .ps (Same (wo H (oldL H))) :: .fr (oldF H (some p)) :: L)) : But p H H' ∧ (∃ xs, H' p = some (.lst xs) ∧ P xs) ∧ Nf K H H' s v d := by
  have R2 := R.tail
  have hS : Same (wo H (oldL H)) H' := R2.tail.psAt
  obtain ⟨p', q, h, t, r⟩ := R2.tail.tail.inv
  cases h
  have b := but_old (fun b ys z => r.all _ List.mem_cons_self b ys z) hS
  refine ⟨fun x o n e => b x o (by simpa using n) e, R2.prAt, R.nf (fun ps u a ha => ?_) fun a xs e n => new_or b (by rintro _ ⟨⟩; exact hp) e n⟩
  obtain ⟨p1, q1, rfl, ⟨zs, _, h1⟩, t1⟩ := u.inv
  cases h1
  obtain ⟨p2, q2, rfl, h2, t2⟩ := t1.inv
  obtain ⟨p3, q3, rfl, h3, t3⟩ := t2.inv
  cases h2; cases h3
  by_cases z : a = p
  · exact .inl (by rw [z]; exact List.mem_cons_self)
  · obtain ⟨xs, ha⟩ := ha
    exact ows_app.mpr (.inr (ows_app.mpr (.inr (.inr (.inl ⟨_, List.mem_cons_self, xs, oldF_of (by simpa using z) ha⟩)))))
end
section
variable {K : PySem.W.Frag} {H H' : Hp} {L L' A B : List It} {a p : Addr} {xs ys : List V} {o : HO} {v x y z : V} {d e f : PyData} {ds : List PyData} {s s1 s2 s3 : Own}
def lfree : Own → PyData → Prop
  | .lf, d => noL d = true
  | .li s, .list ds => ∀ d ∈ ds, lfree s d
  | .t2 s1 s2, .tuple [d1, d2] => lfree s1 d1 ∧ lfree s2 d2
  | .t3 s1 s2 s3, .tuple [d1, d2, d3] => lfree s1 d1 ∧ lfree s2 d2 ∧ lfree s3 d3
  | _, _ => True
theorem unf_flat {H1 H2 : Hp} (t : ∀ a xs, SqT K H1 a xs → SqT K H2 a xs) : ∀ (s : Own) {v : V} {d : PyData} {q : List Im}, Unf K s v d q → lfree s d → ∀ P, Im.ps P ∈ q → P H1 → P H2
  | .lf, v, d, q, e, l, P, h => by
    cases e
    cases List.mem_singleton.mp h
    exact dq_noL t d v l
  | .li s, v, d, q, ⟨a, xs, ds, qs, e1, e2, e3, h⟩, l, P, hP => by
    subst e1 e2 e3
    have hQ : Im.ps P ∈ qs := by
      rcases List.mem_cons.mp hP with z | hP
      · cases z
      · exact hP
    clear hP
    replace l : ∀ d ∈ ds, lfree s d := l
    induction h with
    | nil => cases hQ
    | cons h1 h2 ih =>
      rcases List.mem_append.mp hQ with z | z
      · exact unf_flat t s h1 (l _ List.mem_cons_self) P z
      · exact ih z (fun d hd => l d (List.mem_cons_of_mem _ hd))
  | .t2 s1 s2, v, d, q, ⟨a, x1, x2, d1, d2, p1, p2, e1, e2, e3, h1, h2⟩, l, P, hP => by
    subst e1 e2 e3
    rcases List.mem_cons.mp hP with z | hP
    · cases z; exact t _ _
    rcases List.mem_append.mp hP with z | z
    · exact unf_flat t s1 h1 l.1 P z
    · exact unf_flat t s2 h2 l.2 P z
  | .t3 s1 s2 s3, v, d, q, ⟨a, x1, x2, x3, d1, d2, d3, p1, p2, p3, e1, e2, e3, h1, h2, h3⟩, l, P, hP => by
    subst e1 e2 e3
    rcases List.mem_cons.mp hP with z | hP
    · cases z; exact t _ _
    rcases List.mem_append.mp hP with z | hP
    · exact unf_flat t s1 h1 l.1 P z
    rcases List.mem_append.mp hP with z | z
    · exact unf_flat t s2 h2 l.2.1 P z
    · exact unf_flat t s3 h3 l.2.2 P z
/-- what is new put beside what stands -/
theorem Rf.join {A B : List Im} (RA : Rf H' A) (RB : Rf H B) (RB' : Rf H' B) (h : ∀ b o, ¬ ows B b → H b = some o → H' b = some o) (nw : ∀ a ∈ tops A, H a = none) (nf : ∀ F, Im.fr F ∉ A) (no : obs A = [])
    (hA : ∀ P, Im.ps P ∈ A → P (wo H' fun a => a ∈ tops A ∨ ows B a)) : Rf H' (A ++ B) := by
  have dj : ∀ a ∈ tops A, ¬ ows B a := fun a ha z => by
    obtain ⟨ys, e⟩ := RB.lists z
    rw [nw a ha] at e; cases e
  have oA : ∀ a, ows A a → a ∈ tops A := fun a ha => by
    rcases ha with z | ⟨F, hF, _⟩ | z
    · exact z
    · exact (nf F hF).elim
    · rw [no] at z; cases z
  refine ⟨by rw [tops_app]; exact List.nodup_append.mpr ⟨RA.nd, RB.nd, fun a ha b hb z => dj a ha (z ▸ .inl hb)⟩, fun F hF a ha => ?_, fun m hm => ?_, by rw [obs_app, no, List.nil_append]; exact RB.no⟩
  · rcases List.mem_append.mp hF with z | z
    · exact (nf F z).elim
    · rw [tops_app] at ha
      rcases List.mem_append.mp ha with ha | ha
      · cases q : F a with
        | none => rfl
        | some ys => exact (dj a ha (.inr (.inl ⟨F, z, ys, q⟩))).elim
      · exact RB.fd F z a ha
  · rcases List.mem_append.mp hm with hm | hm
    · have k := RA.all m hm
      cases m with
      | ps P =>
        refine ⟨k.1, k.1 _ _ (wo_less fun a ha => ?_) (hA P hm)⟩
        rcases ows_app.mp ha with z | z
        · exact .inl (oA a z)
        · exact .inr z
      | top a xs => exact k
      | fr F => exact (nf F hm).elim
      | ob a o => exact k
    · have k := RB.all m hm
      cases m with
      | ps P =>
        refine ⟨k.1, k.1 _ _ (fun b o e => ?_) k.2⟩
        obtain ⟨nb, e⟩ := wo_some e
        rw [wo_out ?_]; exact h b o nb e
        intro z
        rcases ows_app.mp z with z | z
        · rw [nw b (oA b z)] at e; cases e
        · exact nb z
      | top a xs => exact RB'.all _ hm
      | fr F => exact RB'.all _ hm
      | ob a o => exact RB'.all _ hm
theorem Rf.both {A B : List Im} (RA : Rf H' A) (RB' : Rf H' B) (nf : ∀ F, Im.fr F ∉ A) {P : Hp → Prop} (hP : Im.ps P ∈ A)
    (hA : ∀ H1 H2, (∀ a xs, SqT K H1 a xs → SqT K H2 a xs) → P H1 → P H2) : P (wo H' fun a => a ∈ tops A ∨ ows B a) := by
  refine hA _ _ (fun a xs h => wo_sqt0 (fun b z => ?_) (sqT_same wo_same h)) (RA.all _ hP).2
  rcases z with z | z
  · exact RA.lists (.inl z)
  · exact RB'.lists z
theorem Rp.inn (R : Rp K H L) (sm : Same H H') (N : Nw K H H' s v d) (l : lfree s d) : Rp K H' (.ow s v d :: L) := by
  obtain ⟨ps, u, r⟩ := R
  obtain ⟨qs, hu, rq, nw⟩ := N
  exact ⟨_, .cons hu u, Rf.join rq r (r.same sm) (fun b o _ e => sm b o e) nw (unf_nofr s hu) (unf_obs hu) fun P hP => Rf.both (K := K) rq (r.same sm) (unf_nofr s hu) hP fun H1 H2 t => unf_flat t s hu l P hP⟩
theorem innP0 {P P' : List V → Prop} (R : Rp K H (.pr P p :: L)) (sm : But p H H') (e : H' p = some (.lst ys)) (h : P' ys) {qs : List Im} (hu : Unf K s v d qs) (rq : Rf H' qs) (nw : ∀ a ∈ tops qs, H a = none)
    (hA : ∀ ps xs, Rf H (.top p xs :: ps) → Rf H' (.top p ys :: ps) → ∀ P, Im.ps P ∈ qs → P (wo H' fun a => a ∈ tops qs ∨ ows (.top p ys :: ps) a)) : Rp K H' (.ow s v d :: .pr P' p :: L) := by
  obtain ⟨_, ps, ⟨xs, hP, h1⟩, u, r⟩ := R.inv
  cases h1
  have r' : Rf H' (.top p ys :: ps) := Rf.mut sm e r
  refine ⟨_, .cons hu (.cons (p := [.top p ys]) ⟨ys, h, rfl⟩ u), ?_⟩
  have nf := unf_nofr s hu
  have no := unf_obs hu
  have eqo : ∀ a, ows (.top p ys :: ps) a → ows (.top p xs :: ps) a := fun a ha => by
    rcases ows_top ha with z | z
    · rw [z]; exact .inl (by rw [tops_top]; exact List.mem_cons_self)
    · exact ows_sub (fun m hm => List.mem_cons_of_mem _ hm) z
  have r2 : Rf H (.top p xs :: ps) := r
  -- the join, the list at p changed
  have dj : ∀ a ∈ tops qs, ¬ ows (.top p ys :: ps) a := fun a ha z => by
    obtain ⟨zs, e2⟩ := r2.lists (eqo a z)
    rw [nw a ha] at e2; cases e2
  have oA : ∀ a, ows qs a → a ∈ tops qs := fun a ha => by
    rcases ha with z | ⟨F, hF, _⟩ | z
    · exact z
    · exact (nf F hF).elim
    · rw [no] at z; cases z
  show Rf H' (qs ++ (.top p ys :: ps))
  refine ⟨by rw [tops_app]; exact List.nodup_append.mpr ⟨rq.nd, r'.nd, fun a ha b hb z => dj a ha (z ▸ .inl hb)⟩, fun F hF a ha => ?_, fun m hm => ?_, by rw [obs_app, no, List.nil_append]; exact r'.no⟩
  · rcases List.mem_append.mp hF with z | z
    · exact (nf F z).elim
    · rw [tops_app] at ha
      rcases List.mem_append.mp ha with ha | ha
      · cases q : F a with
        | none => rfl
        | some zs => exact (dj a ha (.inr (.inl ⟨F, z, zs, q⟩))).elim
      · exact r'.fd F z a ha
  · rcases List.mem_append.mp hm with hm | hm
    · have k := rq.all m hm
      cases m with
      | ps P =>
        refine ⟨k.1, k.1 _ _ (wo_less fun a ha => ?_) (hA ps xs r2 r' P hm)⟩
        rcases ows_app.mp ha with z | z
        · exact .inl (oA a z)
        · exact .inr z
      | top a xs => exact k
      | fr F => exact (nf F hm).elim
      | ob a o => exact k
    · have k := r'.all m hm
      cases m with
      | ps P =>
        have k0 := r2.all (.ps P) (by rcases List.mem_cons.mp hm with z | z; cases z; exact List.mem_cons_of_mem _ z)
        refine ⟨k0.1, k0.1 _ _ (fun b o q => ?_) k0.2⟩
        obtain ⟨nb, q⟩ := wo_some q
        have nb2 : b ≠ p := fun z => nb (by rw [z]; exact .inl (by rw [tops_top]; exact List.mem_cons_self))
        rw [wo_out ?_]; exact sm b o nb2 q
        intro z
        rcases ows_app.mp z with z | z
        · rw [nw b (oA b z)] at q; cases q
        · exact nb (eqo b z)
      | top a zs => exact k
      | fr F => exact k
      | ob a o => exact k
theorem Rp.innP {P P' : List V → Prop} (R : Rp K H (.pr P p :: L)) (sm : But p H H') (e : H' p = some (.lst ys)) (h : P' ys) (N : Nw K H H' s v d) (l : lfree s d) : Rp K H' (.ow s v d :: .pr P' p :: L) := by
  obtain ⟨qs, hu, rq, nw⟩ := N
  exact innP0 R sm e h hu rq nw fun ps xs _ r' P hP => Rf.both (K := K) rq r' (unf_nofr s hu) hP fun H1 H2 t => unf_flat t s hu l P hP
theorem lfree_il {ns : List Int} : lfree (.li .lf) (IL ns) := fun d hd => by
  obtain ⟨n, _, rfl⟩ := List.mem_map.mp hd
  rfl
theorem lfree_fl {qs : List Rat} : lfree (.li .lf) (FL qs) := fun d hd => by
  obtain ⟨n, _, rfl⟩ := List.mem_map.mp hd
  rfl
theorem lfree_td {t : List (List Rat)} : lfree (.li (.li .lf)) (TD t) := fun d hd => by
  obtain ⟨n, _, rfl⟩ := List.mem_map.mp hd
  exact lfree_fl
end
/-! ### the way from one list of items to another, by a search for instances -/
class SelC (m : It) (L : List It) (L1 : outParam (List It)) : Prop where
  pf : Sel m L L1
class SufC (L L' : List It) : Prop where
  pf : Wk L L'
class WkC (L L' : List It) : Prop where
  pf : Wk L L'
section
variable {m x : It} {A L L1 L' : List It} {v : V} {d : PyData} {P : Hp → Prop}
instance (priority := 900) : SelC m (m :: L) L := ⟨.here⟩
instance (priority := 800) [h : SelC m L L1] : SelC m (x :: L) (x :: L1) := ⟨.there h.pf⟩
instance (priority := 800) [h : SelC m L L1] : SelC m (A ++ L) (A ++ L1) := ⟨Sel.app h.pf⟩
instance (priority := 900) : SufC L L := ⟨.refl⟩
instance (priority := 800) [h : SufC L L'] : SufC (x :: L) L' := ⟨.drop h.pf⟩
instance (priority := 800) [h : SufC L L'] : SufC (A ++ L) L' := ⟨.dropA h.pf⟩
instance (priority := 500) [h : SufC L L'] : WkC L L' := ⟨h.pf⟩
instance (priority := 900) [h : SelC (.ow .lf v d) L L1] [k : WkC L L'] : WkC L (.ow .lf v d :: L') := ⟨.dup h.pf k.pf⟩
instance (priority := 900) [h : SelC (.ps P) L L1] [k : WkC L L'] : WkC L (.ps P :: L') := ⟨.dupP h.pf k.pf⟩
instance (priority := 800) [h : SelC m L L1] [k : WkC L1 L'] : WkC L (m :: L') := ⟨.take h.pf k.pf⟩
end
/-! ### steps with what stands side by side -/
theorem mem_here {α : Type} {m : α} {L : List α} : m ∈ m :: L := List.mem_cons_self
section
variable {K : PySem.W.Frag} {H H' : Hp} {Q : VK} {L L' L1 L2 A B : List It} {a b p : Addr} {xs ys : List V} {o : HO} {v x y z : V} {d e f : PyData} {ds es : List PyData} {s s1 s2 s3 : Own} {i j : Int} {k n : Nat}
theorem Wk.nil : Wk L [] := by
  induction L with
  | nil => exact .refl
  | cons m L ih => exact .drop ih
theorem Rp.raw (R : Rp K H L) (h : It.ow s (.ref a) (.list ds) ∈ L) : ∃ xs, H a = some (.lst xs) ∧ DqAll K H xs ds := by
  obtain ⟨b, xs, e, h1, h2⟩ := Dq.lstI (R.dpOf h)
  cases e
  exact ⟨xs, h1, h2⟩
theorem Rp.rawT (R : Rp K H L) (h : It.ow s (.ref a) (.tuple ds) ∈ L) : ∃ xs, SqT K H a xs ∧ DqAll K H xs ds := by
  obtain ⟨b, xs, e, h1, h2⟩ := Dq.tupI (R.dpOf h)
  cases e
  exact ⟨xs, h1, h2⟩
theorem Rp.fr {x : Rat} (R : Rp K H L) (h : It.ow s (.ref a) (FD x) ∈ L) : Fr K H a x := dq_fr (R.dpOf h)
theorem Rp.ilS {ns : List Int} (R : Rp K H L) (h : It.ow s (.ref a) (IL ns) ∈ L) : SqL K H a (ns.map V.int) := by
  obtain ⟨xs, h1, h2⟩ := R.raw h
  rw [int_dp (dqAll_dp _ _ h2)] at h1
  exact SqL.of h1
/-- a value's datum known: what the value is -/
theorem sh_int (R : Rp K H (.ow s v (.int i) :: L)) : v = .int i := by have := R.dp; cases this; rfl
theorem sh_bl {b : Bool} (R : Rp K H (.ow s v (.bool b) :: L)) : v = .bl b := by have := R.dp; cases this; rfl
theorem sh_str {b : Str} (R : Rp K H (.ow s v (.str b) :: L)) : v = .str b := by have := R.dp; cases this; rfl
theorem sh_non (R : Rp K H (.ow s v .none :: L)) : v = .non := by have := R.dp; cases this; rfl
theorem sh_lst (R : Rp K H (.ow s v (.list ds) :: L)) : ∃ a, v = .ref a := by have := R.dp; cases this; exact ⟨_, rfl⟩
theorem sh_tup (R : Rp K H (.ow s v (.tuple ds) :: L)) : ∃ a, v = .ref a := by have := R.dp; cases this; exact ⟨_, rfl⟩
theorem g_lenS (R : Rp K H L) (h : It.ow s (.ref a) (.list ds) ∈ L) (q : Q (.int ds.length) H) : rLenSeq K [.ref a] H Q := by
  obtain ⟨xs, h1, h2⟩ := R.raw h
  exact g_lenL (SqL.of h1) (by rw [DqAll.len h2]; exact q)
theorem g_lenTS (R : Rp K H L) (h : It.ow s (.ref a) (.tuple ds) ∈ L) (q : Q (.int ds.length) H) : rLenSeq K [.ref a] H Q := by
  obtain ⟨xs, h1, h2⟩ := R.rawT h
  exact g_lenT h1 (by rw [DqAll.len h2]; exact q)
theorem g_ixS (R : Rp K H L) (h : It.sh (.ref a) (.list ds) ∈ L) (hi : i = (k : Nat)) (hd : ds[k]? = some d) (q : ∀ w, Rp K H (.sh w d :: L) → Q w H) : rIxL K (.ref a) (.int i) H Q := by
  obtain ⟨b, xs, w, e, h1, h2, R'⟩ := R.shL h hd
  cases e
  exact g_ixL (SqL.of h1) (by rw [hi]; exact atI_nat h2) (q w R')
theorem g_ixTS (R : Rp K H L) (h : It.sh (.ref a) (.tuple ds) ∈ L) (hi : i = (k : Nat)) (hd : ds[k]? = some d) (q : ∀ w, Rp K H (.sh w d :: L) → Q w H) : rIxT K (.ref a) (.int i) H Q := by
  obtain ⟨b, xs, w, e, h1, h2, R'⟩ := R.shT h hd
  cases e
  exact g_ixT h1 (by rw [hi]; exact atI_nat h2) (q w R')
/-- a flat item -/
theorem g_ixF (R : Rp K H L) (h : It.ow s (.ref a) (.list ds) ∈ L) (hi : i = (k : Nat)) (hd : ds[k]? = some d) (n : noL d = true) (q : ∀ w, Rp K H (.sh w d :: L) → Q w H) : rIxL K (.ref a) (.int i) H Q := by
  obtain ⟨xs, h1, h2⟩ := R.raw h
  obtain ⟨w, hw, hd⟩ := DqAll.get h2 hd
  exact g_ixL (SqL.of h1) (by rw [hi]; exact atI_nat hw) (q w (R.flat hd n))
theorem g_ixTF (R : Rp K H L) (h : It.ow s (.ref a) (.tuple ds) ∈ L) (hi : i = (k : Nat)) (hd : ds[k]? = some d) (n : noL d = true) (q : ∀ w, Rp K H (.sh w d :: L) → Q w H) : rIxT K (.ref a) (.int i) H Q := by
  obtain ⟨xs, h1, h2⟩ := R.rawT h
  obtain ⟨w, hw, hd⟩ := DqAll.get h2 hd
  exact g_ixT h1 (by rw [hi]; exact atI_nat hw) (q w (R.flat hd n))
theorem g_ixI (R : Rp K H L) (h : It.ow s (.ref a) (.list ds) ∈ L) (hi : i = (k : Nat)) (hd : ds[k]? = some (.int j)) (q : Q (.int j) H) : rIxL K (.ref a) (.int i) H Q :=
  g_ixF R h hi hd rfl fun w R' => by rw [sh_int R']; exact q
theorem g_ixTI (R : Rp K H L) (h : It.ow s (.ref a) (.tuple ds) ∈ L) (hi : i = (k : Nat)) (hd : ds[k]? = some (.int j)) (q : Q (.int j) H) : rIxT K (.ref a) (.int i) H Q :=
  g_ixTF R h hi hd rfl fun w R' => by rw [sh_int R']; exact q
/-- == -/
theorem g_eqR (R : Rp K H L) (h1 : It.ow s x d ∈ L) (h2 : It.ow s1 y e ∈ L) (c1 : SeqAt.shaped d = true) (c2 : SeqAt.shaped e = true) (q : Q (.bl (PyData.eqv d e)) H) : rEqD K x y H Q := ⟨d, e, dq_dp _ _ (R.dpOf h1), dq_dp _ _ (R.dpOf h2), c1, c2, q⟩
theorem g_neR (R : Rp K H L) (h1 : It.ow s x d ∈ L) (h2 : It.ow s1 y e ∈ L) (c1 : SeqAt.shaped d = true) (c2 : SeqAt.shaped e = true) (q : Q (.bl (!PyData.eqv d e)) H) : rNeD K x y H Q := ⟨d, e, dq_dp _ _ (R.dpOf h1), dq_dp _ _ (R.dpOf h2), c1, c2, q⟩
/-- an item put behind a list of one's own -/
theorem each_snoc (h : xs.length = ds.length) : each s (xs ++ [x]) (ds ++ [d]) = each s xs ds ++ [.ow s x d] := by
  unfold each
  rw [List.zipWith_append h]; rfl
theorem Rp.app (R : Rp K H (.ow s y d :: .ow (.li s) (.ref p) (.list ds) :: L)) : ∃ acc, H p = some (.lst acc) ∧ acc.length = ds.length ∧ Rp K (upd H p (.lst (acc ++ [y]))) (.ow (.li s) (.ref p) (.list (ds ++ [d])) :: L) := by
  have R1 : Rp K H (.ow (.li s) (.ref p) (.list ds) :: .ow s y d :: L) := R.perm (.swap _ _ _)
  obtain ⟨a, acc, e, l, R2⟩ := R1.take
  cases e
  refine ⟨acc, R2.topAt, l, Rp.put (xs := acc ++ [y]) ?_ (by rw [List.length_append, List.length_append, l]; rfl)⟩
  rw [each_snoc l, List.append_assoc]
  exact R2.mut
/-- an owned list in a call of append -/
theorem g_appR (R : Rp K H L) (h1 : Sel (.ow s y d) L L1) (h2 : Sel (.ow (.li s) (.ref p) (.list ds)) L1 L2) (sz : ds.length < 100000) (q : ∀ H', Rp K H' (.ow (.li s) (.ref p) (.list (ds ++ [d])) :: L2) → Q .non H') : rAppend (.ref p) [y] H Q := by
  have R1 : Rp K H (.ow s y d :: .ow (.li s) (.ref p) (.list ds) :: L2) := (R.sel h1).perm (h2.perm.cons _)
  obtain ⟨acc, e, l, R2⟩ := R1.app
  exact ⟨p, acc, y, rfl, rfl, e, sz_lt (by omega), q _ R2⟩
theorem tyR {T : TE} (R : Rp K H L) (h : It.ow s (.ref p) (.list ds) ∈ L) : tyV K "list" (.ref p) H := by
  obtain ⟨xs, h1, _⟩ := R.raw h
  exact ty_l h1
/-- a call of fractions' deeds -/
theorem Rp.frN {x : Rat} (R : Rp K H L) (n : H p = none) : Rp K (upd H p (.tup (FV x))) (.sh (.ref p) (FD x) :: L) :=
  (R.same (same_new n)).flat (fr_dq sqT_at) rfl
variable {E : XK} {q r : Rat}
theorem g_plusR (R : Rp K H L) (hx : It.ow s (.ref a) (FD q) ∈ L) (hy : It.ow s1 (.ref b) (FD r) ∈ L) (bx : Bd 4000 q) (bu : Bd 4000 r) (k : ∀ c H', Rp K H' (.sh (.ref c) (FD (q + r)) :: L) → Q (.ref c) H') : sp2F K (fun x y => x + y) (fun _ _ => True) ([.ref a, .ref b] ++ []) H Q E :=
  g_plus (R.fr hx) (R.fr hy) bx bu fun p np => k p _ (R.frN np)
theorem g_minusR (R : Rp K H L) (hx : It.ow s (.ref a) (FD q) ∈ L) (hy : It.ow s1 (.ref b) (FD r) ∈ L) (bx : Bd 4000 q) (bu : Bd 4000 r) (k : ∀ c H', Rp K H' (.sh (.ref c) (FD (q - r)) :: L) → Q (.ref c) H') : sp2F K (fun x y => x - y) (fun _ _ => True) ([.ref a, .ref b] ++ []) H Q E :=
  g_minus (R.fr hx) (R.fr hy) bx bu fun p np => k p _ (R.frN np)
theorem g_timesR (R : Rp K H L) (hx : It.ow s (.ref a) (FD q) ∈ L) (hy : It.ow s1 (.ref b) (FD r) ∈ L) (bx : Bd 4000 q) (bu : Bd 4000 r) (k : ∀ c H', Rp K H' (.sh (.ref c) (FD (q * r)) :: L) → Q (.ref c) H') : sp2F K (fun x y => x * y) (fun _ _ => True) ([.ref a, .ref b] ++ []) H Q E :=
  g_times (R.fr hx) (R.fr hy) bx bu fun p np => k p _ (R.frN np)
theorem g_dividedR (R : Rp K H L) (hx : It.ow s (.ref a) (FD q) ∈ L) (hy : It.ow s1 (.ref b) (FD r) ∈ L) (bx : Bd 4000 q) (bu : Bd 4000 r) (h0 : r ≠ 0) (k : ∀ c H', Rp K H' (.sh (.ref c) (FD (q / r)) :: L) → Q (.ref c) H') : sp2F K (fun x y => x / y) (fun _ y => y ≠ 0) ([.ref a, .ref b] ++ []) H Q E :=
  g_divided (R.fr hx) (R.fr hy) bx bu h0 fun p np => k p _ (R.frN np)
theorem g_belowR (R : Rp K H L) (hx : It.ow s (.ref a) (FD q) ∈ L) (hy : It.ow s1 (.ref b) (FD r) ∈ L) (bx : Bd 4000 q) (bu : Bd 4000 r) (k : Q (.bl (decide (q < r))) H) : sp_below K ([.ref a, .ref b] ++ []) H Q E :=
  g_below (R.fr hx) (R.fr hy) bx bu k
theorem g_fracR {t u : Int} (R : Rp K H L) (h0 : u ≠ 0) (h : IB 8500 u) (k : ∀ c H', Rp K H' (.sh (.ref c) (FD (Rat.divInt t u)) :: L) → Q (.ref c) H') : sp_fraction ([.int t, .int u] ++ []) H Q E :=
  g_frac h0 h fun p np => k p _ (R.frN np)
theorem g_eqFR (R : Rp K H L) (hx : It.ow s (.ref a) (FD q) ∈ L) (hy : It.ow s1 (.ref b) (FD r) ∈ L) (k : Q (.bl (decide (q = r))) H) : rEqD K (.ref a) (.ref b) H Q := g_eqF (R.fr hx) (R.fr hy) k
theorem g_neFR (R : Rp K H L) (hx : It.ow s (.ref a) (FD q) ∈ L) (hy : It.ow s1 (.ref b) (FD r) ∈ L) (k : Q (.bl (!decide (q = r))) H) : rNeD K (.ref a) (.ref b) H Q := g_neF (R.fr hx) (R.fr hy) k
/-- displays -/
theorem g_t2R {G : Addr → Prop} (R : Rp K H L) (h1 : Sel (.ow s1 x d) L L1) (h2 : Sel (.ow s2 y e) L1 L2) (k : ∀ c, H c = none → Rp K (upd H c (.tup [x, y])) (.ow (.t2 s1 s2) (.ref c) (.tuple [d, e]) :: L2) → G c) : [x, y].length ≤ sizeLine ∧ ∀ p, H p = none → G p :=
  ⟨two_le, fun p np => k p np (Rp.mk2 ((R.sel h1).perm (h2.perm.cons _)) np)⟩
theorem g_t3R {G : Addr → Prop} (R : Rp K H L) (h1 : Sel (.ow s1 x d) L L1) (h2 : Sel (.ow s2 y e) L1 L2) (h3 : Sel (.ow s3 z f) L2 L') (k : ∀ c, H c = none → Rp K (upd H c (.tup [x, y, z])) (.ow (.t3 s1 s2 s3) (.ref c) (.tuple [d, e, f]) :: L') → G c) : [x, y, z].length ≤ sizeLine ∧ ∀ p, H p = none → G p :=
  ⟨by show 3 ≤ sizeLine; decide, fun p np => k p np (Rp.mk3 ((R.sel h1).perm ((h2.perm.trans (h3.perm.cons _)).cons _)) np)⟩
theorem g_l0R {G : Addr → Prop} (s : Own) (R : Rp K H L) (k : ∀ c, H c = none → Rp K (upd H c (.lst [])) (.ow (.li s) (.ref c) (.list []) :: L) → G c) : ([] : List V).length ≤ sizeLine ∧ ∀ p, H p = none → G p :=
  ⟨Nat.zero_le _, fun p np => k p np (R.mkL0 s np)⟩
theorem g_l1R {G : Addr → Prop} (R : Rp K H L) (h1 : Sel (.ow s x d) L L1) (k : ∀ c, H c = none → Rp K (upd H c (.lst [x])) (.ow (.li s) (.ref c) (.list [d]) :: L1) → G c) : [x].length ≤ sizeLine ∧ ∀ p, H p = none → G p :=
  ⟨by show 1 ≤ sizeLine; decide, fun p np => k p np (Rp.mkL1 (R.sel h1) np)⟩
theorem g_l2R {G : Addr → Prop} (R : Rp K H L) (h1 : Sel (.ow s x d) L L1) (h2 : Sel (.ow s y e) L1 L2) (k : ∀ c, H c = none → Rp K (upd H c (.lst [x, y])) (.ow (.li s) (.ref c) (.list [d, e]) :: L2) → G c) : [x, y].length ≤ sizeLine ∧ ∀ p, H p = none → G p :=
  ⟨two_le, fun p np => k p np (Rp.mkL2 ((R.sel h1).perm (h2.perm.cons _)) np)⟩
theorem int_dq : ∀ {ns : List Int}, DqAll K H (ns.map V.int) (ns.map PyData.int)
  | [] => .nil
  | n :: ns => .cons (.int n) int_dq
/-- written ints -/
theorem g_intsR {G : Addr → Prop} {ns : List Int} (R : Rp K H L) (e : xs = ns.map V.int) (z : ns.length ≤ 100000) (k : ∀ c, H c = none → Rp K (upd H c (.lst xs)) (.ow (.li .lf) (.ref c) (IL ns) :: L) → G c) : xs.length ≤ sizeLine ∧ ∀ p, H p = none → G p := by
  subst e
  exact ⟨sz_le (by rw [List.length_map]; exact z), fun p np => k p np (R.mkI np)⟩
theorem g_tupIR {G : Addr → Prop} {ns : List Int} (R : Rp K H L) (e : xs = ns.map V.int) (z : ns.length ≤ 100000) (k : ∀ c, H c = none → Rp K (upd H c (.tup xs)) (.sh (.ref c) (.tuple (ns.map PyData.int)) :: L) → G c) : xs.length ≤ sizeLine ∧ ∀ p, H p = none → G p := by
  subst e
  refine ⟨sz_le (by rw [List.length_map]; exact z), fun p np => k p np ((R.same (same_new np)).flat (.tup sqT_at ?_) ?_)⟩
  · exact int_dq
  · clear z R k; show noLs _ = true; induction ns with
    | nil => rfl
    | cons n ns ih => exact ih
/-- two own lists, or shared ones, put together -/
theorem each_app (h : xs.length = ds.length) : each s (xs ++ ys) (ds ++ es) = each s xs ds ++ each s ys es := by
  unfold each
  rw [List.zipWith_append h]
theorem g_catR (R : Rp K H L) (h1 : Sel (.ow (.li s) (.ref a) (.list ds)) L L1) (h2 : Sel (.ow (.li s) (.ref b) (.list es)) L1 L2) (z : ds.length + es.length ≤ 100000) (k : ∀ c H', Rp K H' (.ow (.li s) (.ref c) (.list (ds ++ es)) :: L2) → Q (.ref c) H') : rCat (.ref a) (.ref b) H Q := by
  have R1 : Rp K H (.ow (.li s) (.ref a) (.list ds) :: .ow (.li s) (.ref b) (.list es) :: L2) := (R.sel h1).perm (h2.perm.cons _)
  obtain ⟨a', xs, e1, l1, R2⟩ := R1.take
  cases e1
  have ea := R2.topAt
  have R3 : Rp K H (.ow (.li s) (.ref b) (.list es) :: (each s xs ds ++ L2)) := R2.tail.perm List.perm_middle
  obtain ⟨b', ys, e2, l2, R4⟩ := R3.take
  cases e2
  refine ⟨a, b, xs, ys, rfl, rfl, ea, R4.topAt, sz_le (by omega), fun p np => k p _ (Rp.mkL (xs := xs ++ ys) (ds := ds ++ es) ?_ (by rw [List.length_append, List.length_append, l1, l2]) np)⟩
  rw [each_app l1]
  refine R4.tail.perm ?_
  rw [← List.append_assoc]
  exact List.perm_append_comm.append_right _
/-- a shared list of flat things, or any list one only reads, to a new list of the same: [e] + xs, xs + [e] -/
theorem g_catI {ns ms : List Int} (R : Rp K H L) (h1 : It.ow s (.ref a) (IL ns) ∈ L) (h2 : It.ow s1 (.ref b) (IL ms) ∈ L) (z : ns.length + ms.length ≤ 100000) (k : ∀ c H', Rp K H' (.ow (.li .lf) (.ref c) (IL (ns ++ ms)) :: L) → Q (.ref c) H') : rCat (.ref a) (.ref b) H Q := by
  obtain ⟨xs, e1, d1⟩ := R.raw h1
  obtain ⟨ys, e2, d2⟩ := R.raw h2
  rw [int_dp (dqAll_dp _ _ d1)] at e1
  rw [int_dp (dqAll_dp _ _ d2)] at e2
  refine ⟨a, b, _, _, rfl, rfl, e1, e2, sz_le (by rw [List.length_map, List.length_map]; exact z), fun p np => k p _ ?_⟩
  rw [← List.map_append]
  exact R.mkI np
/-- an item of a list whose items are exploded -/
theorem Rp.focus {k : Nat} (R : Rp K H (.top a xs :: (each s xs ds ++ L))) (hx : xs[k]? = some x) (hd : ds[k]? = some d) : ∃ C, Rp K H (.ow s x d :: .top a xs :: (C ++ L)) ∧ ∀ H' e, Rp K H' (.ow s x e :: .top a xs :: (C ++ L)) → Rp K H' (.top a xs :: (each s xs (ds.set k e) ++ L)) := by
  have h1 := List.getElem?_eq_some_iff.mp hx
  have h2 := List.getElem?_eq_some_iff.mp hd
  obtain ⟨l1, e1⟩ := h1
  obtain ⟨l2, e2⟩ := h2
  have ex : xs = xs.take k ++ x :: xs.drop (k + 1) := by rw [← e1, ← List.drop_eq_getElem_cons l1, List.take_append_drop]
  have ed : ∀ e, ds.set k e = ds.take k ++ e :: ds.drop (k + 1) := fun e => List.set_eq_take_append_cons_drop.trans (by rw [if_pos l2])
  have ed0 : ds = ds.take k ++ d :: ds.drop (k + 1) := by rw [← e2, ← List.drop_eq_getElem_cons l2, List.take_append_drop]
  have lt : (xs.take k).length = (ds.take k).length := by rw [List.length_take, List.length_take]; omega
  have key : ∀ e, each s xs (ds.set k e) = each s (xs.take k) (ds.take k) ++ .ow s x e :: each s (xs.drop (k + 1)) (ds.drop (k + 1)) := fun e => by
    rw [ed e]
    conv => lhs; rw [ex]
    rw [each_app lt]; rfl
  have key0 : each s xs ds = each s (xs.take k) (ds.take k) ++ .ow s x d :: each s (xs.drop (k + 1)) (ds.drop (k + 1)) := by
    conv => lhs; rw [ex, ed0]
    rw [each_app lt]; rfl
  have pm : ∀ e, List.Perm (.top a xs :: (each s (xs.take k) (ds.take k) ++ .ow s x e :: each s (xs.drop (k + 1)) (ds.drop (k + 1)) ++ L)) (.ow s x e :: .top a xs :: ((each s (xs.take k) (ds.take k) ++ each s (xs.drop (k + 1)) (ds.drop (k + 1))) ++ L)) := fun e => by
    refine List.Perm.trans (.cons _ ?_) (.swap _ _ _)
    rw [List.append_assoc, List.append_assoc]
    exact List.perm_middle
  refine ⟨each s (xs.take k) (ds.take k) ++ each s (xs.drop (k + 1)) (ds.drop (k + 1)), ?_, fun H' e R' => ?_⟩
  · rw [key0] at R
    exact R.perm (pm d)
  · rw [key e]
    exact R'.perm (pm e).symm
end
/-! ### comprehensions -/
section
variable {K : PySem.W.Frag} {H : Hp} {L : List It} {a p : Addr} {xs : List V} {σ : L2.St} {g : TG} {tt : TT} {te : TE} {vs : List Nat} {Qd : Hp → Prop} {lo : Int} {n : Nat}
theorem lco_fin {s : Own} {ds : List PyData} {d : PyData} {L' : List It} {y : V} {H4 : Hp} {W : Hp → Prop} (R : Rp K H4 (.ow s y d :: .ow (.li s) (.ref p) (.list ds) :: L')) (z : ds.length < 100000) (k : ∀ H', Rp K H' (.ow (.li s) (.ref p) (.list (ds ++ [d])) :: L') → W H') : ∃ acc, H4 p = some (.lst acc) ∧ acc.length < sizeLine ∧ W (upd H4 p (.lst (acc ++ [y]))) := by
  obtain ⟨acc, e, l, R2⟩ := R.app
  exact ⟨acc, e, sz_lt (by omega), k _ R2⟩
theorem lco_list (s : Own) (Pv : Nat → List PyData → List It → Prop) (R : Rp K H L) (nL : H p = none) (h0 : Pv 0 [] L) (sz : xs.length < 100000)
    (hl : ∀ i ds L X H', Pv i ds L → Rp K H' (X :: L) → SqL K H' a xs)
    (turn : ∀ i x ds L X H', xs[i]? = some x → Pv i ds L → Rp K H' (X :: L) → ∀ (Qy : VK) (Qn : Hp → Prop), (∀ y d L' H4, Pv (i + 1) (ds ++ [d]) L' → Rp K H4 (.ow s y d :: X :: L') → Qy y H4) → (∀ L' H4, Pv (i + 1) ds L' → Rp K H4 (X :: L') → Qn H4) →
      g x (wipe σ vs) H' fun σ2 H2 => wipe σ2 vs = wipe σ vs ∧ tt σ2 H2 fun b H3 => if b = true then te σ2 H3 Qy else Qn H3)
    (done : ∀ ds L H', Pv xs.length ds L → Rp K H' (.ow (.li s) (.ref p) (.list ds) :: L) → Qd H') : LoopC (Itl K a) g tt te vs p σ Qd H := by
  refine lcl_list (K := K) (a := a) (xs := xs) (fun i H' => ∃ ds L, Pv i ds L ∧ ds.length ≤ i ∧ Rp K H' (.ow (.li s) (.ref p) (.list ds) :: L)) ⟨[], L, h0, Nat.zero_le _, R.mkL0 s nL⟩ (fun i H' _ ⟨ds, L, h, _, R⟩ => hl i ds L _ H' h R) ?_ (fun H' ⟨ds, L, h, _, R⟩ => done ds L H' h R)
  rintro i x H' hx ⟨ds, L, h, z, R⟩
  have hi : i < xs.length := (List.getElem?_eq_some_iff.mp hx).1
  exact turn i x ds L _ H' hx h R (fun y H4 => ∃ acc, H4 p = some (.lst acc) ∧ acc.length < sizeLine ∧ ∃ ds L, Pv (i + 1) ds L ∧ ds.length ≤ i + 1 ∧ Rp K (upd H4 p (.lst (acc ++ [y]))) (.ow (.li s) (.ref p) (.list ds) :: L)) _
    (fun y d L' H4 h' R' => lco_fin (W := fun H' => ∃ ds L, Pv (i + 1) ds L ∧ ds.length ≤ i + 1 ∧ Rp K H' (.ow (.li s) (.ref p) (.list ds) :: L)) R' (by omega) fun H' R'' => ⟨_, _, h', by rw [List.length_append]; exact Nat.add_le_add_right z 1, R''⟩) (fun L' H4 h' R' => ⟨ds, L', h', by omega, R'⟩)
theorem lco_tup (s : Own) (Pv : Nat → List PyData → List It → Prop) (R : Rp K H L) (nL : H p = none) (h0 : Pv 0 [] L) (sz : xs.length < 100000)
    (hl : ∀ i ds L X H', Pv i ds L → Rp K H' (X :: L) → SqT K H' a xs)
    (turn : ∀ i x ds L X H', xs[i]? = some x → Pv i ds L → Rp K H' (X :: L) → ∀ (Qy : VK) (Qn : Hp → Prop), (∀ y d L' H4, Pv (i + 1) (ds ++ [d]) L' → Rp K H4 (.ow s y d :: X :: L') → Qy y H4) → (∀ L' H4, Pv (i + 1) ds L' → Rp K H4 (X :: L') → Qn H4) →
      g x (wipe σ vs) H' fun σ2 H2 => wipe σ2 vs = wipe σ vs ∧ tt σ2 H2 fun b H3 => if b = true then te σ2 H3 Qy else Qn H3)
    (done : ∀ ds L H', Pv xs.length ds L → Rp K H' (.ow (.li s) (.ref p) (.list ds) :: L) → Qd H') : LoopC (Itt K a) g tt te vs p σ Qd H := by
  refine lcl_tup (K := K) (a := a) (xs := xs) (fun i H' => ∃ ds L, Pv i ds L ∧ ds.length ≤ i ∧ Rp K H' (.ow (.li s) (.ref p) (.list ds) :: L)) ⟨[], L, h0, Nat.zero_le _, R.mkL0 s nL⟩ (fun i H' _ ⟨ds, L, h, _, R⟩ => hl i ds L _ H' h R) ?_ (fun H' ⟨ds, L, h, _, R⟩ => done ds L H' h R)
  rintro i x H' hx ⟨ds, L, h, z, R⟩
  have hi : i < xs.length := (List.getElem?_eq_some_iff.mp hx).1
  exact turn i x ds L _ H' hx h R (fun y H4 => ∃ acc, H4 p = some (.lst acc) ∧ acc.length < sizeLine ∧ ∃ ds L, Pv (i + 1) ds L ∧ ds.length ≤ i + 1 ∧ Rp K (upd H4 p (.lst (acc ++ [y]))) (.ow (.li s) (.ref p) (.list ds) :: L)) _
    (fun y d L' H4 h' R' => lco_fin (W := fun H' => ∃ ds L, Pv (i + 1) ds L ∧ ds.length ≤ i + 1 ∧ Rp K H' (.ow (.li s) (.ref p) (.list ds) :: L)) R' (by omega) fun H' R'' => ⟨_, _, h', by rw [List.length_append]; exact Nat.add_le_add_right z 1, R''⟩) (fun L' H4 h' R' => ⟨ds, L', h', by omega, R'⟩)
theorem lco_rangeC {st : Int} (s : Own) (Pv : Nat → List PyData → List It → Prop) (R : Rp K H L) (nL : H p = none) (h0 : Pv 0 [] L) (sz : n < 100000)
    (turn : ∀ (i : Nat) ds L X H', i < n → Pv i ds L → Rp K H' (X :: L) → ∀ (Qy : VK) (Qn : Hp → Prop), (∀ y d L' H4, Pv (i + 1) (ds ++ [d]) L' → Rp K H4 (.ow s y d :: X :: L') → Qy y H4) → (∀ L' H4, Pv (i + 1) ds L' → Rp K H4 (X :: L') → Qn H4) →
      g (.int (lo + (i : Nat) * st)) (wipe σ vs) H' fun σ2 H2 => wipe σ2 vs = wipe σ vs ∧ tt σ2 H2 fun b H3 => if b = true then te σ2 H3 Qy else Qn H3)
    (done : ∀ ds L H', Pv n ds L → Rp K H' (.ow (.li s) (.ref p) (.list ds) :: L) → Qd H') : LoopC (Itc lo st n) g tt te vs p σ Qd H := by
  refine lcl_rangeC (fun i H' => ∃ ds L, Pv i ds L ∧ ds.length ≤ i ∧ Rp K H' (.ow (.li s) (.ref p) (.list ds) :: L)) ⟨[], L, h0, Nat.zero_le _, R.mkL0 s nL⟩ ?_ (fun H' ⟨ds, L, h, _, R⟩ => done ds L H' h R)
  rintro i H' hi ⟨ds, L, h, z, R⟩
  exact turn i ds L _ H' hi h R (fun y H4 => ∃ acc, H4 p = some (.lst acc) ∧ acc.length < sizeLine ∧ ∃ ds L, Pv (i + 1) ds L ∧ ds.length ≤ i + 1 ∧ Rp K (upd H4 p (.lst (acc ++ [y]))) (.ow (.li s) (.ref p) (.list ds) :: L)) _
    (fun y d L' H4 h' R' => lco_fin (W := fun H' => ∃ ds L, Pv (i + 1) ds L ∧ ds.length ≤ i + 1 ∧ Rp K H' (.ow (.li s) (.ref p) (.list ds) :: L)) R' (by omega) fun H' R'' => ⟨_, _, h', by rw [List.length_append]; exact Nat.add_le_add_right z 1, R''⟩) (fun L' H4 h' R' => ⟨ds, L', h', by omega, R'⟩)
theorem lco_range (s : Own) (Pv : Nat → List PyData → List It → Prop) (R : Rp K H L) (nL : H p = none) (h0 : Pv 0 [] L) (sz : n < 100000)
    (turn : ∀ (i : Nat) ds L X H', i < n → Pv i ds L → Rp K H' (X :: L) → ∀ (Qy : VK) (Qn : Hp → Prop), (∀ y d L' H4, Pv (i + 1) (ds ++ [d]) L' → Rp K H4 (.ow s y d :: X :: L') → Qy y H4) → (∀ L' H4, Pv (i + 1) ds L' → Rp K H4 (X :: L') → Qn H4) →
      g (.int (lo + i)) (wipe σ vs) H' fun σ2 H2 => wipe σ2 vs = wipe σ vs ∧ tt σ2 H2 fun b H3 => if b = true then te σ2 H3 Qy else Qn H3)
    (done : ∀ ds L H', Pv n ds L → Rp K H' (.ow (.li s) (.ref p) (.list ds) :: L) → Qd H') : LoopC (Itr lo n) g tt te vs p σ Qd H := by
  refine lcl_range (fun i H' => ∃ ds L, Pv i ds L ∧ ds.length ≤ i ∧ Rp K H' (.ow (.li s) (.ref p) (.list ds) :: L)) ⟨[], L, h0, Nat.zero_le _, R.mkL0 s nL⟩ ?_ (fun H' ⟨ds, L, h, _, R⟩ => done ds L H' h R)
  rintro i H' hi ⟨ds, L, h, z, R⟩
  exact turn i ds L _ H' hi h R (fun y H4 => ∃ acc, H4 p = some (.lst acc) ∧ acc.length < sizeLine ∧ ∃ ds L, Pv (i + 1) ds L ∧ ds.length ≤ i + 1 ∧ Rp K (upd H4 p (.lst (acc ++ [y]))) (.ow (.li s) (.ref p) (.list ds) :: L)) _
    (fun y d L' H4 h' R' => lco_fin (W := fun H' => ∃ ds L, Pv (i + 1) ds L ∧ ds.length ≤ i + 1 ∧ Rp K H' (.ow (.li s) (.ref p) (.list ds) :: L)) R' (by omega) fun H' R'' => ⟨_, _, h', by rw [List.length_append]; exact Nat.add_le_add_right z 1, R''⟩) (fun L' H4 h' R' => ⟨ds, L', h', by omega, R'⟩)
/-- one that is a map, over a range -/
theorem lcm_range (s : Own) (e : Nat → PyData) (R : Rp K H L) (nL : H p = none) (sz : n < 100000)
    (turn : ∀ (i : Nat) X H', i < n → Rp K H' (X :: L) → ∀ Qy : VK, (∀ y H4, Rp K H4 (.ow s y (e i) :: X :: L) → Qy y H4) → g (.int (lo + i)) (wipe σ vs) H' fun σ2 H2 => wipe σ2 vs = wipe σ vs ∧ te σ2 H2 Qy)
    (done : ∀ H', Rp K H' (.ow (.li s) (.ref p) (.list ((List.range n).map e)) :: L) → Qd H') : LoopC (Itr lo n) g tYes te vs p σ Qd H := by
  refine lco_range s (fun i ds L' => ds = (List.range i).map e ∧ L' = L) R nL ⟨rfl, rfl⟩ sz ?_ (fun ds L' H' ⟨e1, e2⟩ R' => by subst e1 e2; exact done H' R')
  rintro i ds L' X H' hi ⟨rfl, rfl⟩ R Qy Qn q1 _
  exact turn i X H' hi R Qy fun y H4 R4 => q1 y _ _ H4 ⟨(range_snoc e i).symm, rfl⟩ R4
theorem range_filter_snoc (f : Nat → Bool) (e : Nat → PyData) (i : Nat) : ((List.range (i + 1)).filter f).map e = if f i then ((List.range i).filter f).map e ++ [e i] else ((List.range i).filter f).map e := by
  rw [List.range_succ, List.filter_append, List.map_append]
  by_cases h : f i
  · simp [h]
  · simp [h]
/-- one that chooses and maps, over a range -/
theorem lcf_range (s : Own) (f : Nat → Bool) (e : Nat → PyData) (R : Rp K H L) (nL : H p = none) (sz : n < 100000)
    (turn : ∀ (i : Nat) X H', i < n → Rp K H' (X :: L) → ∀ (Qy : VK) (Qn : Hp → Prop), (f i = true → ∀ y H4, Rp K H4 (.ow s y (e i) :: X :: L) → Qy y H4) → (f i = false → ∀ H4, Rp K H4 (X :: L) → Qn H4) → g (.int (lo + i)) (wipe σ vs) H' fun σ2 H2 => wipe σ2 vs = wipe σ vs ∧ tt σ2 H2 fun b H3 => if b = true then te σ2 H3 Qy else Qn H3)
    (done : ∀ H', Rp K H' (.ow (.li s) (.ref p) (.list (((List.range n).filter f).map e)) :: L) → Qd H') : LoopC (Itr lo n) g tt te vs p σ Qd H := by
  refine lco_range s (fun i ds L' => ds = ((List.range i).filter f).map e ∧ L' = L) R nL ⟨rfl, rfl⟩ sz ?_ (fun ds L' H' ⟨e1, e2⟩ R' => by subst e1 e2; exact done H' R')
  rintro i ds L' X H' hi ⟨rfl, rfl⟩ R Qy Qn q1 q2
  exact turn i X H' hi R Qy Qn (fun hf y H4 R4 => q1 y _ _ H4 ⟨by rw [range_filter_snoc, if_pos hf], rfl⟩ R4) (fun hf H4 R4 => q2 _ H4 ⟨by rw [range_filter_snoc, if_neg (by rw [hf]; decide)], rfl⟩ R4)
theorem take_map_snoc {α β : Type} {l : List α} {i : Nat} {x : α} (e : α → β) (h : l[i]? = some x) : (l.take (i + 1)).map e = (l.take i).map e ++ [e x] := by
  rw [take_snoc h, List.map_append]; rfl
/-- one that is a map, over a shared list -/
theorem lcm_sh {ds0 : List PyData} (s : Own) (e : PyData → PyData) (R : Rp K H L) (m : It.ps (Sv K a xs ds0) ∈ L) (nL : H p = none) (sz : ds0.length < 100000)
    (turn : ∀ (i : Nat) x d X H', ds0[i]? = some d → Rp K H' (.sh x d :: X :: L) → ∀ Qy : VK, (∀ y H4, Rp K H4 (.ow s y (e d) :: X :: L) → Qy y H4) → g x (wipe σ vs) H' fun σ2 H2 => wipe σ2 vs = wipe σ vs ∧ te σ2 H2 Qy)
    (done : ∀ H', Rp K H' (.ow (.li s) (.ref p) (.list (ds0.map e)) :: L) → Qd H') : LoopC (Itl K a) g tYes te vs p σ Qd H := by
  have l : xs.length = ds0.length := DqAll.len (R.psOf m).2
  refine lco_list (xs := xs) s (fun i ds L' => ds = (ds0.take i).map e ∧ L' = L) R nL ⟨rfl, rfl⟩ (by omega) (fun i ds L' X H' ⟨_, z⟩ R' => by subst z; exact SqL.of (R'.psOf (List.mem_cons_of_mem _ m)).1) ?_ (fun ds L' H' ⟨e1, e2⟩ R' => by
    subst e1 e2; rw [l, List.take_length] at R'; exact done H' R')
  rintro i x ds L' X H' hx ⟨rfl, rfl⟩ R Qy Qn q1 _
  have hi : i < ds0.length := by rw [← l]; exact (List.getElem?_eq_some_iff.mp hx).1
  have hd : ds0[i]? = some ds0[i] := List.getElem?_eq_getElem hi
  exact turn i x _ X H' hd (R.svAt (List.mem_cons_of_mem _ m) hx hd) Qy fun y H4 R4 => q1 y _ _ H4 ⟨(take_map_snoc e hd).symm, rfl⟩ R4
/-- one that chooses and maps, over a shared list -/
theorem lcf_sh {ds0 : List PyData} (s : Own) (f : PyData → Bool) (e : PyData → PyData) (R : Rp K H L) (m : It.ps (Sv K a xs ds0) ∈ L) (nL : H p = none) (sz : ds0.length < 100000)
    (turn : ∀ (i : Nat) x d X H', ds0[i]? = some d → Rp K H' (.sh x d :: X :: L) → ∀ (Qy : VK) (Qn : Hp → Prop), (f d = true → ∀ y H4, Rp K H4 (.ow s y (e d) :: X :: L) → Qy y H4) → (f d = false → ∀ H4, Rp K H4 (X :: L) → Qn H4) → g x (wipe σ vs) H' fun σ2 H2 => wipe σ2 vs = wipe σ vs ∧ tt σ2 H2 fun b H3 => if b = true then te σ2 H3 Qy else Qn H3)
    (done : ∀ H', Rp K H' (.ow (.li s) (.ref p) (.list ((ds0.filter f).map e)) :: L) → Qd H') : LoopC (Itl K a) g tt te vs p σ Qd H := by
  have l : xs.length = ds0.length := DqAll.len (R.psOf m).2
  refine lco_list (xs := xs) s (fun i ds L' => ds = ((ds0.take i).filter f).map e ∧ L' = L) R nL ⟨rfl, rfl⟩ (by omega) (fun i ds L' X H' ⟨_, z⟩ R' => by subst z; exact SqL.of (R'.psOf (List.mem_cons_of_mem _ m)).1) ?_ (fun ds L' H' ⟨e1, e2⟩ R' => by
    subst e1 e2; rw [l, List.take_length] at R'; exact done H' R')
  rintro i x ds L' X H' hx ⟨rfl, rfl⟩ R Qy Qn q1 q2
  have hi : i < ds0.length := by rw [← l]; exact (List.getElem?_eq_some_iff.mp hx).1
  have hd : ds0[i]? = some ds0[i] := List.getElem?_eq_getElem hi
  refine turn i x _ X H' hd (R.svAt (List.mem_cons_of_mem _ m) hx hd) Qy Qn (fun hf y H4 R4 => q1 y _ _ H4 ⟨?_, rfl⟩ R4) (fun hf H4 R4 => q2 _ H4 ⟨?_, rfl⟩ R4)
  · rw [take_snoc hd, List.filter_append, List.map_append, List.filter_cons_of_pos hf]; rfl
  · rw [take_snoc hd, List.filter_append, List.map_append, List.filter_cons_of_neg (by rw [hf]; decide), List.filter_nil, List.map_nil, List.append_nil]
end
/-! ### lists of ints, each its own, as data -/
abbrev LD (cs : List (List Int)) : PyData := .list (cs.map IL)
theorem Sh.ld {cs : List (List Int)} : Sh 2 (LD cs) := Sh.lst fun d h => by
  obtain ⟨x, _, rfl⟩ := List.mem_map.mp h
  exact Sh.il
theorem lfree_ld {cs : List (List Int)} : lfree (.li (.li .lf)) (LD cs) := fun d hd => by
  obtain ⟨n, _, rfl⟩ := List.mem_map.mp hd
  exact lfree_il
section
variable {K : PySem.W.Frag} {H H' : Hp}
def intPs (K : PySem.W.Frag) (ns : List Int) : List Im := ns.map fun i => .ps fun H => Dq K H (.int i) (.int i)
theorem ints3 : ∀ ns : List Int, All3 (Unf K .lf) (ns.map V.int) (ns.map PyData.int) (intPs K ns)
  | [] => .nil
  | n :: ns => .cons (p := [_]) rfl (ints3 ns)
theorem tops_ints : ∀ ns : List Int, tops (intPs K ns) = []
  | [] => rfl
  | n :: ns => tops_ints ns
theorem lls_un {O : Addr → Prop} : ∀ {rs : List Addr} {cs : List (List Int)}, LLs H' rs cs → ∃ qs, All3 (Unf K (.li .lf)) (rs.map V.ref) (cs.map IL) qs ∧ tops qs = rs ∧ ∀ m ∈ qs, m.ok H' O
  | [], [], _ => ⟨[], .nil, rfl, fun _ h => by cases h⟩
  | r :: rs, c :: cs, ⟨h, t⟩ => by
    obtain ⟨qs, h1, h2, h3⟩ := lls_un (O := O) t
    refine ⟨(.top r (c.map V.int) :: intPs K c) ++ qs, .cons ⟨r, _, _, _, rfl, rfl, rfl, ints3 c⟩ h1, ?_, fun m hm => ?_⟩
    · rw [tops_app, tops_top, tops_ints, h2]; rfl
    · rcases List.mem_append.mp hm with hm | hm
      · rcases List.mem_cons.mp hm with rfl | hm
        · exact h
        · obtain ⟨i, _, rfl⟩ := List.mem_map.mp hm
          exact ⟨fun _ _ _ _ => .int i, .int i⟩
      · exact h3 m hm
  | [], _ :: _, h => h.elim
  | _ :: _, [], h => h.elim
theorem nw_lls {p : Addr} {rs : List Addr} {cs : List (List Int)} (np : H p = none) (npr : p ∉ rs) (nd : rs.Nodup) (fr : ∀ r ∈ rs, H r = none) (e : H' p = some (.lst (rs.map V.ref))) (ll : LLs H' rs cs) : Nw K H H' (.li (.li .lf)) (.ref p) (LD cs) := by
  obtain ⟨qs, h1, h2, h3⟩ := lls_un (K := K) (O := fun _ => True) ll
  have t : tops (.top p (rs.map V.ref) :: qs) = p :: rs := by rw [tops_top, h2]
  have u : Unf K (.li (.li .lf)) (.ref p) (LD cs) (.top p (rs.map V.ref) :: qs) := ⟨p, _, _, qs, rfl, rfl, rfl, h1⟩
  refine ⟨.top p (rs.map V.ref) :: qs, u, ⟨by rw [t]; exact List.nodup_cons.mpr ⟨npr, nd⟩, fun F hF => (unf_nofr _ u F hF).elim, fun m hm => ?_, by rw [unf_obs u]; exact List.nodup_nil⟩, fun a ha => ?_⟩
  · refine Im.ok_less (O := fun _ => True) (fun _ _ => trivial) ?_
    rcases List.mem_cons.mp hm with rfl | hm
    · exact e
    · exact h3 m hm
  · rw [t] at ha
    rcases List.mem_cons.mp ha with rfl | ha
    · exact np
    · exact fr a ha
end
/-! ### a list whose first ones are changed -/
def mixM {α : Type} (f : α → α) (i : Nat) (C : List α) : List α := (C.take i).map f ++ C.drop i
section
variable {α : Type} {f : α → α} {C : List α} {i : Nat} {c : α}
theorem mixM_zero : mixM f 0 C = C := by unfold mixM; simp
theorem mixM_all : mixM f C.length C = C.map f := by unfold mixM; simp
theorem mixM_len : (mixM f i C).length = C.length := by unfold mixM; simp; omega
theorem mixM_at (h : C[i]? = some c) : (mixM f i C)[i]? = some c := by
  have hi := (List.getElem?_eq_some_iff.mp h).1
  unfold mixM
  rw [List.getElem?_append_right (by simp; omega)]
  simp only [List.length_map, List.length_take, List.getElem?_drop]
  rw [Nat.min_eq_left (by omega), Nat.sub_self, Nat.add_zero]; exact h
theorem mixM_set (h : C[i]? = some c) : (mixM f i C).set i (f c) = mixM f (i + 1) C := by
  have hi := (List.getElem?_eq_some_iff.mp h).1
  have e := (List.getElem?_eq_some_iff.mp h).2
  unfold mixM
  rw [List.set_append_right _ _ (by simp; omega), take_snoc h, List.map_append, List.append_assoc]
  congr 1
  simp only [List.length_map, List.length_take]
  rw [Nat.min_eq_left (by omega), Nat.sub_self, List.drop_eq_getElem_cons hi, List.set_cons_zero]; rfl
end
section
variable {K : PySem.W.Frag} {H H' : Hp} {L : List It} {a : Addr} {xs : List V} {ds : List PyData} {s : Own} {x : V} {d : PyData} {i : Nat}
theorem each_mem : ∀ {xs : List V} {ds : List PyData} {i : Nat}, xs[i]? = some x → ds[i]? = some d → It.ow s x d ∈ each s xs ds
  | _ :: _, _ :: _, 0, h, g => by cases h; cases g; exact .head _
  | _ :: _, _ :: _, i + 1, h, g => .tail _ (each_mem (i := i) h g)
  | [], _, _, h, _ => by simp at h
  | _ :: _, [], _, _, g => by simp at g
theorem Rp.own1 (e : H a = some (.lst xs)) : Rp K H [.top a xs] := ⟨_, .cons (p := [_]) rfl .nil, ⟨by show [a].Nodup; simp, fun F hF => (by cases List.mem_singleton.mp hF), fun m hm => by cases List.mem_singleton.mp hm; exact e, List.nodup_nil⟩⟩
end
/-! ### in, sorted, slices, decks and pools, side by side -/
section
variable {K : PySem.W.Frag} {H H' : Hp} {Q : VK} {L L' L1 L2 A B : List It} {a b p : Addr} {xs ys : List V} {o : HO} {v x y z : V} {d e f : PyData} {ds es : List PyData} {s s1 s2 s3 : Own} {i j : Int} {k n : Nat} {ns ms : List Int}
theorem inV_int : inV (.int i) (ns.map V.int) = decide (i ∈ ns) := by
  unfold inV
  induction ns with
  | nil => rfl
  | cons n ns ih =>
    rw [List.map_cons, List.any_cons, ih, Bool.eq_iff_iff]
    simp only [eqV, Bool.or_eq_true, beq_iff_eq, decide_eq_true_eq, List.mem_cons]
    constructor <;> rintro (h | h) <;> first | exact .inl h.symm | exact .inr h
theorem flat_ints : (ns.map V.int).all flatV = true := by
  rw [List.all_map]; exact List.all_eq_true.mpr fun _ _ => rfl
theorem g_inI (h : SqL K H a (ns.map V.int)) (q : Q (.bl (decide (i ∈ ns))) H) : rIn K false (.int i) (.ref a) H Q := ⟨a, _, rfl, .inl h, rfl, flat_ints, by rw [inV_int]; exact q⟩
theorem g_niI (h : SqL K H a (ns.map V.int)) (q : Q (.bl (!decide (i ∈ ns))) H) : rIn K true (.int i) (.ref a) H Q := ⟨a, _, rfl, .inl h, rfl, flat_ints, by rw [inV_int]; exact q⟩
theorem g_inR (R : Rp K H L) (h : It.ow s (.ref a) (IL ns) ∈ L) (q : Q (.bl (decide (i ∈ ns))) H) : rIn K false (.int i) (.ref a) H Q := g_inI (R.ilS h) q
theorem g_niR (R : Rp K H L) (h : It.ow s (.ref a) (IL ns) ∈ L) (q : Q (.bl (!decide (i ∈ ns))) H) : rIn K true (.int i) (.ref a) H Q := g_niI (R.ilS h) q
theorem g_inDR (R : Rp K H L) (h : It.ow s x d ∈ L) (h2 : It.ow s1 y (.list ds) ∈ L) (c1 : SeqAt.shaped d = true) (c2 : SeqAt.shaped (.list ds) = true) (q : Q (.bl (ds.any fun z => PyData.eqv z d)) H) : rInD K x y H Q := ⟨d, ds, dq_dp _ _ (R.dpOf h), dq_dp _ _ (R.dpOf h2), c1, c2, q⟩
theorem g_niDR (R : Rp K H L) (h : It.ow s x d ∈ L) (h2 : It.ow s1 y (.list ds) ∈ L) (c1 : SeqAt.shaped d = true) (c2 : SeqAt.shaped (.list ds) = true) (q : Q (.bl (!ds.any fun z => PyData.eqv z d)) H) : rNotInD K x y H Q := ⟨d, ds, dq_dp _ _ (R.dpOf h), dq_dp _ _ (R.dpOf h2), c1, c2, q⟩
theorem eqvAll_ints : ∀ xs ys : List Int, PyData.eqvAll (xs.map PyData.int) (ys.map PyData.int) = decide (xs = ys)
  | [], [] => rfl
  | [], _ :: _ => rfl
  | _ :: _, [] => rfl
  | x :: xs, y :: ys => by
    rw [List.map_cons, List.map_cons, PyData.eqvAll, eqvAll_ints xs ys, Bool.eq_iff_iff]
    simp [PyData.eqv]
theorem IL_eqv (xs ys : List Int) : PyData.eqv (IL xs) (IL ys) = decide (xs = ys) := by
  unfold IL; rw [PyData.eqv]; exact eqvAll_ints xs ys
theorem IT_eqv (xs ys : List Int) : PyData.eqv (.tuple (xs.map PyData.int)) (.tuple (ys.map PyData.int)) = decide (xs = ys) := by
  rw [PyData.eqv]; exact eqvAll_ints xs ys
theorem any_IL (cs : List (List Int)) (c : List Int) : ((cs.map IL).any fun z => PyData.eqv z (IL c)) = decide (c ∈ cs) := by
  rw [List.any_map, Bool.eq_iff_iff, List.any_eq_true, decide_eq_true_eq]
  constructor
  · rintro ⟨x, hx, e⟩
    rw [Function.comp_apply, IL_eqv, decide_eq_true_eq] at e
    exact e ▸ hx
  · intro h
    exact ⟨c, h, by rw [Function.comp_apply, IL_eqv]; exact decide_eq_true rfl⟩
/-- weighted cuts as data -/
abbrev CD (w : List Int × Rat) : PyData := .tuple [IL w.1, FD w.2]
abbrev c0 : List Int × Rat := ([], 0)
abbrev WD (ws : List (List Int × Rat)) : PyData := .list (ws.map CD)
/-- its ownership: each cut a list of one's own -/
abbrev oW : Own := .li (.t2 (.li .lf) .lf)
abbrev oT : Own := .li (.li .lf)
abbrev oI : Own := .li .lf
theorem Sh.cd {w : List Int × Rat} : Sh 2 (CD w) := Sh.tup fun d h => by
  simp only [List.mem_cons, List.not_mem_nil, or_false] at h
  rcases h with rfl | rfl
  · exact Sh.il
  · exact Sh.fd
theorem Sh.wd {ws : List (List Int × Rat)} : Sh 3 (WD ws) := Sh.lst fun d h => by
  obtain ⟨x, _, rfl⟩ := List.mem_map.mp h
  exact Sh.cd
theorem lfree_cd {w : List Int × Rat} : lfree (.t2 (.li .lf) .lf) (CD w) := ⟨lfree_il, rfl⟩
theorem lfree_wd {ws : List (List Int × Rat)} : lfree oW (WD ws) := fun d hd => by
  obtain ⟨n, _, rfl⟩ := List.mem_map.mp hd
  exact lfree_cd
theorem CD_eqv (w u : List Int × Rat) : PyData.eqv (CD w) (CD u) = decide (w = u) := by
  rw [PyData.eqv, PyData.eqvAll, PyData.eqvAll, PyData.eqvAll, IL_eqv, FD_eqv, Bool.and_true, Bool.eq_iff_iff]
  simp only [Bool.and_eq_true, decide_eq_true_eq]
  exact ⟨fun ⟨a, b⟩ => Prod.ext a b, fun e => by subst e; exact ⟨rfl, rfl⟩⟩
theorem eqvAll_map {α : Type} [DecidableEq α] (f : α → PyData) (h : ∀ x y, PyData.eqv (f x) (f y) = decide (x = y)) : ∀ xs ys : List α, PyData.eqvAll (xs.map f) (ys.map f) = decide (xs = ys)
  | [], [] => rfl
  | [], _ :: _ => rfl
  | _ :: _, [] => rfl
  | x :: xs, y :: ys => by
    rw [List.map_cons, List.map_cons, PyData.eqvAll, eqvAll_map f h xs ys, h, Bool.eq_iff_iff]
    simp
theorem LM_eqv {α : Type} [DecidableEq α] (f : α → PyData) (h : ∀ x y, PyData.eqv (f x) (f y) = decide (x = y)) (xs ys : List α) : PyData.eqv (.list (xs.map f)) (.list (ys.map f)) = decide (xs = ys) := by
  rw [PyData.eqv]; exact eqvAll_map f h xs ys
theorem any_map_eqv {α : Type} [DecidableEq α] (f : α → PyData) (h : ∀ x y, PyData.eqv (f x) (f y) = decide (x = y)) (cs : List α) (c : α) : ((cs.map f).any fun z => PyData.eqv z (f c)) = decide (c ∈ cs) := by
  rw [List.any_map, Bool.eq_iff_iff, List.any_eq_true, decide_eq_true_eq]
  constructor
  · rintro ⟨x, hx, e⟩
    rw [Function.comp_apply, h, decide_eq_true_eq] at e
    exact e ▸ hx
  · intro hc
    exact ⟨c, hc, by rw [Function.comp_apply, h]; exact decide_eq_true rfl⟩
/-! sorted -/
theorem each_zip (zs : List (V × PyData)) : each s (zs.map Prod.fst) (zs.map Prod.snd) = zs.map fun z => It.ow s z.1 z.2 := by
  unfold each
  induction zs with
  | nil => rfl
  | cons z zs ih => rw [List.map_cons, List.map_cons, List.zipWith_cons_cons, ih]; rfl
theorem dl_pair (zs : List (V × PyData)) : (zs.mergeSort (PySem.W.dataLe false Prod.snd)).Pairwise (fun a b => PySem.W.dataLe false Prod.snd a b = true) := PySem.W.sort_pairwise (PySem.W.sortLe_total _ _ _) zs
theorem sortD_pair (xs : List V) (ds : List PyData) : ((sortD xs ds).map Prod.snd).Pairwise fun a b => PySem.W.dataLe false id a b = true := List.pairwise_map.mpr (dl_pair (xs.zip ds))
theorem sortD_dperm {xs : List V} {ds : List PyData} (l : xs.length = ds.length) : ((sortD xs ds).map Prod.snd).Perm ds := by
  have := (sortD_perm xs ds).map Prod.snd
  rwa [zip_snd l] at this
theorem each_sort {xs : List V} {ds : List PyData} (l : xs.length = ds.length) : (each s xs ds).Perm (each s ((sortD xs ds).map Prod.fst) ((sortD xs ds).map Prod.snd)) := by
  rw [each_zip]
  have e : each s xs ds = (xs.zip ds).map fun z => It.ow s z.1 z.2 := by
    have := each_zip (s := s) (xs.zip ds)
    rwa [zip_fst l, zip_snd l] at this
  rw [e]
  exact ((sortD_perm xs ds).map _).symm
/-- sorted of an own list: its items go over into the new one -/
theorem g_sortR (R : Rp K H L) (h : Sel (.ow (.li s) (.ref a) (.list ds)) L L1) (hal : PySem.W.AllAlike ds) (hs : PySem.W.Sortable ds) (hd : ∀ d ∈ ds, d.depth ≤ 50)
    (q : ∀ c H' ds', ds'.Perm ds → ds'.Pairwise (fun a b => PySem.W.dataLe false id a b = true) → Rp K H' (.ow (.li s) (.ref c) (.list ds') :: L1) → Q (.ref c) H') : rSortedD K [.ref a] H Q := by
  have R1 := R.sel h
  obtain ⟨xs0, e0, d0⟩ := R1.raw mem_here
  obtain ⟨a', xs, e, l, R2⟩ := R1.take
  cases e
  have e1 := R2.topAt
  obtain rfl : xs0 = xs := by rw [e0] at e1; cases e1; rfl
  refine ⟨a, xs0, ds, rfl, SqL.of e0, dqAll_dp _ _ d0, hal, hs, hd, fun p np => q p _ _ (sortD_dperm l) (sortD_pair xs0 ds) (Rp.mkL (R2.tail.perm ((each_sort l).append_right _)) (by rw [List.length_map, List.length_map]) np)⟩
theorem un_sh {ps : List Im} : ∀ {xs : List V} {ds : List PyData}, Rf H ps → DqAll K (wo H (ows ps)) xs ds → ∃ qs, UnIs K (each .lf xs ds) qs ∧ Rf H (qs ++ ps) ∧ ∀ a, ows (qs ++ ps) a → ows ps a
  | _, _, r, .nil => ⟨[], .nil, r, fun _ h => h⟩
  | _, _, r, .cons h1 h2 => by
    obtain ⟨qs, u, r', t⟩ := un_sh r h2
    exact ⟨_, .cons (p := [_]) rfl u, r'.addps mono_dp (mono_dp _ _ (wo_less t) h1), fun a ha => t a (ows_ps ha)⟩
/-- a shared list's items, shared -/
theorem Rp.shAll (R : Rp K H L) (h : It.sh v (.list ds) ∈ L) : ∃ a xs, v = .ref a ∧ xs.length = ds.length ∧ H a = some (.lst xs) ∧ Rp K H (each .lf xs ds ++ L) := by
  obtain ⟨L', h'⟩ := sel_of_mem h
  obtain ⟨_, _, h1, t, r⟩ := (R.shM h).inv
  cases h1
  have k := Rf.psK r
  obtain ⟨a, xs, rfl, h3, h4⟩ := Dq.lstI k.2
  obtain ⟨qs, u, r', _⟩ := un_sh (K := K) r.tail h4
  exact ⟨a, xs, rfl, DqAll.len h4, wo_same _ _ h3, _, u.app t, r'⟩
/-- sorted of a shared list -/
theorem g_sortS (R : Rp K H L) (h : It.sh (.ref a) (.list ds) ∈ L) (hal : PySem.W.AllAlike ds) (hs : PySem.W.Sortable ds) (hd : ∀ d ∈ ds, d.depth ≤ 50)
    (q : ∀ c H' ds', ds'.Perm ds → ds'.Pairwise (fun a b => PySem.W.dataLe false id a b = true) → Rp K H' (.ow (.li .lf) (.ref c) (.list ds') :: L) → Q (.ref c) H') : rSortedD K [.ref a] H Q := by
  obtain ⟨xs0, e0, d0⟩ := R.raw h
  obtain ⟨a', xs, e, l, e1, R2⟩ := R.shAll h
  cases e
  obtain rfl : xs0 = xs := by rw [e0] at e1; cases e1; rfl
  refine ⟨a, xs0, ds, rfl, SqL.of e0, dqAll_dp _ _ d0, hal, hs, hd, fun p np => q p _ _ (sortD_dperm l) (sortD_pair xs0 ds) (Rp.mkL (R2.perm ((each_sort l).append_right _)) (by rw [List.length_map, List.length_map]) np)⟩
/-- order of weighted cuts -/
theorem dl_cd {w u : List Int × Rat} (h : PySem.W.dataLe false id (CD w) (CD u) = true) : w.1 ≤ u.1 := by
  have h : (!PySem.W.rowLt [IL u.1, FD u.2] [IL w.1, FD w.2]) = true := h
  by_cases e : u.1 = w.1
  · rw [e]; exact List.le_refl _
  · unfold PySem.W.rowLt at h
    rw [PySem.W.dataLt_all_no (by exact PySem.W.alike_ints u.1 w.1) (by rw [IL_eqv, decide_eq_false e])] at h
    have h2 : PySem.W.dataLe false id (IL w.1) (IL u.1) = true := h
    have := congrFun (congrFun (PySem.W.dataLe_rows (fun x : List Int => x)) w.1) u.1
    have h3 : decide (w.1 ≤ u.1) = true := this.symm.trans h2
    exact of_decide_eq_true h3
theorem dl_cd_lt {w u : List Int × Rat} (h : w.1 < u.1) : PySem.W.dataLe false id (CD w) (CD u) = true := by
  show (!PySem.W.rowLt [IL u.1, FD u.2] [IL w.1, FD w.2]) = true
  unfold PySem.W.rowLt
  rw [PySem.W.dataLt_all_no (by exact PySem.W.alike_ints u.1 w.1) (by rw [IL_eqv, decide_eq_false (fun e => by rw [e] at h; exact List.lt_irrefl _ h)])]
  exact dataLe_il h
theorem il_alike (cs : List (List Int)) : PySem.W.AllAlike (cs.map IL) := cuts_alike
theorem il_sortable (cs : List (List Int)) : PySem.W.Sortable (cs.map IL) := cuts_sortable
theorem wd_alike (ws : List (List Int × Rat)) : PySem.W.AllAlike (ws.map CD) := PySem.W.AllAlike.of fun b b' => by
  show PySem.W.alikeAll [IL b.1, FD b.2] [IL b'.1, FD b'.2] = true
  rw [PySem.W.alikeAll, PySem.W.alikeAll, PySem.W.alikeAll, Bool.and_true]
  rw [show PySem.W.alike (IL b.1) (IL b'.1) = true from PySem.W.alike_ints b.1 b'.1]
  rfl
theorem wd_sortable (ws : List (List Int × Rat)) : PySem.W.Sortable (ws.map CD) := PySem.W.Sortable.tuples fun b => ⟨_, _, rfl⟩
theorem map_perm_inv0 {α : Type} (f : α → PyData) {l1 l2 : List PyData} (h : l1.Perm l2) : ∀ ws : List α, l2 = ws.map f → ∃ us : List α, l1 = us.map f ∧ us.Perm ws := by
  induction h with
  | nil => intro ws e; exact ⟨[], rfl, by rw [List.map_eq_nil_iff.mp e.symm]⟩
  | cons x _ ih =>
    intro ws e
    cases ws with
    | nil => cases e
    | cons w ws =>
      rw [List.map_cons] at e
      cases e
      obtain ⟨us, e, p⟩ := ih ws rfl
      exact ⟨w :: us, by rw [e, List.map_cons], p.cons w⟩
  | swap x y l =>
    intro ws e
    match ws, e with
    | w1 :: w2 :: ws, e =>
      rw [List.map_cons, List.map_cons] at e
      cases e
      exact ⟨w2 :: w1 :: ws, rfl, .swap _ _ _⟩
  | trans _ _ ih1 ih2 =>
    intro ws e
    obtain ⟨us, e1, p1⟩ := ih2 ws e
    obtain ⟨vs, e2, p2⟩ := ih1 us e1
    exact ⟨vs, e2, p2.trans p1⟩
theorem map_perm_inv {α : Type} (f : α → PyData) {ds' : List PyData} {ws : List α} (h : ds'.Perm (ws.map f)) : ∃ us : List α, ds' = us.map f ∧ us.Perm ws := map_perm_inv0 f h ws rfl
theorem le_of_il {a b : List Int} (h : PySem.W.dataLe false id (IL a) (IL b) = true) : a ≤ b := by
  have := congrFun (congrFun (PySem.W.dataLe_rows (fun x : List Int => x)) a) b
  exact of_decide_eq_true (this.symm.trans h)
end
/-! decks, pools -/
def DeckP (xs : List V) : Prop := ∃ a : Int, xs = [.int a]
def PoolP (n : Nat) (xs : List V) : Prop := ∃ a b c : Int, xs = [.int a, .int b, .int c] ∧ 0 ≤ c ∧ c ≤ n
section
variable {K : PySem.W.Frag} {H H' : Hp} {Q : VK} {L L1 : List It} {p : Addr} {E : XK} {m : Int} {n : Nat}
theorem deck_of {xs : List V} (e : H p = some (.lst xs)) (h : DeckP xs) : Deck H p := by
  obtain ⟨a, rfl⟩ := h
  exact ⟨a, e⟩
theorem pool_of {xs : List V} (e : H p = some (.lst xs)) (h : PoolP n xs) : Pool n H p := by
  obtain ⟨a, b, c, rfl, h0, h1⟩ := h
  exact ⟨a, b, c, e, h0, h1⟩
theorem Rp.deck (R : Rp K H (.pr DeckP p :: L)) : Deck H p := by
  obtain ⟨xs, e, h⟩ := R.prAt
  exact deck_of e h
theorem Rp.pool (R : Rp K H (.pr (PoolP n) p :: L)) : Pool n H p := by
  obtain ⟨xs, e, h⟩ := R.prAt
  exact pool_of e h
theorem Rp.deckTo (R : Rp K H (.pr DeckP p :: L)) (b : But p H H') (h : Deck H' p) : Rp K H' (.pr DeckP p :: L) := by
  obtain ⟨a, e⟩ := h
  exact R.chgP b e ⟨a, rfl⟩
theorem Rp.poolTo {n' : Nat} (R : Rp K H (.pr (PoolP n) p :: L)) (b : But p H H') (h : Pool n' H' p) : Rp K H' (.pr (PoolP n') p :: L) := by
  obtain ⟨x, y, c, e, h0, h1⟩ := h
  exact R.chgP b e ⟨x, y, c, rfl, h0, h1⟩
/-- a draw -/
theorem g_dtakeR (R : Rp K H L) (h : Sel (.pr DeckP p) L L1) (h0 : 0 < m) (hm : m.natAbs < 2 ^ 8500) (q : ∀ r H', 0 ≤ r → r < m → Rp K H' (.pr DeckP p :: L1) → Q (.int r) H') : sp_dtake K ([.ref p, .int m] ++ []) H Q E :=
  ⟨p, m, rfl, (R.sel h).deck, h0, hm, fun r H' r0 r1 b d => q r H' r0 r1 ((R.sel h).deckTo b d)⟩
theorem g_takeR (R : Rp K H L) (h : Sel (.pr (PoolP n) p) L L1) (hn : n ≤ 2 ^ 60) (h0 : 0 < m) (hm : m.natAbs < 2 ^ 8500) (q : ∀ r H', 0 ≤ r → r < m → Rp K H' (.pr (PoolP (n + 1)) p :: L1) → Q (.int r) H') : sp_take K ([.ref p, .int m] ++ []) H Q E :=
  ⟨p, n, m, rfl, (R.sel h).pool, hn, h0, hm, fun r H' r0 r1 b d => q r H' r0 r1 ((R.sel h).poolTo b d)⟩
/-- a new one taken in -/
theorem Rp.prNew {P : List V → Prop} {xs : List V} (R : Rp K H L) (n : H p = none) (s : Same H H') (e : H' p = some (.lst xs)) (h : P xs) : Rp K H' (.pr P p :: L) := by
  obtain ⟨ps, u, r⟩ := R
  exact ⟨_, .cons (p := [.top p xs]) ⟨_, h, rfl⟩ u, Rf.join (A := [.top p xs]) ⟨by show [p].Nodup; simp, fun F hF => (by cases List.mem_singleton.mp hF), fun m hm => by cases List.mem_singleton.mp hm; exact e, List.nodup_nil⟩ r (r.same s) (fun b o _ e => s b o e) (fun a ha => by cases List.mem_singleton.mp ha; exact n) (fun F hF => by cases List.mem_singleton.mp hF) rfl fun P hP => by cases List.mem_singleton.mp hP⟩
theorem Rp.deckNew (R : Rp K H L) (n : H p = none) (s : Same H H') (h : Deck H' p) : Rp K H' (.pr DeckP p :: L) := by
  obtain ⟨a, e⟩ := h
  exact R.prNew n s e ⟨a, rfl⟩
theorem Rp.poolNew (R : Rp K H L) (np : H p = none) (s : Same H H') (h : Pool n H' p) : Rp K H' (.pr (PoolP n) p :: L) := by
  obtain ⟨a, b, c, e, h0, h1⟩ := h
  exact R.prNew np s e ⟨a, b, c, rfl, h0, h1⟩
end
/-! comprehensions of ints -/
def rg (lo : Int) (n : Nat) : List Int := (List.range n).map fun i : Nat => lo + (i : Int)
theorem rg_snoc (lo : Int) (n : Nat) : rg lo (n + 1) = rg lo n ++ [lo + n] := by
  unfold rg; rw [List.range_succ, List.map_append]; rfl
theorem mem_rg {lo : Int} {n : Nat} {z : Int} : z ∈ rg lo n ↔ lo ≤ z ∧ z < lo + n := by
  unfold rg
  rw [List.mem_map]
  constructor
  · rintro ⟨i, hi, rfl⟩
    have := List.mem_range.mp hi
    omega
  · intro h
    exact ⟨(z - lo).toNat, List.mem_range.mpr (by omega), by omega⟩
theorem rg_len {lo : Int} {n : Nat} : (rg lo n).length = n := by unfold rg; rw [List.length_map, List.length_range]
section
variable {K : PySem.W.Frag} {H : Hp} {L : List It} {a p : Addr} {σ : L2.St} {g : TG} {tt : TT} {te : TE} {vs : List Nat} {Qd : Hp → Prop} {lo : Int} {n : Nat} {ns : List Int}
theorem filter_take_snoc {f : Int → Bool} {i : Nat} {x : Int} (h : ns[i]? = some x) : (ns.take (i + 1)).filter f = if f x then (ns.take i).filter f ++ [x] else (ns.take i).filter f := by
  rw [take_snoc h, List.filter_append]
  by_cases z : f x
  · simp [z]
  · simp [z]
theorem lcfI_list (f : Int → Bool) (R : Rp K H L) (nL : H p = none) (sz : ns.length < 100000) (hl : ∀ X H', Rp K H' (X :: L) → SqL K H' a (ns.map V.int))
    (turn : ∀ (i : Nat) x X H', ns[i]? = some x → Rp K H' (X :: L) → ∀ (Qy : VK) (Qn : Hp → Prop), (f x = true → ∀ H4, Rp K H4 (X :: L) → Qy (.int x) H4) → (f x = false → ∀ H4, Rp K H4 (X :: L) → Qn H4) → g (.int x) (wipe σ vs) H' fun σ2 H2 => wipe σ2 vs = wipe σ vs ∧ tt σ2 H2 fun b H3 => if b = true then te σ2 H3 Qy else Qn H3)
    (done : ∀ H', Rp K H' (.ow (.li .lf) (.ref p) (IL (ns.filter f)) :: L) → Qd H') : LoopC (Itl K a) g tt te vs p σ Qd H := by
  refine lco_list (xs := ns.map V.int) .lf (fun i ds L' => ds = ((ns.take i).filter f).map PyData.int ∧ L' = L) R nL ⟨rfl, rfl⟩ (by rw [List.length_map]; exact sz) (fun i ds L' X H' ⟨_, z⟩ R' => by subst z; exact hl X H' R') ?_ (fun ds L' H' ⟨e1, e2⟩ R' => by
    subst e1 e2; rw [List.length_map, List.take_length] at R'; exact done H' R')
  rintro i x ds L' X H' hx ⟨rfl, rfl⟩ R Qy Qn q1 q2
  rw [List.getElem?_map] at hx
  obtain ⟨z, hz, rfl⟩ := Option.map_eq_some_iff.mp hx
  exact turn i z X H' hz R Qy Qn (fun hf H4 R4 => q1 _ (.int z) _ H4 ⟨by rw [filter_take_snoc hz, if_pos hf, List.map_append]; rfl, rfl⟩ (R4.int z)) (fun hf H4 R4 => q2 _ H4 ⟨by rw [filter_take_snoc hz, if_neg (by rw [hf]; decide)], rfl⟩ R4)
theorem lcfI_tup (f : Int → Bool) (R : Rp K H L) (nL : H p = none) (sz : ns.length < 100000) (hl : ∀ H', SqT K H' a (ns.map V.int))
    (turn : ∀ (i : Nat) x X H', ns[i]? = some x → Rp K H' (X :: L) → ∀ (Qy : VK) (Qn : Hp → Prop), (f x = true → ∀ H4, Rp K H4 (X :: L) → Qy (.int x) H4) → (f x = false → ∀ H4, Rp K H4 (X :: L) → Qn H4) → g (.int x) (wipe σ vs) H' fun σ2 H2 => wipe σ2 vs = wipe σ vs ∧ tt σ2 H2 fun b H3 => if b = true then te σ2 H3 Qy else Qn H3)
    (done : ∀ H', Rp K H' (.ow (.li .lf) (.ref p) (IL (ns.filter f)) :: L) → Qd H') : LoopC (Itt K a) g tt te vs p σ Qd H := by
  refine lco_tup (xs := ns.map V.int) .lf (fun i ds L' => ds = ((ns.take i).filter f).map PyData.int ∧ L' = L) R nL ⟨rfl, rfl⟩ (by rw [List.length_map]; exact sz) (fun i ds L' X H' _ R' => hl H') ?_ (fun ds L' H' ⟨e1, e2⟩ R' => by
    subst e1 e2; rw [List.length_map, List.take_length] at R'; exact done H' R')
  rintro i x ds L' X H' hx ⟨rfl, rfl⟩ R Qy Qn q1 q2
  rw [List.getElem?_map] at hx
  obtain ⟨z, hz, rfl⟩ := Option.map_eq_some_iff.mp hx
  exact turn i z X H' hz R Qy Qn (fun hf H4 R4 => q1 _ (.int z) _ H4 ⟨by rw [filter_take_snoc hz, if_pos hf, List.map_append]; rfl, rfl⟩ (R4.int z)) (fun hf H4 R4 => q2 _ H4 ⟨by rw [filter_take_snoc hz, if_neg (by rw [hf]; decide)], rfl⟩ R4)
theorem lcfI_range (f : Int → Bool) (R : Rp K H L) (nL : H p = none) (sz : n < 100000)
    (turn : ∀ (i : Nat) X H', i < n → Rp K H' (X :: L) → ∀ (Qy : VK) (Qn : Hp → Prop), (f (lo + i) = true → ∀ H4, Rp K H4 (X :: L) → Qy (.int (lo + i)) H4) → (f (lo + i) = false → ∀ H4, Rp K H4 (X :: L) → Qn H4) → g (.int (lo + i)) (wipe σ vs) H' fun σ2 H2 => wipe σ2 vs = wipe σ vs ∧ tt σ2 H2 fun b H3 => if b = true then te σ2 H3 Qy else Qn H3)
    (done : ∀ H', Rp K H' (.ow (.li .lf) (.ref p) (IL ((rg lo n).filter f)) :: L) → Qd H') : LoopC (Itr lo n) g tt te vs p σ Qd H := by
  refine lco_range .lf (fun i ds L' => ds = ((rg lo i).filter f).map PyData.int ∧ L' = L) R nL ⟨rfl, rfl⟩ sz ?_ (fun ds L' H' ⟨e1, e2⟩ R' => by subst e1 e2; exact done H' R')
  rintro i ds L' X H' hi ⟨rfl, rfl⟩ R Qy Qn q1 q2
  refine turn i X H' hi R Qy Qn (fun hf H4 R4 => q1 _ (.int (lo + i)) _ H4 ⟨?_, rfl⟩ (R4.int _)) (fun hf H4 R4 => q2 _ H4 ⟨?_, rfl⟩ R4)
  · rw [rg_snoc, List.filter_append, List.filter_cons_of_pos hf, List.map_append]; rfl
  · rw [rg_snoc, List.filter_append, List.filter_cons_of_neg (by rw [hf]; decide), List.filter_nil, List.append_nil]
/-- a map of a range to ints -/
theorem lcmI_range (e : Nat → Int) (R : Rp K H L) (nL : H p = none) (sz : n < 100000)
    (turn : ∀ (i : Nat) X H', i < n → Rp K H' (X :: L) → ∀ Qy : VK, (∀ H4, Rp K H4 (X :: L) → Qy (.int (e i)) H4) → g (.int (lo + i)) (wipe σ vs) H' fun σ2 H2 => wipe σ2 vs = wipe σ vs ∧ te σ2 H2 Qy)
    (done : ∀ H', Rp K H' (.ow (.li .lf) (.ref p) (IL ((List.range n).map e)) :: L) → Qd H') : LoopC (Itr lo n) g tYes te vs p σ Qd H := by
  refine lcm_range .lf (fun i => .int (e i)) R nL sz (fun i X H' hi R Qy q => turn i X H' hi R Qy fun H4 R4 => q _ H4 (R4.int _)) fun H' R => done H' ?_
  unfold IL; rw [List.map_map]; exact R
end
section
variable {K : PySem.W.Frag} {H : Hp} {Q : VK} {L : List It} {a b : Addr} {s s1 : Own} {ds : List PyData} {ns : List Int} {x : V}
/-- against a new empty list -/
theorem g_eqNR {y : V} (R : Rp K H L) (h1 : It.ow s x (.list ds) ∈ L) (h2 : It.ow s1 y (.list []) ∈ L) (c1 : SeqAt.shaped (.list ds) = true) (q : Q (.bl (decide (ds = []))) H) : rEqD K x y H Q := g_eqR R h1 h2 c1 rfl (by rw [eqv_nil]; exact q)
theorem g_neNR {y : V} (R : Rp K H L) (h1 : It.ow s x (.list ds) ∈ L) (h2 : It.ow s1 y (.list []) ∈ L) (c1 : SeqAt.shaped (.list ds) = true) (q : Q (.bl (!decide (ds = []))) H) : rNeD K x y H Q := g_neR R h1 h2 c1 rfl (by rw [eqv_nil]; exact q)
theorem g_eqNI {y : V} (R : Rp K H L) (h1 : It.ow s x (IL ns) ∈ L) (h2 : It.ow s1 y (.list []) ∈ L) (q : Q (.bl (decide (ns = []))) H) : rEqD K x y H Q := g_eqNR R h1 h2 (Sh.il.ok (by decide)) (by
  rw [show decide (ns.map PyData.int = []) = decide (ns = []) by simp]; exact q)
theorem g_neNI {y : V} (R : Rp K H L) (h1 : It.ow s x (IL ns) ∈ L) (h2 : It.ow s1 y (.list []) ∈ L) (q : Q (.bl (!decide (ns = []))) H) : rNeD K x y H Q := g_neNR R h1 h2 (Sh.il.ok (by decide)) (by
  rw [show decide (ns.map PyData.int = []) = decide (ns = []) by simp]; exact q)
end
section
variable {K : PySem.W.Frag} {H : Hp} {Q : VK} {L : List It} {a b : Addr} {s s1 : Own} {ds : List PyData} {ns : List Int} {x : V} {i : Int} {α : Type} {f : α → PyData} {ws : List α}
/-- an item of a list of things of one kind -/
theorem g_ixM (k : Nat) (d0 : α) (R : Rp K H L) (m : It.sh (.ref a) (.list (ws.map f)) ∈ L) (hi : i = (k : Nat)) (hk : k < ws.length) (q : ∀ w, Rp K H (.sh w (f (ws.getD k d0)) :: L) → Q w H) : rIxL K (.ref a) (.int i) H Q :=
  g_ixS R m hi (by rw [List.getElem?_map, List.getD_eq_getElem?_getD, List.getElem?_eq_getElem hk]; rfl) q
theorem g_ixMF (k : Nat) (d0 : α) (R : Rp K H L) (m : It.ow s (.ref a) (.list (ws.map f)) ∈ L) (hi : i = (k : Nat)) (hk : k < ws.length) (n : noL (f (ws.getD k d0)) = true) (q : ∀ w, Rp K H (.sh w (f (ws.getD k d0)) :: L) → Q w H) : rIxL K (.ref a) (.int i) H Q :=
  g_ixF R m hi (by rw [List.getElem?_map, List.getD_eq_getElem?_getD, List.getElem?_eq_getElem hk]; rfl) n q
theorem g_ixIL (k : Nat) (R : Rp K H L) (m : It.ow s (.ref a) (IL ns) ∈ L) (hi : i = (k : Nat)) (hk : k < ns.length) (q : Q (.int (ns.getD k 0)) H) : rIxL K (.ref a) (.int i) H Q :=
  g_ixI R m hi (by rw [List.getElem?_map, List.getD_eq_getElem?_getD, List.getElem?_eq_getElem hk]; rfl) q
theorem g_isiLR (R : Rp K H L) (m : It.ow s (.ref a) (.list ds) ∈ L) (q : Q (.bl true) H) : rIsi K [.ref a, .ty "list"] H Q := by
  obtain ⟨xs, h, _⟩ := R.raw m
  exact g_isiL (SqL.of h) q
theorem g_isiTR (R : Rp K H L) (m : It.ow s (.ref a) (.tuple ds) ∈ L) (q : Q (.bl true) H) : rIsi K [.ref a, .ty "tuple"] H Q := by
  obtain ⟨xs, h, _⟩ := R.rawT m
  exact g_isiT h q
theorem g_isiLTR (R : Rp K H L) (m : It.ow s (.ref a) (.list ds) ∈ L) (q : Q (.bl false) H) : rIsi K [.ref a, .ty "tuple"] H Q := by
  obtain ⟨xs, h, _⟩ := R.raw m
  exact g_isiLT (SqL.of h) q
theorem g_isiTLR (R : Rp K H L) (m : It.ow s (.ref a) (.tuple ds) ∈ L) (q : Q (.bl false) H) : rIsi K [.ref a, .ty "list"] H Q := by
  obtain ⟨xs, h, _⟩ := R.rawT m
  exact g_isiTL h q
theorem tyLR (R : Rp K H L) (m : It.ow s (.ref a) (.list ds) ∈ L) : tyV K "list" (.ref a) H := by
  obtain ⟨xs, h1, _⟩ := R.raw m
  exact ty_l h1
end
/-- a list's method: its list stands -/
theorem tBMq {K : PySem.W.Frag} {a : Addr} {H : Hp} {T : String} {B : Prop} (h : tyV K T (.ref a) H) (q : B) : tyV K T (.ref a) H ∧ B := ⟨h, q⟩
section
variable {K : PySem.W.Frag} {H H' : Hp} {Q : VK} {L L1 L2 L3 : List It} {a b p : Addr} {s s1 : Own} {d e f : PyData} {ds : List PyData} {v x y z : V} {xs : List V}
/-- a tuple of flat things -/
theorem g_tupF {G : Addr → Prop} (ds : List PyData) (R : Rp K H L) (l : xs.length ≤ 100000) (h : ∀ H' : Hp, Same H H' → DqAll K H' xs ds) (n : noLs ds = true) (k : ∀ p, H p = none → Rp K (upd H p (.tup xs)) (.sh (.ref p) (.tuple ds) :: L) → G p) : xs.length ≤ sizeLine ∧ ∀ p, H p = none → G p :=
  ⟨sz_le l, fun p np => k p np ((R.same (same_new np)).flat (.tup sqT_at (h _ (same_new np))) (by show noLs ds = true; exact n))⟩
theorem Dq.t2I (h : Dq K H v (.tuple [d, e])) : ∃ a x y, v = .ref a ∧ SqT K H a [x, y] ∧ Dq K H x d ∧ Dq K H y e := by
  cases h with
  | tup h1 h2 =>
    cases h2 with
    | cons h3 h4 =>
      cases h4 with
      | cons h5 h6 =>
        cases h6
        exact ⟨_, _, _, rfl, h1, h3, h5⟩
theorem Dq.t3I (h : Dq K H v (.tuple [d, e, f])) : ∃ a x y z, v = .ref a ∧ SqT K H a [x, y, z] ∧ Dq K H x d ∧ Dq K H y e ∧ Dq K H z f := by
  cases h with
  | tup h1 h2 =>
    cases h2 with
    | cons h3 h4 =>
      cases h4 with
      | cons h5 h6 =>
        cases h6 with
        | cons h7 h8 =>
          cases h8
          exact ⟨_, _, _, _, rfl, h1, h3, h5, h7⟩
/-- a shared pair taken apart -/
theorem Rp.sh2 (R : Rp K H L) (h : It.sh v (.tuple [d, e]) ∈ L) : ∃ a x y, v = .ref a ∧ SqT K H a [x, y] ∧ Rp K H (.sh x d :: .sh y e :: L) := by
  obtain ⟨a, xs, rfl, l, hs, R'⟩ := R.tv h
  match xs, l with
  | [x, y], _ =>
    refine ⟨a, x, y, rfl, hs, ?_⟩
    have R1 := R'.tvAt (i := 1) (x := y) (d := e) mem_here rfl rfl
    have R2 := R1.tvAt (i := 0) (x := x) (d := d) (.tail _ mem_here) rfl rfl
    exact R2.wk (.take .here (.take .here (.drop .refl)))
theorem Rp.sh3 (R : Rp K H L) (h : It.sh v (.tuple [d, e, f]) ∈ L) : ∃ a x y z, v = .ref a ∧ SqT K H a [x, y, z] ∧ Rp K H (.sh x d :: .sh y e :: .sh z f :: L) := by
  obtain ⟨a, xs, rfl, l, hs, R'⟩ := R.tv h
  match xs, l with
  | [x, y, z], _ =>
    refine ⟨a, x, y, z, rfl, hs, ?_⟩
    have R1 := R'.tvAt (i := 2) (x := z) (d := f) mem_here rfl rfl
    have R2 := R1.tvAt (i := 1) (x := y) (d := e) (.tail _ mem_here) rfl rfl
    have R3 := R2.tvAt (i := 0) (x := x) (d := d) (.tail _ (.tail _ mem_here)) rfl rfl
    exact R3.wk (.take .here (.take .here (.take .here (.drop .refl))))
theorem g_l3R {G : Addr → Prop} (R : Rp K H L) (h1 : Sel (.ow s x d) L L1) (h2 : Sel (.ow s y e) L1 L2) (h3 : Sel (.ow s z f) L2 L3) (k : ∀ c, H c = none → Rp K (upd H c (.lst [x, y, z])) (.ow (.li s) (.ref c) (.list [d, e, f]) :: L3) → G c) : [x, y, z].length ≤ sizeLine ∧ ∀ p, H p = none → G p :=
  ⟨by show 3 ≤ sizeLine; decide, fun p np => k p np (Rp.mkL (xs := [x, y, z]) (ds := [d, e, f]) ((R.sel h1).perm ((h2.perm.trans (h3.perm.cons _)).cons _)) rfl np)⟩
/-- a shared list's loop: where it stands -/
theorem Rp.svL (R : Rp K H L) (h : It.ps (Sv K a xs ds) ∈ L) : SqL K H a xs := SqL.of (R.psOf h).1
end
section
variable {K : PySem.W.Frag} {σ : L2.St} {H : Hp} {a : Addr} {g : TG} {t : TGs} {v : V} {vs : List V} {n : Nat} {Q : L2.St → Hp → Prop}
instance : St1 (gCons g t (v :: vs) σ H Q) (g v σ H fun σ1 H1 => t vs σ1 H1 Q) := ⟨fun h => ⟨v, vs, rfl, h⟩⟩
instance : St1 (gNil [] σ H Q) (Q σ H) := ⟨fun h => ⟨rfl, h⟩⟩
theorem g_gTup (h : SqT K H a vs) (l : vs.length = n) (q : t vs σ H Q) : gTup K n t (.ref a) σ H Q := ⟨a, vs, rfl, h, l, q⟩
end
section
variable {K : PySem.W.Frag} {H : Hp} {L L1 : List It} {a p : Addr} {σ : L2.St} {g : TG} {tt : TT} {te : TE} {vs : List Nat} {Qd : Hp → Prop} {ds0 : List PyData}
/-- a map over a list of one's own, which stays -/
theorem lcf_ow (s : Own) (f : PyData → Bool) (e : PyData → PyData) (R : Rp K H L) (h : Sel (.ow (.li .lf) (.ref a) (.list ds0)) L L1) (nL : H p = none) (sz : ds0.length < 100000)
    (turn : ∀ (i : Nat) x d X M H', ds0[i]? = some d → Rp K H' (.sh x d :: X :: (M ++ L1)) → ∀ (Qy : VK) (Qn : Hp → Prop), (f d = true → ∀ y H4, Rp K H4 (.ow s y (e d) :: X :: (M ++ L1)) → Qy y H4) → (f d = false → ∀ H4, Rp K H4 (X :: (M ++ L1)) → Qn H4) → g x (wipe σ vs) H' fun σ2 H2 => wipe σ2 vs = wipe σ vs ∧ tt σ2 H2 fun b H3 => if b = true then te σ2 H3 Qy else Qn H3)
    (done : ∀ H', Rp K H' (.ow (.li s) (.ref p) (.list ((ds0.filter f).map e)) :: .ow (.li .lf) (.ref a) (.list ds0) :: L1) → Qd H') : LoopC (Itl K a) g tt te vs p σ Qd H := by
  obtain ⟨a', xs, e', l, R⟩ := (R.sel h).take
  cases e'
  refine lco_list (xs := xs) s (fun i ds L' => ds = ((ds0.take i).filter f).map e ∧ L' = .top a xs :: (each .lf xs ds0 ++ L1)) R nL ⟨rfl, rfl⟩ (by omega) (fun i ds L' X H' ⟨_, z⟩ R' => by subst z; exact SqL.of (R'.topOf (.tail _ mem_here))) ?_ (fun ds L' H' ⟨e1, e2⟩ R' => by
    subst e1 e2; rw [l, List.take_length] at R'
    refine done H' ((Rp.put (R'.perm ?_) l).perm (.swap _ _ _))
    refine List.Perm.trans (.swap _ _ _) (.cons _ ?_)
    exact List.perm_middle.symm)
  rintro i x ds L' X H' hx ⟨rfl, rfl⟩ R Qy Qn q1 q2
  have hi : i < ds0.length := by rw [← l]; exact (List.getElem?_eq_some_iff.mp hx).1
  have hd : ds0[i]? = some ds0[i] := List.getElem?_eq_getElem hi
  refine turn i x _ X (.top a xs :: each .lf xs ds0) H' hd (R.shM (.tail _ (.tail _ (List.mem_append_left _ (each_mem hx hd))))) Qy Qn (fun hf y H4 R4 => q1 y _ _ H4 ⟨?_, rfl⟩ R4) (fun hf H4 R4 => q2 _ H4 ⟨?_, rfl⟩ R4)
  · rw [take_snoc hd, List.filter_append, List.map_append, List.filter_cons_of_pos hf]; rfl
  · rw [take_snoc hd, List.filter_append, List.map_append, List.filter_cons_of_neg (by rw [hf]; decide), List.filter_nil, List.map_nil, List.append_nil]
theorem lcm_ow (s : Own) (e : PyData → PyData) (R : Rp K H L) (h : Sel (.ow (.li .lf) (.ref a) (.list ds0)) L L1) (nL : H p = none) (sz : ds0.length < 100000)
    (turn : ∀ (i : Nat) x d X M H', ds0[i]? = some d → Rp K H' (.sh x d :: X :: (M ++ L1)) → ∀ (Qy : VK), (∀ y H4, Rp K H4 (.ow s y (e d) :: X :: (M ++ L1)) → Qy y H4) → g x (wipe σ vs) H' fun σ2 H2 => wipe σ2 vs = wipe σ vs ∧ te σ2 H2 Qy)
    (done : ∀ H', Rp K H' (.ow (.li s) (.ref p) (.list (ds0.map e)) :: .ow (.li .lf) (.ref a) (.list ds0) :: L1) → Qd H') : LoopC (Itl K a) g tYes te vs p σ Qd H := by
  refine lcf_ow s (fun _ => true) e R h nL sz (fun i x d X M H' hd R Qy Qn q1 _ => turn i x d X M H' hd R Qy fun y H4 R4 => q1 rfl y H4 R4) fun H' R => done H' ?_
  rw [List.filter_eq_self.mpr fun _ _ => rfl] at R
  exact R
end
section
variable {K : PySem.W.Frag} {H : Hp} {Q : VK} {L L1 : List It} {i j : Int} {a b : Addr} {s : Own} {ns : List Int}
theorem g_shl (c : CPow i j) (q : Q (.int (i * 2 ^ j.toNat)) H) : rI CPow (fun i j => .int (i * 2 ^ j.toNat)) (.int i) (.int j) H Q := ⟨i, j, rfl, rfl, c, q⟩
theorem g_shr (c : 0 ≤ j) (q : Q (.int (i / 2 ^ j.toNat)) H) : rI (fun _ j => 0 ≤ j) (fun i j => .int (i / 2 ^ j.toNat)) (.int i) (.int j) H Q := ⟨i, j, rfl, rfl, c, q⟩
theorem g_sortI (R : Rp K H L) (h : It.ow s (.ref a) (IL ns) ∈ L) (q : ∀ c H' ns', ns'.Perm ns → ns'.Pairwise (· ≤ ·) → Rp K H' (.ow (.li .lf) (.ref c) (IL ns') :: L) → Q (.ref c) H') : rSortedI K [.ref a] H Q :=
  ⟨a, ns, rfl, R.ilS h, fun ns' p hp hs np => q p _ ns' hp hs (R.mkI np)⟩
theorem fd_int (i : Int) : FD ((i : Int) : Rat) = .tuple [.int i, .int 1] := rfl
end
theorem map_snoc {α β : Type} (f : α → β) (xs : List α) (x : α) : xs.map f ++ [f x] = (xs ++ [x]).map f := by rw [List.map_append]; rfl
section
variable {K : PySem.W.Frag} {H : Hp} {L : List Fc.It} {a : Addr} {s : Own} {ds : List PyData} {Rx : L2.It → Hp → Prop}
theorem g_ilM (R : Rp K H L) (m : Fc.It.ow s (.ref a) (.list ds) ∈ L) (q : Rx (Itl K a) H) : ilR K Rx (.ref a) H := by
  obtain ⟨xs, h, _⟩ := R.raw m
  exact g_ilR (SqL.of h) q
end
section
variable {K : PySem.W.Frag} {H : Hp} {Q : VK} {L : List Fc.It} {a : Addr} {s : Own} {ns : List Int} {xs : List V}
theorem mono_sql : ∀ H H' : Hp, Same H H' → SqL K H a xs → SqL K H' a xs := fun _ _ s h => sqL_same s h
/-- the script -/
theorem Rp.arg0 (h : SqL K H a xs) : Rp K H [.ps (fun H => SqL K H a xs)] := ⟨_, .cons (p := [_]) rfl .nil, Rf.addps (L := []) mono_sql (by rw [wo_no fun _ => ows_nil]; exact h) Rf.nil⟩
theorem g_listI (R : Rp K H L) (m : Fc.It.ow s (.ref a) (IL ns) ∈ L) (q : ∀ c H', Rp K H' (.ow (.li .lf) (.ref c) (IL ns) :: L) → Q (.ref c) H') : rListOf K [.ref a] H Q :=
  ⟨a, _, rfl, .inl (R.ilS m), fun l nl => q l _ (R.mkI nl)⟩
/-- a slice of a list of ints: some of them -/
theorem g_slI {lo hi : Option Int} (h : SqL K H a (ns.map V.int)) (R : Rp K H L) (q : ∀ c H' ms, ms.length ≤ ns.length → Rp K H' (.ow (.li .lf) (.ref c) (IL ms) :: L) → Q (.ref c) H') : rSlL K (.ref a) lo hi H Q := by
  obtain ⟨ms, e, l⟩ := cutV_int ns lo hi
  exact ⟨a, _, rfl, h, fun p np => q p _ ms l (by rw [e]; exact R.mkI np)⟩
/-- one of some ints -/
theorem g_ixAny {i : Int} (p : Int → Prop) (R : Rp K H L) (m : Fc.It.ow s (.ref a) (IL ns) ∈ L) (h0 : 0 ≤ i) (h1 : i < ns.length) (hp : ∀ z ∈ ns, p z) (q : ∀ z, p z → Q (.int z) H) : rIxL K (.ref a) (.int i) H Q := by
  obtain ⟨z, hz, pz⟩ := atI_of p h0 h1 hp
  exact g_ixL (R.ilS m) hz (q z pz)
end
section
variable {K : PySem.W.Frag} {σ : L2.St} {H : Hp} {Q : VK} {te t : TE} {tl th : TO} {r : V → Option Int → Option Int → Hp → VK → Prop} {G : Option Int → Hp → Prop} {i : Int} {B : Int → Prop}
instance : St1 (tSl r te tl th σ H Q) (te σ H fun x H1 => tl σ H1 fun l H2 => th σ H2 fun u H3 => r x l u H3 Q) := ⟨fun h => h⟩
instance : St1 (tNoPart σ H G) (G none H) := ⟨fun h => h⟩
instance : St1 (tPart t σ H G) (t σ H fun x H1 => ∃ i, x = .int i ∧ G (some i) H1) := ⟨fun h => h⟩
instance : St1 (∃ k, V.int i = .int k ∧ B k) (B i) := ⟨fun h => ⟨i, rfl, h⟩⟩
end
section
variable {K : PySem.W.Frag} {H H' : Hp} {Q : VK} {L L1 : List Fc.It} {a b p : Addr} {s s1 : Own} {ds es : List PyData} {n m : Nat} {E : XK}
theorem Rp.poolMono (R : Rp K H (.pr (PoolP n) p :: L)) (h : n ≤ m) : Rp K H (.pr (PoolP m) p :: L) := R.poolTo (But.refl _ _) (R.pool.mono h)
theorem g_figR (R : Rp K H L) (h : Sel (.pr (PoolP n) p) L L1) (hn : n ≤ 2 ^ 59) (q : ∀ r H', 0 ≤ r → r < 10 ^ 40 → Rp K H' (.pr (PoolP (n + 10)) p :: L1) → Q (.int r) H') : sp_figures K ([.ref p] ++ []) H Q E :=
  ⟨p, n, rfl, (R.sel h).pool, hn, fun r H' r0 r1 b d => q r H' r0 r1 ((R.sel h).poolTo b d)⟩
/-- two shared lists put together -/
theorem g_catS (R : Rp K H L) (h1 : Fc.It.sh (.ref a) (.list ds) ∈ L) (h2 : Fc.It.sh (.ref b) (.list es) ∈ L) (z : ds.length + es.length ≤ 100000) (k : ∀ c H', Rp K H' (.ow (.li .lf) (.ref c) (.list (ds ++ es)) :: L) → Q (.ref c) H') : rCat (.ref a) (.ref b) H Q := by
  obtain ⟨b', ys, e2, l2, eb, R2⟩ := R.shAll h2
  cases e2
  obtain ⟨a', xs, e1, l1, ea, R1⟩ := R2.shAll (List.mem_append_right _ h1)
  cases e1
  refine ⟨a, b, xs, ys, rfl, rfl, ea, eb, sz_le (by omega), fun p np => k p _ (Rp.mkL (xs := xs ++ ys) (ds := ds ++ es) ?_ (by rw [List.length_append, List.length_append, l1, l2]) np)⟩
  rw [each_app l1, List.append_assoc]
  exact R1
end
section
variable {K : PySem.W.Frag} {H H' : Hp} {Q : VK} {L L1 : List Fc.It} {a b p : Addr} {v : V} {d : PyData} {ds es : List PyData} {k : Nat}
/-- an item of a list of one's own with shared items -/
theorem Rp.owAt (R : Rp K H L) (h : Fc.It.ow (.li .lf) v (.list ds) ∈ L) (hd : ds[k]? = some d) : ∃ a xs x, v = .ref a ∧ H a = some (.lst xs) ∧ xs.length = ds.length ∧ xs[k]? = some x ∧ Rp K H (.sh x d :: L) := by
  obtain ⟨L', h'⟩ := sel_of_mem h
  obtain ⟨a, xs, rfl, l, R1⟩ := (R.sel h').take
  have hi : k < xs.length := by rw [l]; exact (List.getElem?_eq_some_iff.mp hd).1
  have hx : xs[k]? = some xs[k] := List.getElem?_eq_getElem hi
  have R2 := R1.shM (.tail _ (List.mem_append_left _ (each_mem hx hd)))
  refine ⟨a, xs, _, rfl, R1.topAt, l, hx, ?_⟩
  have R3 : Rp K H (.top a xs :: (each .lf xs ds ++ (.sh xs[k] d :: L'))) := R2.perm ((List.Perm.swap _ _ _).trans (.cons _ List.perm_middle.symm))
  exact (R3.put l).perm ((List.Perm.swap _ _ _).trans (.cons _ h'.perm.symm))
theorem g_ixOw (k : Nat) {i : Int} (R : Rp K H L) (h : Fc.It.ow (.li .lf) (.ref a) (.list ds) ∈ L) (hi : i = (k : Nat)) (hd : ds[k]? = some d) (q : ∀ w, Rp K H (.sh w d :: L) → Q w H) : rIxL K (.ref a) (.int i) H Q := by
  obtain ⟨b, xs, x, e, hb, _, hx, R'⟩ := R.owAt h hd
  cases e
  exact g_ixL (SqL.of hb) (by rw [hi]; exact atI_nat hx) (q x R')
/-- the last one -/
theorem g_ixOwL (R : Rp K H L) (h : Fc.It.ow (.li .lf) (.ref a) (.list (ds ++ [d])) ∈ L) (q : ∀ w, Rp K H (.sh w d :: L) → Q w H) : rIxL K (.ref a) (.int (-1)) H Q := by
  obtain ⟨b, xs, x, e, hb, l, hx, R'⟩ := R.owAt (k := ds.length) (d := d) h (by simp)
  cases e
  have e2 : xs = xs.take ds.length ++ [x] := by
    have : xs.length = ds.length + 1 := by rw [l]; simp
    rw [← take_snoc hx, List.take_of_length_le (by omega)]
  exact g_ixL (SqL.of hb) (by rw [e2]; exact atI_last _ _) (q x R')
end
theorem list_lt_of_le_ne {a b : List Int} (h : a ≤ b) (n : a ≠ b) : a < b := by
  apply Classical.byContradiction
  intro z
  exact n (List.le_antisymm h (List.not_lt.mp z))
section
variable {K : PySem.W.Frag} {σ : L2.St} {H : Hp} {Q : VK} {L : List Fc.It} {ta tb : TE} {te : L2.St → Hp → (Int → Int → Hp → Prop) → Prop} {G : Int → Int → Hp → Prop} {i j : Int}
instance : St1 (tLstRg te σ H Q) (te σ H fun a b H1 => RgOk a b ∧ ∀ q, H1 q = none → Q (.ref q) (upd H1 q (.lst (rgV a b)))) := ⟨fun h => h⟩
instance : St1 (tRg2 ta tb σ H G) (ta σ H fun x H1 => tb σ H1 fun y H2 => ∃ i j, x = .int i ∧ y = .int j ∧ G i j H2) := ⟨fun h => h⟩
instance : St1 (tRg1 ta σ H G) (ta σ H fun x H1 => ∃ n, x = .int n ∧ G 0 n H1) := ⟨fun h => h⟩
instance {G2 : Int → Int → Prop} : St1 (∃ a b, V.int i = .int a ∧ V.int j = .int b ∧ G2 a b) (G2 i j) := ⟨fun h => ⟨i, j, rfl, rfl, h⟩⟩
theorem rgV_rg (a b : Int) : rgV a b = (rg a (b - a).toNat).map V.int := by unfold rgV rg; rw [List.map_map]; rfl
/-- list(range(..)) -/
theorem g_lstRg {F : Addr → Prop} (R : Rp K H L) (h : 0 ≤ i ∧ i ≤ 16777216 ∧ 0 ≤ j ∧ j ≤ 16777216) (k : ∀ c, H c = none → Rp K (upd H c (.lst (rgV i j))) (.ow (.li .lf) (.ref c) (IL (rg i (j - i).toNat)) :: L) → F c) : RgOk i j ∧ ∀ q, H q = none → F q :=
  ⟨RgOk.of_le h.1 h.2.2.2 h.2.1 h.2.2.1, fun q nq => k q nq (by rw [rgV_rg]; exact R.mkI nq)⟩
end
/-! ### rows of one's own, changed in place -/
section
variable {K : PySem.W.Frag} {H H' : Hp} {Q : VK} {L L1 L2 : List Fc.It} {a b p : Addr} {xs ys : List V} {v x y z : V} {d e f : PyData} {ds es : List PyData} {s : Own} {i j : Int} {k n : Nat}
/-- an item exchanged for another one -/
theorem Rp.focus2 {k : Nat} (R : Rp K H (.top a xs :: (each s xs ds ++ L))) (hx : xs[k]? = some x) (hd : ds[k]? = some d) : ∃ C, Rp K H (.ow s x d :: .top a xs :: (C ++ L)) ∧ ∀ H' ys y e M, Rp K H' (.ow s y e :: .top a ys :: (C ++ M)) → Rp K H' (.top a ys :: (each s (xs.set k y) (ds.set k e) ++ M)) := by
  obtain ⟨l1, e1⟩ := List.getElem?_eq_some_iff.mp hx
  obtain ⟨l2, e2⟩ := List.getElem?_eq_some_iff.mp hd
  have ex : ∀ y, xs.set k y = xs.take k ++ y :: xs.drop (k + 1) := fun y => List.set_eq_take_append_cons_drop.trans (by rw [if_pos l1])
  have ed : ∀ e, ds.set k e = ds.take k ++ e :: ds.drop (k + 1) := fun e => List.set_eq_take_append_cons_drop.trans (by rw [if_pos l2])
  have ex0 : xs = xs.take k ++ x :: xs.drop (k + 1) := by rw [← e1, ← List.drop_eq_getElem_cons l1, List.take_append_drop]
  have ed0 : ds = ds.take k ++ d :: ds.drop (k + 1) := by rw [← e2, ← List.drop_eq_getElem_cons l2, List.take_append_drop]
  have lt : (xs.take k).length = (ds.take k).length := by rw [List.length_take, List.length_take]; omega
  have key : ∀ y e, each s (xs.set k y) (ds.set k e) = each s (xs.take k) (ds.take k) ++ .ow s y e :: each s (xs.drop (k + 1)) (ds.drop (k + 1)) := fun y e => by
    rw [ed e, ex y, each_app lt]; rfl
  have key0 : each s xs ds = each s (xs.take k) (ds.take k) ++ .ow s x d :: each s (xs.drop (k + 1)) (ds.drop (k + 1)) := by
    conv => lhs; rw [ex0, ed0]
    rw [each_app lt]; rfl
  have pm : ∀ ys y e M, List.Perm (.top a ys :: (each s (xs.take k) (ds.take k) ++ .ow s y e :: each s (xs.drop (k + 1)) (ds.drop (k + 1)) ++ M)) (.ow s y e :: .top a ys :: ((each s (xs.take k) (ds.take k) ++ each s (xs.drop (k + 1)) (ds.drop (k + 1))) ++ M)) := fun ys y e M => by
    refine List.Perm.trans (.cons _ ?_) (.swap _ _ _)
    rw [List.append_assoc, List.append_assoc]
    exact List.perm_middle
  refine ⟨each s (xs.take k) (ds.take k) ++ each s (xs.drop (k + 1)) (ds.drop (k + 1)), ?_, fun H' ys y e M R' => ?_⟩
  · rw [key0] at R
    exact R.perm (pm xs x d L)
  · rw [key y e]
    exact R'.perm (pm ys y e M).symm
/-- an own list's item is exchanged -/
theorem Rp.setOw (R : Rp K H (.ow (.li s) (.ref a) (.list ds) :: .ow s y e :: L)) (hk : k < ds.length) : ∃ xs, H a = some (.lst xs) ∧ xs.length = ds.length ∧ Rp K (upd H a (.lst (xs.set k y))) (.ow (.li s) (.ref a) (.list (ds.set k e)) :: L) := by
  obtain ⟨a', xs, ea, l, R1⟩ := R.take
  cases ea
  have hx : xs[k]? = some xs[k] := List.getElem?_eq_getElem (by omega)
  have hd : ds[k]? = some ds[k] := List.getElem?_eq_getElem hk
  obtain ⟨C, R2, back⟩ := R1.focus2 hx hd
  refine ⟨xs, R1.topAt, l, ?_⟩
  have R3 : Rp K H (.top a xs :: .ow s y e :: (C ++ L)) := by
    refine R2.tail.perm (.cons _ ?_)
    exact List.perm_middle
  have R4 := (R3.mut (ys := xs.set k y)).perm (.swap _ _ _)
  exact (back _ _ _ _ _ R4).put (by rw [List.length_set, List.length_set, l])
theorem g_setR (R : Rp K H L) (h1 : Sel (.ow (.li s) (.ref a) (.list ds)) L L1) (h2 : Sel (.ow s y e) L1 L2) (hi : i = (k : Nat)) (hk : k < ds.length) {G : Hp → Prop} (q : ∀ H', Rp K H' (.ow (.li s) (.ref a) (.list (ds.set k e)) :: L2) → G H') : rSetL (.ref a) (.int i) y H G := by
  have R1 : Rp K H (.ow (.li s) (.ref a) (.list ds) :: .ow s y e :: L2) := (R.sel h1).perm (h2.perm.cons _)
  obtain ⟨xs, ea, l, R2⟩ := R1.setOw hk
  refine ⟨a, xs, i, k, rfl, rfl, ea, ?_, q _ R2⟩
  unfold ixN
  rw [hi, if_pos (by omega), if_pos (by omega)]
  rfl
/-- a row of an own list of own rows, looked at -/
theorem g_ixRow {rows : List (List Rat)} (k : Nat) (R : Rp K H L) (m : Fc.It.ow oT (.ref a) (TD rows) ∈ L) (hi : i = (k : Nat)) (hk : k < rows.length) (q : ∀ r vs, H r = some (.lst vs) → DqAll K H vs ((rows.getD k []).map FD) → (∃ xs, H a = some (.lst xs) ∧ xs[k]? = some (.ref r)) → Q (.ref r) H) : rIxL K (.ref a) (.int i) H Q := by
  obtain ⟨xs, h1, h2⟩ := R.raw m
  obtain ⟨w, hw, hd⟩ := DqAll.get h2 (i := k) (d := FL (rows.getD k [])) (by rw [List.getElem?_map, List.getD_eq_getElem?_getD, List.getElem?_eq_getElem hk]; rfl)
  obtain ⟨r, vs, rfl, h3, h4⟩ := Dq.lstI hd
  exact g_ixL (SqL.of h1) (by rw [hi]; exact atI_nat hw) (q r vs h3 h4 ⟨xs, h1, hw⟩)
theorem g_ixCell {row : List Rat} {vs : List V} (k : Nat) (R : Rp K H L) (e : H a = some (.lst vs)) (hd : DqAll K H vs (row.map FD)) (hi : i = (k : Nat)) (hk : k < row.length) (q : ∀ c, Rp K H (.sh (.ref c) (FD (row.getD k 0)) :: L) → Q (.ref c) H) : rIxL K (.ref a) (.int i) H Q := by
  obtain ⟨w, hw, h⟩ := DqAll.get hd (i := k) (d := FD (row.getD k 0)) (by rw [List.getElem?_map, List.getD_eq_getElem?_getD, List.getElem?_eq_getElem hk]; rfl)
  obtain ⟨c, rfl, fr⟩ := dq_frR h
  exact g_ixL (SqL.of e) (by rw [hi]; exact atI_nat hw) (q c (R.flat h rfl))
/-- found[i][j] = v -/
theorem g_set2 {rows : List (List Rat)} {r : Addr} {x : Rat} (k m : Nat) (R : Rp K H L) (h1 : Sel (.ow oT (.ref a) (TD rows)) L L1) (h2 : Sel (.sh y (FD x)) L1 L2) (hk : k < rows.length) (hr : ∃ xs, H a = some (.lst xs) ∧ xs[k]? = some (.ref r)) (hj : j = (m : Nat)) (hm : m < (rows.getD k []).length) {G : Hp → Prop}
    (q : ∀ H', Rp K H' (.ow oT (.ref a) (TD (rows.set k ((rows.getD k []).set m x))) :: L2) → G H') : rSetL (.ref r) (.int j) y H G := by
  have R1 : Rp K H (.ow oT (.ref a) (TD rows) :: .sh y (FD x) :: L2) := (R.sel h1).perm (h2.perm.cons _)
  obtain ⟨a', xs, ea, l, R2⟩ := R1.take
  cases ea
  obtain ⟨xs', e', hx⟩ := hr
  obtain rfl : xs' = xs := by have := R2.topAt; rw [e'] at this; cases this; rfl
  have hd : (rows.map FL)[k]? = some (FL (rows.getD k [])) := by rw [List.getElem?_map, List.getD_eq_getElem?_getD, List.getElem?_eq_getElem hk]; rfl
  obtain ⟨C, R3, back⟩ := R2.focus2 hx hd
  have R4 : Rp K H (.ow (.li .lf) (.ref r) (FL (rows.getD k [])) :: .sh y (FD x) :: .top a xs' :: (C ++ L2)) := R3.perm (.cons _ ((List.Perm.cons _ List.perm_middle).trans (.swap _ _ _)))
  obtain ⟨vs', ev, lv, R5⟩ := R4.setOw (k := m) (by rw [List.length_map]; exact hm)
  refine ⟨r, vs', j, m, rfl, rfl, ev, ?_, ?_⟩
  · unfold ixN
    rw [List.length_map] at lv
    rw [hj, if_pos (by omega), if_pos (by omega)]
    rfl
  · refine q _ ?_
    have R6 := back _ xs' (.ref r) (FL ((rows.getD k []).set m x)) L2 (by rw [show FL ((rows.getD k []).set m x) = .list (((rows.getD k []).map FD).set m (FD x)) by rw [← List.map_set]]; exact R5)
    have ex : xs'.set k (.ref r) = xs' := by
      obtain ⟨l1, e1⟩ := List.getElem?_eq_some_iff.mp hx
      rw [← e1, List.set_getElem_self]
    rw [ex, ← List.map_set] at R6
    exact R6.put (by rw [l, List.length_map, List.length_map, List.length_set])
end
/-! ### tables by a function -/
def tabG {α : Type} (n : Nat) (g : Nat → Nat → α) : List (List α) := (List.range n).map fun a => (List.range n).map fun b => g a b
section
variable {α : Type} {n i j : Nat} {g g' : Nat → Nat → α} {d : α}
theorem tabG_len : (tabG n g).length = n := by unfold tabG; rw [List.length_map, List.length_range]
theorem tabG_row (h : i < n) : (tabG n g).getD i [] = (List.range n).map (g i) := by
  unfold tabG
  rw [List.getD_eq_getElem?_getD, List.getElem?_map, List.getElem?_range h]; rfl
theorem rowF_at {f : Nat → α} (h : j < n) : ((List.range n).map f).getD j d = f j := by
  rw [List.getD_eq_getElem?_getD, List.getElem?_map, List.getElem?_range h]; rfl
theorem row_at (h : j < n) : ((List.range n).map (g i)).getD j d = g i j := by
  rw [List.getD_eq_getElem?_getD, List.getElem?_map, List.getElem?_range h]; rfl
theorem map_range_set {β : Type} (f : Nat → β) (h : i < n) (x : β) : ((List.range n).map f).set i x = (List.range n).map fun k => if k = i then x else f k := by
  apply List.ext_getElem
  · simp
  · intro k h1 h2
    simp only [List.getElem_set, List.getElem_map, List.getElem_range]
    by_cases e : i = k
    · rw [if_pos e, if_pos e.symm]
    · rw [if_neg e, if_neg (fun z => e z.symm)]
theorem tabG_set (hi : i < n) (hj : j < n) (x : α) : (tabG n g).set i (((tabG n g).getD i []).set j x) = tabG n fun a b => if a = i ∧ b = j then x else g a b := by
  rw [tabG_row hi, map_range_set _ hj, tabG, map_range_set _ hi]
  unfold tabG
  apply List.map_congr_left
  intro a _
  by_cases e : a = i
  · subst e
    simp
  · simp [e]
theorem tabG_congr (h : ∀ a b, a < n → b < n → g a b = g' a b) : tabG n g = tabG n g' := by
  unfold tabG
  apply List.map_congr_left
  intro a ha
  apply List.map_congr_left
  intro b hb
  exact h a b (List.mem_range.mp ha) (List.mem_range.mp hb)
end
/-- whether a cut parts two points -/
def parts (c : List Int) (i j : Nat) : Bool := !decide (decide ((i : Int) ∈ c) = decide ((j : Int) ∈ c))
/-- the weights of the cuts that part two points -/
def sumW (ws : List (List Int × Rat)) (i j : Nat) : Rat := ws.foldl (fun a w => if parts w.1 i j then a + w.2 else a) 0
theorem sumW_snoc (ws : List (List Int × Rat)) (w : List Int × Rat) (i j : Nat) : sumW (ws ++ [w]) i j = if parts w.1 i j then sumW ws i j + w.2 else sumW ws i j := by
  unfold sumW; rw [List.foldl_append]; rfl
theorem parts_symm (c : List Int) (i j : Nat) : parts c i j = parts c j i := by
  unfold parts
  rw [decide_eq_decide.mpr (eq_comm (a := decide ((i : Int) ∈ c)) (b := decide ((j : Int) ∈ c)))]
theorem sumW_symm (ws : List (List Int × Rat)) (i j : Nat) : sumW ws i j = sumW ws j i := by
  unfold sumW
  rw [show (fun (a : Rat) (w : List Int × Rat) => if parts w.1 i j then a + w.2 else a) = fun (a : Rat) (w : List Int × Rat) => if parts w.1 j i then a + w.2 else a from funext fun a => funext fun w => by rw [parts_symm]]
theorem sumW_bd {b : Nat} : ∀ {ws : List (List Int × Rat)}, (∀ w ∈ ws, Bd b w.2) → ∀ i j, Bd ((b + 1) * ws.length + 1) (sumW ws i j) := fun {ws} h i j => by
  suffices H : ∀ (us : List (List Int × Rat)) (a : Rat) (k : Nat), (∀ w ∈ us, Bd b w.2) → Bd ((b + 1) * k + 1) a → Bd ((b + 1) * (k + us.length) + 1) (us.foldl (fun a w => if parts w.1 i j then a + w.2 else a) a) by
    have := H ws 0 0 h (by show Bd 1 0; exact Bd_zero (by decide))
    rwa [Nat.zero_add] at this
  intro us
  induction us with
  | nil => intro a k _ ha; exact ha
  | cons w us ih =>
    intro a k hw ha
    rw [List.foldl_cons, List.length_cons, show k + (us.length + 1) = (k + 1) + us.length by omega]
    refine ih _ (k + 1) (fun u hu => hw u (List.mem_cons_of_mem _ hu)) ?_
    have e : (b + 1) * (k + 1) + 1 = ((b + 1) * k + 1) + b + 1 := by rw [Nat.mul_add]; omega
    rw [e]
    split
    · exact Bd_add ha (hw w List.mem_cons_self)
    · exact ha.mono (by omega)
/-! ### sets of ints -/
section
variable {P : Program} {w : World} {A : Around} {E : Value → Shared → Prop} {s : Shared}
/-- an empty set's object -/
abbrev setO0 (w : World) : Obj := { cls := .type "set", dict := none, data := .set #[] 0 (.fresh 0 0 (!w.params.followText "set-order")) }
theorem set_ofL {l : Addr} {its : Array Value} {ns : List Int} {Q : Value → Shared → Prop} (calm : A.handled = none) (hl : s.heap.IsList l its) (ht : IntsAre its.toList ns) (few : ns.length + 1 < scanBound)
    (q : ∀ (h' : Heap) (tk c : Nat), SetR w h' s.heap.objs.size (fun j => decide (j ∈ ns)) c → (∀ b o, s.heap.get? b = some o → h'.get? b = some o) → Q (.ref s.heap.objs.size) { s with heap := h', toks := tk }) :
    wpAny (model P w) A (call (.type "set") [.ref l]) Q E s := by
  have many : its.size = ns.length := by rw [← Array.length_toList]; exact IntsAre.length ht
  have ⟨c0, t0, m0⟩ := F.called_set.mro
  have i1 := F.called_set.made; have i2 := F.called_set.sub; have i3 := F.called_set.notType; have i4 := F.called_set.canCreate; have i5 := F.typeCall_set_1 (.ref l)
  refine wpAny_call (codeAny_of_tree ?_)
  show wpAny _ _ (callAny (.type "set") _) _ _ _
  refine wpAny_pure ⟨Code.quiet_builtin _ (by decide +kernel), codeAny_builtin F.entry_type_call ?_⟩
  rw [Around.under_plain (weight_type_call_type "set" [.ref l] []) rfl]
  repeat (any_goals (first | assumption | wp_step))
  refine codeAny_mono (code_set_led1 (.ref l) (E := E) (Q₁ := fun v u => v = .ref s.heap.objs.size ∧ u = { s with heap := s.heap.push (setO0 w) }) ⟨rfl, rfl⟩) fun r u hr => ?_
  match r, hr with
  | .error e, hr => exact hr
  | .ok (.ret v), hr =>
    obtain ⟨rfl, rfl⟩ := hr
    have n1 : (s.heap.push (setO0 w)).get? s.heap.objs.size = some (setO0 w) := Heap.get?_push_size _ rfl
    have n2 : Shared.TypeIs { s with heap := s.heap.push (setO0 w) } (.ref s.heap.objs.size) "set" := ⟨_, n1, rfl⟩
    have j1 := F.called_set.init.lookup; have j2 := F.called_set.init.bind (.ref s.heap.objs.size)
    repeat (any_goals (first | assumption | wp_step))
    refine codeAny_mono (codeAny_call_builtin (R := wants (fun v u => v = .none ∧ ∃ h' tk c, u = { s with heap := h', toks := tk } ∧ SetR w h' s.heap.objs.size (fun j => decide (j ∈ ns)) c ∧ (∀ b o, s.heap.get? b = some o → h'.get? b = some o)) E)
      F.called_set.init.plain F.entry_set_init (check_set_init_1 n2 ?_)) fun r2 u2 hr2 => ?_
    · have ⟨⟨oc, od, oo, os⟩, lo, lc, ln, ld⟩ := hl
      have ec : oc = .type "list" := lc
      have ed : oo = .seq its ln := ld
      subst ec ed
      have lo' : (s.heap.push (setO0 w)).get? l = some { cls := .type "list", dict := od, data := .seq its ln, slots := os } := Heap.get?_push_of_some _ lo
      have k1 := F.sub_list_set; have k2 := F.sub_list_frozenset
      have k3 : (Value.type "list" == Value.type "dict") = false := by decide
      have l1 : (s.heap.push (setO0 w)).IsList l its := ⟨_, lo', rfl, ln, rfl⟩
      unfold Builtin.«set.__init__» noKeywords Builtin.Frozenset.updateFrom
      generalize hI : pyIter = pI
      wp_walk
      subst hI
      refine wpAny_pyIter_list l1 (wpAny_bind (wpAny_runValue ?_))
      have below : l < s.heap.objs.size := Heap.lt_size lo
      have cm : A.in1.in1.in1.handled = none := by simp [calm]
      have ne1 : l ≠ (s.heap.push (setO0 w)).objs.size := by rw [Heap.size_push]; exact Nat.ne_of_lt (Nat.lt_succ_of_lt below)
      have ni : s.heap.objs.size ∉ [(s.heap.push (setO0 w)).objs.size, l] := by
        rw [Heap.size_push]
        simp only [List.mem_cons, List.not_mem_nil, or_false, not_or]
        exact ⟨Nat.ne_of_lt (Nat.lt_succ_self _), Nat.ne_of_gt below⟩
      refine set_update_ints ((Walks.list cm _ l ne1 its).toS) s.heap.objs.size ni ns many few (fun i v hv => ?_) (its.size - 0) 0 _ (by omega) (Nat.zero_le _) ⟨⟨_, Heap.get?_push_size _ rfl, rfl, rfl⟩, l1.push _⟩ ⟨0, Nat.le_refl 0, setR_new_at (Heap.get?_push_of_some _ n1)⟩ fun u3 c3 mv _ R3 => ?_
      · have hi : i < ns.length := by rw [← many]; exact (Array.getElem?_eq_some_iff.mp hv).1
        have ⟨t, e⟩ := IntsAre.int_at ht i v (by rw [Array.getElem?_toList]; exact hv)
        exact ⟨ns[i], t, List.getElem?_eq_getElem hi, by rw [e, List.getD_eq_getElem?_getD, List.getElem?_eq_getElem hi]; rfl⟩
      · obtain ⟨h3, g3, d3, t3, o3⟩ := u3
        have e1 : g3 = s.gens := mv.gens
        have e2 : d3 = s.drawn := mv.drawn
        have e3 : o3 = s.os := mv.os
        subst e1 e2 e3
        show wpAny _ _ _ _ _ _
        refine wpAny_pure ?_
        show wpAny _ _ (ret Value.none) _ _ _
        refine wpAny_pure ⟨rfl, h3, t3, c3, rfl, R3, fun b o e => ?_⟩
        have lt := Heap.lt_size e
        refine mv.heap b o ?_ (Heap.get?_push_of_some _ (Heap.get?_push_of_some _ e))
        rw [Heap.size_push]
        simp only [List.mem_cons, List.not_mem_nil, or_false, not_or]
        exact ⟨Nat.ne_of_lt lt, Nat.ne_of_lt (Nat.lt_succ_of_lt lt)⟩
    · match r2, hr2 with
      | .error e, hr2 => exact hr2
      | .ok (.ret v), hr2 =>
        obtain ⟨rfl, h', tk, c, rfl, R2, keep⟩ := hr2
        repeat (any_goals (first | assumption | wp_step))
        exact q _ _ _ R2 keep
      | .ok .next, hr2 => exact hr2.elim
  | .ok .next, hr => exact hr.elim
end
/-- the unlike ones -/
def nub : List Int → List Int
  | [] => []
  | n :: ns => if n ∈ ns then nub ns else n :: nub ns
theorem nub_mem {k : Int} : ∀ {ns : List Int}, k ∈ nub ns ↔ k ∈ ns
  | [] => Iff.rfl
  | n :: ns => by
    have ih := nub_mem (k := k) (ns := ns)
    by_cases h : n ∈ ns
    · rw [nub, if_pos h, ih, List.mem_cons]
      exact ⟨.inr, fun z => z.elim (fun e => e ▸ h) id⟩
    · rw [nub, if_neg h, List.mem_cons, List.mem_cons, ih]
theorem nub_nodup : ∀ (ns : List Int), (nub ns).Nodup
  | [] => .nil
  | n :: ns => by
    by_cases h : n ∈ ns
    · rw [nub, if_pos h]; exact nub_nodup ns
    · rw [nub, if_neg h]; exact List.nodup_cons.mpr ⟨fun z => h (nub_mem.mp z), nub_nodup ns⟩
theorem nub_le : ∀ (ns : List Int), (nub ns).length ≤ ns.length
  | [] => Nat.le_refl 0
  | n :: ns => by
    have ih := nub_le ns
    by_cases h : n ∈ ns
    · rw [nub, if_pos h, List.length_cons]; omega
    · rw [nub, if_neg h, List.length_cons, List.length_cons]; omega
theorem nub_id {ns : List Int} (h : ns.Nodup) : nub ns = ns := by
  induction ns with
  | nil => rfl
  | cons n ns ih =>
    obtain ⟨a, b⟩ := List.nodup_cons.mp h
    rw [nub, if_neg a, ih b]
theorem nub_full {ns : List Int} : (nub ns).length = ns.length ↔ ns.Nodup := by
  constructor
  · intro h
    induction ns with
    | nil => exact .nil
    | cons n ns ih =>
      have := nub_le ns
      by_cases q : n ∈ ns
      · rw [nub, if_pos q, List.length_cons] at h; omega
      · rw [nub, if_neg q, List.length_cons, List.length_cons] at h
        exact List.nodup_cons.mpr ⟨q, ih (by omega)⟩
  · intro h; rw [nub_id h]
/-- unlike ones of the same members are as many -/
theorem nd_len : ∀ {l m : List Int}, l.Nodup → m.Nodup → (∀ k, k ∈ l ↔ k ∈ m) → l.length = m.length := by
  intro l
  induction l with
  | nil =>
    intro m _ _ h
    cases m with
    | nil => rfl
    | cons a t => exact absurd ((h a).mpr List.mem_cons_self) (by simp)
  | cons a t ih =>
    intro m d1 d2 h
    obtain ⟨a1, a2⟩ := List.nodup_cons.mp d1
    have ha : a ∈ m := (h a).mp List.mem_cons_self
    have e := ih (m := m.erase a) a2 (d2.erase a) fun k => by
      rw [d2.mem_erase_iff, ← h k, List.mem_cons]
      exact ⟨fun z => ⟨fun q => a1 (q ▸ z), .inr z⟩, fun ⟨p, q⟩ => q.elim (fun q => absurd q p) id⟩
    have e2 := List.length_erase_of_mem ha
    have : 0 < m.length := List.length_pos_of_mem ha
    rw [List.length_cons, e]; omega
/-- rising ones of the same members are the same -/
theorem rise_eq : ∀ {l m : List Int}, l.Pairwise (· < ·) → m.Pairwise (· < ·) → (∀ k, k ∈ l ↔ k ∈ m) → l = m := by
  intro l
  induction l with
  | nil =>
    intro m _ _ h
    cases m with
    | nil => rfl
    | cons a t => exact absurd ((h a).mpr List.mem_cons_self) (by simp)
  | cons a t ih =>
    intro m d1 d2 h
    cases m with
    | nil => exact absurd ((h a).mp List.mem_cons_self) (by simp)
    | cons b u =>
      obtain ⟨a1, a2⟩ := List.pairwise_cons.mp d1
      obtain ⟨b1, b2⟩ := List.pairwise_cons.mp d2
      have e : a = b := by
        rcases List.mem_cons.mp ((h a).mp List.mem_cons_self) with z | z
        · exact z
        · rcases List.mem_cons.mp ((h b).mpr List.mem_cons_self) with y | y
          · exact y.symm
          · have := b1 a z; have := a1 b y; omega
      subst e
      rw [ih a2 b2 fun k => ⟨fun z => ?_, fun z => ?_⟩]
      · rcases List.mem_cons.mp ((h k).mp (List.mem_cons_of_mem _ z)) with y | y
        · have := a1 k z; omega
        · exact y
      · rcases List.mem_cons.mp ((h k).mpr (List.mem_cons_of_mem _ z)) with y | y
        · have := b1 k z; omega
        · exact y
/-- the unlike ones, rising -/
def sortN (ns : List Int) : List Int := (nub ns).mergeSort
theorem sortN_mem {k : Int} {ns : List Int} : k ∈ sortN ns ↔ k ∈ ns := by rw [sortN, List.mem_mergeSort, nub_mem]
theorem sortN_len (ns : List Int) : (sortN ns).length = (nub ns).length := List.length_mergeSort _
theorem sortN_rise (ns : List Int) : (sortN ns).Pairwise (· < ·) := by
  have p : (sortN ns).Perm (nub ns) := List.mergeSort_perm _ _
  have d : (sortN ns).Nodup := p.nodup_iff.mpr (nub_nodup ns)
  have s := List.pairwise_mergeSort (le := fun a b : Int => decide (a ≤ b)) (fun a b c => by simpa using fun h1 h2 => Int.le_trans h1 h2) (fun a b => by simpa using Int.le_total a b) (nub ns)
  have s' : (sortN ns).Pairwise fun a b => a ≤ b := s.imp fun h => by simpa using h
  refine (s'.and d).imp fun ⟨h1, h2⟩ => ?_
  omega
theorem sortN_id {ns : List Int} (h : ns.Pairwise (· < ·)) : sortN ns = ns := rise_eq (sortN_rise ns) h fun _ => sortN_mem
theorem sortN_eq {ns : List Int} : ns = sortN ns ↔ ns.Pairwise (· < ·) := ⟨fun h => by rw [h]; exact sortN_rise ns, fun h => (sortN_id h).symm⟩

theorem setR_card {w : World} {h : Heap} {a : Addr} {ns : List Int} {c : Nat} (R : SetR w h a (fun j => decide (j ∈ ns)) c) : c = (nub ns).length := by
  obtain ⟨o, es, ep, t, ho, hx, hd, g, nd, hm, hb, hf, hn, _⟩ := R
  rw [← hn, ← Array.length_toList, ← List.length_map (f := keyOf)]
  exact nd_len nd (nub_nodup ns) fun k => by rw [← hm k, nub_mem, decide_eq_true_eq]

section
variable {X : Cx}
/-- len(set(xs)) -/
def tLenSet (K : PySem.W.Frag) (ta : TE) : TE := fun σ H Q => ta σ H fun x H1 => ∃ (l : Addr) (ns : List Int), x = V.ref l ∧ SqL K H1 l (ns.map V.int) ∧ ns.length < 2000 ∧ Q (.int ((nub ns).length : Nat)) H1
theorem pe_lenSet {K : PySem.W.Frag} {a : Expr} {ta : TE} {p p2 q pos : Pos} (hg : Gl X "len") (hm : X.mg "len" = none) (hg2 : Gl X "set") (hm2 : X.mg "set" = none) (ha : PE X a ta) (hc : X.calm = true := by rfl) (eK : X.K = K := by rfl)
    (na : starEach [a] X.env = (false, eval a X.env) :: starEach [] X.env := by rfl) : PE X (.Call (.Name "len" p) [.Call (.Name "set" p2) [a] [] q] [] pos) (tLenSet K ta) := by
  subst eK
  refine ⟨fun pins s σ H Q I h => Call_ (ld_blt I hg hm PySem.boot_len (PyProof.Rows.callWith_builtin1 (PyProof.Rows.args_cons ?_ rfl) rfl rfl))⟩
  refine Call_ (ld_blt I hg2 hm2 PyProof.Rows.boot_set (PyProof.Rows.callWith_type1 (PyProof.Rows.args_cons (thn (ha.run pins s σ H _ I h) fun v s1 ⟨x, H1, I1, r1, l, ns, e, hq, few, q1⟩ => PyProof.Rows.args_nil ?_) na) na rfl))
  subst e; cases r1
  obtain ⟨its, r, pl, hz⟩ := I1.list hq
  refine set_ofL (I1.ok.hd hc) pl.isList (ns := ns) (by simpa using r.ints) (by unfold scanBound; omega) fun h' tk c R keep => PyProof.Rows.args_nil ?_
  have ec := setR_card R
  obtain ⟨o, es, ep, t, ho, hex, hd, _, _, _, hb, hf, hn, _⟩ := R
  have small := nub_le ns
  exact call_len_set ho hex hd hf (by rw [hn]; omega) ⟨.int ((nub ns).length : Nat), H1, (I1.kept keep).tok _, ⟨_, by rw [hn, ec]⟩, q1⟩
/-- sorted(set(xs)) -/
def tSortSet (K : PySem.W.Frag) (ta : TE) : TE := fun σ H Q => ta σ H fun x H1 => ∃ (l : Addr) (ns : List Int), x = V.ref l ∧ SqL K H1 l (ns.map V.int) ∧ ns.length < 64 ∧ ∀ p : Addr, H1 p = none → Q (.ref p) (upd H1 p (.lst ((sortN ns).map V.int)))
theorem pe_sortSet {K : PySem.W.Frag} {a : Expr} {ta : TE} {p p2 q pos : Pos} (hg : Gl X "sorted") (hm : X.mg "sorted" = none) (hg2 : Gl X "set") (hm2 : X.mg "set" = none) (ha : PE X a ta) (hc : X.calm = true := by rfl) (eK : X.K = K := by rfl)
    (na : starEach [a] X.env = (false, eval a X.env) :: starEach [] X.env := by rfl) : PE X (.Call (.Name "sorted" p) [.Call (.Name "set" p2) [a] [] q] [] pos) (tSortSet K ta) := by
  subst eK
  refine ⟨fun pins s σ H Q I h => Call_ (ld_blt I hg hm PyProof.Rows.boot_sorted (PyProof.Rows.callWith_builtin1 (PyProof.Rows.args_cons ?_ rfl) rfl rfl))⟩
  refine Call_ (ld_blt I hg2 hm2 PyProof.Rows.boot_set (PyProof.Rows.callWith_type1 (PyProof.Rows.args_cons (thn (ha.run pins s σ H _ I h) fun v s1 ⟨x, H1, I1, r1, l, ns, e, hq, few, q1⟩ => PyProof.Rows.args_nil ?_) na) na rfl))
  subst e; cases r1
  obtain ⟨its, r, pl, hz⟩ := I1.list hq
  refine set_ofL (I1.ok.hd hc) pl.isList (ns := ns) (by simpa using r.ints) (by unfold scanBound; omega) fun h' tk c R keep => PyProof.Rows.args_nil ?_
  have ec := setR_card R
  have small := nub_le ns
  have I2 : Inv X pins σ H1 { s1 with heap := h', toks := tk } := I1.kept keep
  refine sorted_set (s := { s1 with heap := h', toks := tk }) R (I2.ok.hd hc) (by omega) fun u p out c2 ks k g o hp hgt hi hs hm hl => ?_
  have hn : H1 p = none := I2.hok.fresh hp
  have e : ks = sortN ns := rise_eq hs (sortN_rise ns) fun j => by rw [hm j, decide_eq_true_eq, sortN_mem]
  subst e
  have hlen : ((sortN ns).map V.int).length ≤ sizeLine := by rw [List.length_map, hl, sizeLine_eq]; omega
  have J : Inv X pins σ (upd H1 p (.lst ((sortN ns).map V.int))) { ({ s1 with heap := h', toks := tk } : Shared) with heap := u.heap, gens := u.gens, drawn := u.drawn, toks := u.toks } :=
    I2.call (ch := []) (Un.laid k hp hn) (I2.hok.laid k hp ⟨hlen, out.toList, c2, vals_of_ints hi, hgt⟩) (by rw [g]; exact I2.bare) (fun _ z => nomatch z)
  have eu : u = { ({ s1 with heap := h', toks := tk } : Shared) with heap := u.heap, gens := u.gens, drawn := u.drawn, toks := u.toks } := by
    cases u; cases s1; cases o; rfl
  rw [eu]
  exact ⟨.ref p, _, J, rfl, q1 p hn⟩
/-- len({x, y, z}) of names -/
def tLen3 (i j k : Nat) : TE := fun σ H Q => ∃ x y z : Int, σ[i]? = some (some (.int x)) ∧ σ[j]? = some (some (.int y)) ∧ σ[k]? = some (some (.int z)) ∧ Q (.int ((nub [x, y, z]).length : Nat)) H
/-- a set under way -/
theorem fill_one {P : Program} {w : World} {A : Around} {E : Value → Shared → Prop} {u : Bool} {D : Addr} {s : Shared} {S : Int → Bool} {n : Nat} {x : Int} {t : Tok} {vs : List Value} {Q : Value → Shared → Prop} (R : s.heap.SetOf (intKind P w) D S n) (small : n < 2000)
    (q : ∀ h' n', h'.SetOf (intKind P w) D (fun j => S j || decide (j = x)) n' → n' = (if S x = true then n else n + 1) → (∀ b o, b ≠ D → s.heap.get? b = some o → h'.get? b = some o) → PySem.W.KdsFill (model P w) A E u D Q vs { s with heap := h', toks := s.toks + 1 }) :
    PySem.W.KdsFill (model P w) A E u D Q (.int x t :: vs) s := by
  refine PySem.W.kds_fill_cons ?_
  unfold setAdd
  refine wpAny_holding (wpAny_bind ((intKind P w).pyHash (k := x) (intKind_is _ _ _ _) ?_))
  exact wpAny_setAddHashed_of (knd := intKind P w) (s := { s with toks := s.toks + 1 }) (intKind_is _ _ _ _) rfl R (by unfold scanBound; omega) fun h' sb R' => q h' _ R' rfl fun b o hb e => (sb.2 b hb).trans e
/-- a name's value, where it stands -/
theorem ld_var {i : Nat} {x : Str} {pos : Pos} {v : V} {pins : List (Addr × Obj)} {σ : L2.St} {H : Hp} {s : Shared} {E : Value → Shared → Prop} (hN : X.N[i]? = some x) (hv : Vis X.env.scope x) (hd : (x == ("__debug__" : Str)) = false) (hcd : (x == ("__classdict__" : Str)) = false)
    (I : Inv X pins σ H s) (e : σ[i]? = some (some v)) : ∃ u, RelV v u ∧ ∀ Q : Value → Shared → Prop, Q u s → wpAny (model X.prog X.w) X.A (eval (.Name x pos) X.env) Q E s := by
  have ⟨m, hn, hl⟩ := I.loc
  have ⟨u, r, l⟩ := hl i x v hN e hv
  refine ⟨u, r, fun Q fin => ?_⟩
  rcases l with ⟨hk, hm⟩ | ⟨hk, c, hc, hcell⟩
  · exact wpAny_Name (wpAny_loadName_local I.ok.kind hk hn hm fin) hd
  · exact hk.elim (fun hk => wpAny_Name (wpAny_loadName_cell I.ok.kind hk hc hcell fin) hd) fun hk => wpAny_Name (wpAny_loadName_free I.ok.kind hk hc hcell fin hcd) hd
theorem pe_len3 {i j k : Nat} {a b c : Str} {p q pos p1 p2 p3 : Pos} (hg : Gl X "len") (hm : X.mg "len" = none) (hcd : PySem.W.kdsCode X.K X.env.code = true)
    (n1 : X.N[i]? = some a := by rfl) (n2 : X.N[j]? = some b := by rfl) (n3 : X.N[k]? = some c := by rfl)
    (v1 : Vis X.env.scope a := by first | exact Or.inl rfl | exact Or.inr (Or.inl rfl) | exact Or.inr (Or.inr rfl)) (v2 : Vis X.env.scope b := by first | exact Or.inl rfl | exact Or.inr (Or.inl rfl) | exact Or.inr (Or.inr rfl))
    (v3 : Vis X.env.scope c := by first | exact Or.inl rfl | exact Or.inr (Or.inl rfl) | exact Or.inr (Or.inr rfl))
    (d : ([a, b, c].all fun x => !(x == ("__debug__" : Str)) && !(x == ("__classdict__" : Str))) = true := by decide) :
    PE X (.Call (.Name "len" p) [.Set [.Name a p1, .Name b p2, .Name c p3] 0 q] [] pos) (tLen3 i j k) := by
  refine ⟨fun pins s σ H Q I h => Call_ (ld_blt I hg hm PySem.boot_len (PyProof.Rows.callWith_builtin1 (PyProof.Rows.args_cons ?_ rfl) rfl rfl))⟩
  obtain ⟨x, y, z, e1, e2, e3, h⟩ := h
  have d1 : ∀ x ∈ [a, b, c], (x == ("__debug__" : Str)) = false ∧ (x == ("__classdict__" : Str)) = false := fun x hx => by
    have := List.all_eq_true.mp d x hx
    simpa using this
  have ⟨da, da'⟩ := d1 a (by simp)
  have ⟨db, db'⟩ := d1 b (by simp)
  have ⟨dc, dc'⟩ := d1 c (by simp)
  rw [arm_eval_Set]
  refine wpAny_bind (wpAny_standAt (wpAny_bind (PySem.W.kds_main I.kIn hcd fun _ => ?_)))
  rw [PySem.W.kds_star _ (by rfl), List.map_map]
  have hx : displayRoad 0 [.Name a p1, .Name b p2, .Name c p3] = .oneByOne := by
    have hn : [Expr.Name a p1, .Name b p2, .Name c p3].all (constantsAlone 8) = false := by
      rw [List.all_cons, show constantsAlone 8 (.Name a p1) = (a == ("__debug__" : Str)) from rfl, da]; rfl
    unfold displayRoad
    rw [if_neg (Nat.lt_irrefl 0), if_neg (by simp), if_neg (by rw [hn]; decide)]
  have hr : (displayRoad 0 [.Name a p1, .Name b p2, .Name c p3] == DisplayRoad.unsure) = false := by rw [hx]; rfl
  refine PySem.W.kds_core (ts := (evalEach [.Name a p1, .Name b p2, .Name c p3] X.env).map fun t => do let v ← t; standAt q; pure v) (by rw [hx]; rfl) (List.findIdx?_eq_none_iff.mpr fun x hx => ?_) (by rw [List.length_map, PySem.W.kds_len]; exact Nat.le_of_ble_eq_true rfl) (by rw [List.map_map]; rfl) fun led => ?_
  · obtain ⟨t, _, rfl⟩ := List.mem_map.mp hx
    rfl
  rw [hr]
  refine PySem.W.kds_all q _ _ _ ?_
  have N0 := (setObjOf_fresh (knd := intKind X.prog X.w) led).setOf (Heap.get?_push_size s.heap rfl) (by decide)
  have I0 : Inv X pins σ H { s with heap := s.heap.push { cls := .type "set", dict := none, data := .set #[] 0 (.fresh 0 0 led) } } := I.kept (t' := s.toks) fun b o e => Heap.get?_push_of_some _ e
  have ⟨u1, ⟨t1, r1⟩, w1⟩ := ld_var (pos := p1) (E := X.xe) n1 v1 da da' I0 e1
  have ⟨u2, ⟨t2, r2⟩, w2⟩ := ld_var (pos := p2) (E := X.xe) n2 v2 db db' I0 e2
  have ⟨u3, ⟨t3, r3⟩, w3⟩ := ld_var (pos := p3) (E := X.xe) n3 v3 dc dc' I0 e3
  subst r1 r2 r3
  refine w1 _ (w2 _ (w3 _ ?_))
  refine fill_one N0 (by decide) fun h1 m1 R1 E1 K1 => ?_
  refine fill_one (s := { s with heap := h1, toks := s.toks + 1 }) R1 (by rw [E1]; decide) fun h2 m2 R2 E2 K2 => ?_
  refine fill_one (s := { s with heap := h2, toks := s.toks + 1 + 1 }) R2 (by rw [E2, E1]; split <;> decide) fun h3 m3 R3 E3 K3 => ?_
  refine PySem.W.kds_fill_nil rfl (PyProof.Rows.args_nil ?_)
  obtain ⟨o, es, ep, t, ho, hex, hd, _, _, _, hf, hn⟩ := R3
  have keep : ∀ b o, s.heap.get? b = some o → h3.get? b = some o := fun b o e => by
    have ne : b ≠ s.heap.objs.size := Nat.ne_of_lt (Heap.lt_size e)
    exact K3 b o ne (K2 b o ne (K1 b o ne (Heap.get?_push_of_some _ e)))
  have en : m3 = (nub [x, y, z]).length := by
    rw [E3, E2, E1]
    by_cases a1 : x = y <;> by_cases a2 : x = z <;> by_cases a3 : y = z <;> simp [nub, a1, a2, a3] <;> grind
  have small := nub_le [x, y, z]
  have : [x, y, z].length = 3 := rfl
  exact call_len_set ho hex hd hf (by rw [hn, en]; omega) ⟨.int ((nub [x, y, z]).length : Nat), H, (I.kept (t' := s.toks + 1 + 1 + 1) keep).tok _, ⟨_, by rw [hn, en]⟩, h⟩
end
/-! ### errors that are kept -/
/-- an error of the class D, caught, at a -/
def errO (D a : Addr) : HO := .ext fun h => ∃ (oe : Obj) (vs : Array Value), h.get? a = some oe ∧ Zc (.ref D) none oe ∧ oe.data = .fields vs
theorem errO_ok {P : Program} {w : World} {H : Hp} {h : Heap} {a D : Addr} {oe : Obj} {vs : Array Value} (e : h.get? a = some oe) (z : Zc (.ref D) none oe) (d : oe.data = .fields vs) : ObjOk P w H h a (errO D a) :=
  ⟨⟨oe, vs, e, z, d⟩, ⟨oe, e⟩, fun _ _ ⟨o, v, q, r⟩ k => ⟨o, v, k o q, r⟩⟩
/-- a caught error held by a pin is tracked from here on -/
theorem track {X : Cx} {pins : List (Addr × Obj)} {σ : L2.St} {H : Hp} {s : Shared} {a D : Addr} {oe : Obj} {vs : Array Value} (J : Inv X ((a, oe) :: pins) σ H s) (hz : Zc (.ref D) none oe) (hv : oe.data = .fields vs)
    (new : X.s_0.heap.get? a = none) (far : ∀ p ∈ X.pn ++ pins, p.1 ≠ a) : Inv X pins σ (upd H a (errO D a)) s := by
  have ⟨at_, free, nL, nF, nC⟩ := J.pin (a, oe) (List.mem_append_right _ List.mem_cons_self)
  have n0 : ∀ b o, X.s_0.heap.get? b = some o → b ≠ a := fun b o e z => by subst z; rw [new] at e; cases e
  have nT : ∀ {b o}, H b = some o → b ≠ a := fun {b o} e => ne_of_none e free
  have nX : ∀ x c, X.env.cells.lookup x = some c → c ≠ a := fun x c e z => by
    subst z
    obtain ⟨v, o, ho, hd⟩ := J.cell x _ e
    rw [at_] at ho
    cases ho
    exact nC _ hd
  refine ⟨J.ok, J.os, J.bare, ⟨J.base.keep, J.base.slot, fun b o e n hx => ?_, J.base.there, fun b xs e => ?_, fun b o u e => ?_, fun b ps e => ?_⟩, J.loc, J.cell, ?_, fun x c e => ?_, fun p hp => ?_, fun b u e => ?_, J.len⟩
  · rw [upd_ne (n0 b o e)]; exact J.base.free b o e n hx
  · have q := J.base.tups b xs e
    rw [upd_ne (nT q)]; exact q
  · have q := J.base.frzs b o u e
    rw [upd_ne (nT q)]; exact q
  · obtain ⟨m, q⟩ := J.base.tbls b ps e
    exact ⟨m, by rw [upd_ne (nT q)]; exact q⟩
  · rw [upd_ne (Ne.symm nL)]; exact J.free
  · rw [upd_ne (nX x c e)]; exact J.freeC x c e
  · have q := J.pin p ((List.mem_append.mp hp).elim (fun z => List.mem_append_left _ z) fun z => List.mem_append_right _ (List.mem_cons_of_mem _ z))
    exact ⟨q.1, by rw [upd_ne (far p hp)]; exact q.2.1, q.2.2⟩
  · by_cases hb : b = a
    · subst hb
      rw [upd_same] at e
      cases e
      exact errO_ok at_ hz hv
    · rw [upd_ne hb] at e
      exact (J.hok b u e).stay (fun _ _ _ q => q) (fun c q => by rw [upd_ne (nT q)]; exact q) fun c xs q => by rw [upd_ne (nT q)]; exact q

/-- what «except x as n», whose error is kept behind it, wishes of an error of the body -/
def wKeep (K : PySem.W.Frag) (c : Value) (i : Nat) (ts : Addr → L2.TS) (Wout : WX) (D : Ends) : WX := fun cls d σ H =>
  ∃ b, PySem.W.exmOne K cls c = some b ∧
    (b = true → ∃ C, cls = .ref C ∧ d = none ∧ ∀ a, H a = none → ts a { nx := fun σ' H' => D.nx (σ'.set i none) (upd H' a (errO C a)), rt := fun _ _ => False, bk := fun _ _ => False, ct := fun _ _ => False } (σ.set i (some (.ref a))) H) ∧
    (b = false → Wout cls d σ H)
section
variable {X : Cx} {x n : Str} {c : Value} {i : Nat} {body suite : List Stmt} {b₀ : Stmt} {np pos pos' : Pos} {tb : WX → L2.TS} {ts : Addr → L2.TS} {Wout : WX}
theorem ps_keep (hs : X.stack = X.env :: X.outer) (hf : X.env.frame = some X.env.locals) (hN : X.N.Nodup) (hi : X.N[i]? = some n) (hln : X.env.kindOf n = some .local) (hc : Names X x c) (tk : Takes X Wout) (hex : X.ex = [])
    (hb : ∀ (W : WX) (pn : List (Addr × Obj)) (xe : Value → Shared → Prop), Takes (X.tr pn xe) W → PassesOwn (model X.prog X.w) X.A X.env xe → PSs (X.tr pn xe) body (tb W))
    (hsu : ∀ (a : Addr) (oe : Obj) (pn : List (Addr × Obj)), PSs (X.suite a ((a, oe) :: pn)) (b₀ :: suite) (ts a)) :
    PS X (.Try body [.ExceptHandler (some (.Name x np)) (some n) (b₀ :: suite) pos'] [] [] pos) (fun D σ H => tb (wKeep X.K c i ts Wout D) D σ H) := by
  refine ⟨fun pins s σ H D I h => wpAny_Try_except (wpAny_mono ((hb (wKeep X.K c i ts Wout D) (X.pn ++ pins) (fun e u => wpAny (model X.prog X.w) X.A (noteFrame e X.env) (fun _ u2 => wpAny (model X.prog X.w) X.A (setFlight e none)
    (fun _ u3 => wpAny (model X.prog X.w) X.A (handleBy e X.env [.ExceptHandler (some (.Name x np)) (some n) (b₀ :: suite) pos']) (SP X pins D) X.xe u3) X.xe u2) X.xe u) (fun e u xx => ?_) PassesOwn.looking).run [] s σ H D (I.toTry _) h) (fun f u sp => ?_) (fun _ _ z => z))⟩
  · obtain ⟨a, B, sI, pins', σ1, H1, cls, d, rfl, J', nb, up, sky, na, os, ag, b, hb1, yes, no⟩ := xx
    have J : Inv X pins σ1 H1 sI := J'.ofTry I.ok
    have hfr : X.A.frames = some (X.env :: X.outer) := by rw [I.ok.frames, hs]
    rw [show (X.tr (X.pn ++ pins) _).stack = X.env :: X.outer from hs] at sky
    show wpAny (model X.prog X.w) X.A (noteFrame (.ref a) X.env) _ _ _
    refine Sky.land Zc.steady hfr hf sky fun h3 fl3 up3 => ?_
    have J3 : Inv X pins σ1 H1 { u with heap := h3 } := J.landed nb fl3.1 (up.trans up3) os ag
    have ⟨oe3, vs3, he3, hz3, hd3⟩ := fl3.there
    have nfr : a ∉ frs (X.env :: X.outer) := fun hm => by
      obtain ⟨_, o, e, hnf⟩ := fl3.2.2.1.mem hm
      rw [he3] at e
      cases e
      exact hnf _ hd3
    have nst : a ∉ frs X.stack := by rw [hs]; exact nfr
    have nL : a ≠ X.env.locals := fun z => nfr (List.mem_filterMap.mpr ⟨_, List.mem_cons_self, by rw [hf, z]⟩)
    have nF : a ∉ X.fs := fun hm => by
      obtain ⟨e, he, q⟩ := List.mem_filterMap.mp hm
      exact nfr (List.mem_filterMap.mpr ⟨e, List.mem_cons_of_mem _ he, q⟩)
    have nB : B.get? a = none := fl3.2.1
    have new : X.s_0.heap.get? a = none := by
      cases e : X.s_0.heap.get? a with
      | none => rfl
      | some o =>
        obtain ⟨o', e'⟩ := J.base.there a o e (by rw [hex]; exact fun z => nomatch z)
        rw [nb a o' e' nst] at nB
        cases nB
    have far : ∀ p ∈ X.pn ++ pins, p.1 ≠ a := fun p hp z => by
      obtain ⟨e, _, q, q', _⟩ := J.pin p hp
      have w := nb p.1 p.2 e (by
        rw [z]; exact nst)
      rw [z, nB] at w
      cases w
    have S3 := J3.suite he3 hd3 na nL nF
    refine wpAny_handleBy_cons (codeAny_handlers_test ?_) (by intro q; cases q)
    have LM := PySem.W.exm_one (M := model X.prog X.w) J3.kIn (fun A Q E s k q => wpAny_typeOf_ref (k _ _ he3) (by rw [hz3.1]; exact q)) hb1
    have test : ∀ {Q : Value → Shared → Prop} {E : Value → Shared → Prop}, Q c { u with heap := h3 } → wpAny (model X.prog X.w) (X.A.mark (some (.ref a))) (eval (.Name x np) X.env) Q E { u with heap := h3 } := fun q =>
      match hc with
      | ⟨hg, hdb, .inl hm⟩ => ld_glob (X := X.suite a ((a, oe3) :: (X.pn ++ pins))) S3 hg hm q hdb
      | ⟨hg, hdb, .inr ⟨hm, hv, hn⟩⟩ => ld_blt (X := X.suite a ((a, oe3) :: (X.pn ++ pins))) S3 hg hm hv q hn hdb
    refine test (LM.here ?_)
    match b, yes, no with
    | true, yes, _ =>
      obtain ⟨C, rfl, rfl, go⟩ := yes rfl
      refine codeAny_handlers_suite_as (HandSPX.lands_againZ fl3 fun h4 fl4 up4 => ?_)
      have J4 : Inv X pins σ1 H1 { u with heap := h4 } := J.landed nb fl4.1 ((up.trans up3).trans up4) os ag
      have ⟨oe4, vs4, he4, hz4, hd4⟩ := fl4.there
      refine store_ok (X := X.suite a ((a, oe4) :: (X.pn ++ pins))) (v := .ref a) (J4.suite he4 hd4 na nL nF) hN hi (.inl hln) rfl (fun s5 S5 => ?_) (.inr hln)
      refine wpAny_mono ((hsu a oe4 (X.pn ++ pins)).run [] s5 _ H1 _ S5 (go a na)) (fun f s6 sp => ?_) (fun _ _ z => z.elim)
      match f, sp with
      | .next, ⟨σ6, H6, S6, q6⟩ =>
        have J6 : Inv X ((a, oe4) :: pins) σ6 H6 s6 := ⟨I.ok, S6.os, S6.bare, S6.base, S6.loc, S6.cell, S6.free, S6.freeC, fun p hp => S6.pin p (by
          rw [List.append_nil]
          rcases List.mem_append.mp hp with z | z
          · exact List.mem_cons_of_mem _ (List.mem_append_left _ z)
          · rcases List.mem_cons.mp z with e | z
            · exact e ▸ List.mem_cons_self
            · exact List.mem_cons_of_mem _ (List.mem_append_right _ z)), S6.hok, S6.len⟩
        exact gone_ok J6 hN hi hln fun s7 J7 => ⟨_, _, track J7 hz4 hd4 new far, q6⟩
      | .brk, ⟨_, _, _, q6⟩ => exact q6.elim
      | .cont, ⟨_, _, _, q6⟩ => exact q6.elim
      | .ret _, ⟨_, _, _, _, _, q6⟩ => exact q6.elim
    | false, _, no =>
      show wpAny _ X.A (handleBy (.ref a) X.env []) _ _ _
      refine wpAny_handleBy_nil ?_
      have ⟨_, _, _, oe, vs, T, oT, _, he, hz, hd, h1, _⟩ := fl3
      unfold PySem.passOn
      refine wpAny_bind (wpAny_field he hd h1 ?_)
      rw [if_neg (by simp : ¬ ((Value.ref T == Value.none) = true))]
      have fin : wpAny (model X.prog X.w) X.A (setFlight (.ref a) X.env.frame) (fun _ s4 => wpAny (model X.prog X.w) X.A (throw (.ref a) : Sem Flow) (SP X pins D) X.xe s4) X.xe { u with heap := h3 } := by
        rw [hf]
        exact HandSPX.setFlight_upZ fl3 fun h4 hh4 up4 => wpAny_throw (tk _ _ ⟨a, B, sI, pins, σ1, H1, cls, d, rfl, J, nb, (up.trans up3).trans up4, .inr (.inr (by rw [hs]; exact hh4)), na, os, ag, no rfl⟩)
      first
        | exact wpAny_bind (wpAny_pure (wpAny_bind fin))
        | exact wpAny_bind fin
  · match f, sp with
    | .next, ⟨σ', H', J', q⟩ => exact wpAny_execs_nil ⟨σ', H', J'.ofTry I.ok, q⟩
    | .brk, ⟨σ', H', J', q⟩ => exact ⟨σ', H', J'.ofTry I.ok, q⟩
    | .cont, ⟨σ', H', J', q⟩ => exact ⟨σ', H', J'.ofTry I.ok, q⟩
    | .ret u, ⟨v, σ', H', J', r, q⟩ => exact ⟨v, σ', H', J'.ofTry I.ok, r, q⟩
end
/-- isinstance(e, c), e an error that is kept -/
def rIsX (K : PySem.W.Frag) : List V → Hp → VK → Prop := fun xs H Q => ∃ (a D : Addr) (c : V) (cv : Value) (b : Bool), xs = [.ref a, c] ∧ H a = some (errO D a) ∧ ExcC K D ∧ (∀ u, RelV c u → u = cv) ∧ PySem.W.kitOne K (.ref D) cv = some b ∧ Q (.bl b) H
theorem cr_isX {X : Cx} : CallR X (.builtin "isinstance") (rIsX X.K) := by
  intro pins s σ H xs us Q I r h
  obtain ⟨a, D, c, cv, b, rfl, ha, C, hcv, e, q⟩ := h
  match us, r with
  | [_, _], .cons rx (.cons rt .nil) =>
    cases rx
    have ec := hcv _ rt
    subst ec
    obtain ⟨⟨oe, vs, ho, hz, hd⟩, _, _⟩ := I.hok a _ ha
    have J : PySem.W.InstAt s.heap a oe D none := by
      obtain ⟨oc, od, oda, osl⟩ := oe
      obtain ⟨h1, h2⟩ := hz
      dsimp only at h1 h2 hd
      subst h1 h2 hd
      exact ⟨ho, rfl, rfl, trivial⟩
    exact PySem.W.kia_one (PySem.W.handS_kitx_exc C.hg C.hk C.hs C.hd C.ha C.hn C.ht C.hm) I.kIn J e (fun z => nomatch z) fun tk => ⟨.bl b, H, I.kept (t' := tk) fun _ _ z => z, rfl, q⟩
/-- isinstance(e, (c, ..)) -/
def rIsXT (K : PySem.W.Frag) : List V → Hp → VK → Prop := fun xs H Q => ∃ (a D t : Addr) (cs : List V) (cvs : List Value) (b : Bool), xs = [.ref a, .ref t] ∧ H a = some (errO D a) ∧ ExcC K D ∧ SqT K H t cs ∧ (∀ us, Vals cs us → us = cvs) ∧ PySem.W.kitAny K (.ref D) cvs = some b ∧ Q (.bl b) H
theorem cr_isXT {X : Cx} : CallR X (.builtin "isinstance") (rIsXT X.K) := by
  intro pins s σ H xs us Q I r h
  obtain ⟨a, D, t, cs, cvs, b, rfl, ha, C, ht, hcv, e, q⟩ := h
  match us, r with
  | [_, _], .cons rx (.cons rt .nil) =>
    cases rx; cases rt
    obtain ⟨⟨oe, vs, ho, hz, hd⟩, _, _⟩ := I.hok a _ ha
    have J : PySem.W.InstAt s.heap a oe D none := by
      obtain ⟨oc, od, oda, osl⟩ := oe
      obtain ⟨h1, h2⟩ := hz
      dsimp only at h1 h2 hd
      subst h1 h2 hd
      exact ⟨ho, rfl, rfl, trivial⟩
    obtain ⟨its, rv, ⟨⟨pc, pd, po, ps⟩, ho2, hc2, n2, hd2⟩, _⟩ := I.tuple ht
    dsimp only at hc2 hd2
    subst hc2 hd2
    have ec := hcv _ rv
    subst ec
    exact PySem.W.kia_tup (PySem.W.handS_kitx_exc C.hg C.hk C.hs C.hd C.ha C.hn C.ht C.hm) I.kIn J ho2 e (fun z => nomatch z) fun tk => ⟨.bl b, H, I.kept (t' := tk) fun _ _ z => z, rfl, q⟩
theorem k_isX {X : Cx} {K : PySem.W.Frag} (h : X.K = K := by rfl) : CallR X (.builtin "isinstance") (rIsX K) := by subst h; exact cr_isX
theorem k_isXT {X : Cx} {K : PySem.W.Frag} (h : X.K = K := by rfl) : CallR X (.builtin "isinstance") (rIsXT K) := by subst h; exact cr_isXT
/-- a class of errors of one's own -/
structure Err (K : PySem.W.Frag) (D : Addr) : Prop where
  q : PySem.W.excIn K D [.type "ValueError", .type "Exception", .type "BaseException", .type "object"] "ValueError.__new__" = true
  k : PySem.W.keepIn K (.ref D) = true
  t : PySem.W.typeIn K (.ref D) = some (.type "type")
  c : ExcC K D
/-- what isinstance says of D's errors: the own class y, the written class y -/
def IsK (K : PySem.W.Frag) (mg : Str → Option Value) (y : Str) (b : Bool) (D : Addr) : Prop := ∀ C, mg y = some (.ref C) → PySem.W.kitOne K (.ref D) (.ref C) = some b
def IsB (K : PySem.W.Frag) (y : String) (b : Bool) (D : Addr) : Prop := PySem.W.kitOne K (.ref D) (.type y) = some b
/-- what «except y» says of them -/
def HdK (K : PySem.W.Frag) (mg : Str → Option Value) (y : Str) (b : Bool) (D : Addr) : Prop := ∀ C, mg y = some (.ref C) → PySem.W.exmOne K (.ref D) (.ref C) = some b

/-- a def that may raise, by its name -/
structure CalX (P : Program) (w : World) (K : PySem.W.Frag) (mg : Str → Option Value) (base : Heap) (k : Nat) (x : Str) (sp : Sp) : Prop where
  ex : ∃ (f : Addr) (fd : FuncData) (ps : List Str), FnOk P w K mg base (L2.CX P w) k f fd ps sp ∧ mg x = some (.ref f) ∧ PySem.W.keepIn K (.ref f) = true ∧ Binds K fd ps []
section
variable {P : Program} {w : World} {K : PySem.W.Frag} {mg : Str → Option Value} {base : Heap}
theorem FnOk_lift {k : Nat} {f : Addr} {fd : FuncData} {ps : List Str} {sp : Sp} (F : FnOk P w K mg base CX0 k f fd ps sp) : FnOk P w K mg base (L2.CX P w) k f fd ps sp :=
  ⟨F.len, fun A outer s H args us vs Q E hr he hb hv hs => codeAny_mono (F.run A outer s H args us vs Q E hr he hb hv hs) fun r s' hq => match r, hq with
    | .ok (.ret _), hq => hq
    | .ok .next, hq => hq
    | .ok .brk, hq => hq
    | .ok .cont, hq => hq
    | .error _, hq => hq.elim⟩
/-- what a def keeps, or else raises -/
def spOr (sp spx : Sp) : Sp := fun vs H Q E => sp vs H Q E ∨ spx vs H Q E
theorem calX_of {x qual : Str} {st : Stmt} {f : Addr} {fd : FuncData} {ps : List Str} {k : Nat} {sp spx : Sp} (h : FnOk P w K mg base CX0 k f fd ps sp) (hx : FnOk P w K mg base (L2.CX P w) k f fd ps spx) (F : Fun K x qual st f fd) (b : Binds K fd ps []) (g : mg x = some (.ref f)) :
    CalX P w K mg base k x (spOr sp spx) :=
  ⟨⟨f, fd, ps, ⟨fun vs H Q E q => q.elim (h.len vs H Q E) (hx.len vs H Q E), fun A outer s H args us vs Q E hr he hb hv hs => hs.elim ((FnOk_lift h).run A outer s H args us vs Q E hr he hb hv) (hx.run A outer s H args us vs Q E hr he hb hv)⟩, g, F.kp, b⟩⟩
end
section
variable {X : Cx} {k j : Nat} {x : Str} {sp : Sp} {E : L2.St → XK} {p pos : Pos} {e : Expr} {es : List Expr} {t : TA}
theorem pe_cX (c : CalX X.prog X.w X.K X.mg X.base k x sp) (hr : Room j X.A) (hk : k ≤ j) (hg : Gl X x) (hx : ∀ σ, PassesAt (L2.CX X.prog X.w) X σ (E σ)) (ha : PA X (e :: es) t)
    (hdb : (x == ("__debug__" : Str)) = false := by decide) (he : starEach (e :: es) X.env = (false, eval e X.env) :: starEach es X.env := by rfl) (hpl : (backTo pos (starEach es X.env)).any (·.1) = false := by rfl) :
    PE X (.Call (.Name x p) (e :: es) [] pos) (tCallS sp E t) := by
  obtain ⟨f, fd, ps, F, hm, kp, b⟩ := c.ex
  exact pe_callS F (hr.mono hk) hg hm kp b hx ha hdb he hpl
end
/-! ### the laws' look at a caught error -/
section
variable {K : PySem.W.Frag} {mg : Str → Option Value} {H : Hp} {Q : VK} {a D C : Addr} {b : Bool} {y : Str}
theorem g_isX (h : H a = some (errO D a)) (c : ExcC K D) (k : PySem.W.kitOne K (.ref D) (.ref C) = some b) (q : Q (.bl b) H) : rIsX K [.ref a, .ref C] H Q := ⟨a, D, .ref C, .ref C, b, rfl, h, c, fun _ r => r, k, q⟩
theorem g_isXB {y : String} (h : H a = some (errO D a)) (c : ExcC K D) (k : IsB K y b D) (q : Q (.bl b) H) : rIsX K [.ref a, .ty y] H Q := ⟨a, D, .ty y, .type y, b, rfl, h, c, fun _ r => r, k, q⟩
theorem g_isXT {t : Addr} {cs : List V} {cvs : List Value} (h : H a = some (errO D a)) (c : ExcC K D) (ht : SqT K H t cs) (hc : ∀ us, Vals cs us → us = cvs) (k : PySem.W.kitAny K (.ref D) cvs = some b) (q : Q (.bl b) H) : rIsXT K [.ref a, .ref t] H Q := ⟨a, D, t, cs, cvs, b, rfl, h, c, ht, hc, k, q⟩
theorem valsR : ∀ {as : List Addr} {us : List Value}, Vals (as.map V.ref) us → us = as.map Value.ref
  | [], _, .nil => rfl
  | _ :: as, _, .cons r t => by
    cases r
    rw [valsR t]; rfl
/-- an error that the laws take for the one due: of the i-th of the four classes asked for, of no other -/
structure Due (K : PySem.W.Frag) (mg : Str → Option Value) (i : Int) (D : Addr) : Prop where
  c : ExcC K D
  v : IsB K "ValueError" true D
  n0 : IsK K mg "NoNumber" (decide (i = 0)) D
  n1 : IsK K mg "NoTable" (decide (i = 1)) D
  n2 : IsK K mg "NoPoint" (decide (i = 2)) D
  n3 : IsK K mg "NoCut" (decide (i = 3)) D
  m0 : IsK K mg "NoOrder" false D
  m1 : IsK K mg "TooMany" false D
  m2 : IsK K mg "NoWeb" false D
  m3 : IsK K mg "NoText" false D
  m4 : IsK K mg "NoName" false D
  m5 : IsK K mg "NoRow" false D
def isErr (a D : Addr) : It := .ps fun H => H a = some (errO D a)
theorem _root_.Fc.Rp.errM {L : List It} (R : Rp K H L) (m : isErr a D ∈ L) : H a = some (errO D a) := R.psOf m
def sp_lis (K : PySem.W.Frag) (mg : Str → Option Value) : Sp := fun vs H Q _ => ∃ (L : List It) (a : Addr) (i : Int) (D : Addr), vs = [.ref a, .int i] ∧ Rp K H L ∧ isErr a D ∈ L ∧ Due K mg i D ∧ ∀ H', Rp K H' L → Q (.bl true) H'
end
def sp_fraction_x (mg : Str → Option Value) : Sp := fun vs H _ E => ∃ t : Int, vs = [.int t, .int 0] ∧ ∀ D, mg "NoNumber" = some (.ref D) → E (.ref D) none H
section
variable {K : PySem.W.Frag} {mg : Str → Option Value} {H : Hp} {Q : VK} {a C : Addr} {L : List It} {σ : L2.St}
theorem _root_.Fc.Rp.err {D : Addr} (R : Rp K H L) (n : H a = none) : Rp K (upd H a (errO D a)) (isErr a D :: L) := by
  obtain ⟨ps, u, r⟩ := R
  have r' := r.same (same_new (o := errO D a) n)
  refine ⟨_, .cons (p := [_]) rfl u, r'.addps (fun _ _ s e => s _ _ e) ?_⟩
  show wo _ _ a = _
  rw [wo_out (fun z => ?_), upd_same]
  obtain ⟨xs, e⟩ := r'.lists z
  rw [upd_same] at e
  have q := xs.2
  rw [← Option.some.inj e] at q
  exact q
theorem g_keep {c : Value} {i : Nat} {ts : Addr → L2.TS} {W : WX} {D : Ends} (h : PySem.W.exmOne K (.ref C) c = some true)
    (q : ∀ a, H a = none → ts a { nx := fun σ' H' => D.nx (σ'.set i none) (upd H' a (errO C a)), rt := fun _ _ => False, bk := fun _ _ => False, ct := fun _ _ => False } (σ.set i (some (.ref a))) H) : wKeep K c i ts W D (.ref C) none σ H :=
  ⟨true, h, fun _ => ⟨C, rfl, rfl, q⟩, fun z => nomatch z⟩
instance {sp : Sp} {E : L2.St → XK} {t : TA} : St1 (tCallS sp E t σ H Q) (t σ H fun vs H1 => sp vs H1 Q (E σ)) := ⟨id⟩
end
section
variable {K : PySem.W.Frag} {H : Hp} {L M1 M2 M3 M4 : List It} {x y z u : V} {d e f g : PyData} {s : Own}
theorem g_l4R {G : Addr → Prop} (R : Rp K H L) (h1 : Sel (.ow s x d) L M1) (h2 : Sel (.ow s y e) M1 M2) (h3 : Sel (.ow s z f) M2 M3) (h4 : Sel (.ow s u g) M3 M4) (k : ∀ c, H c = none → Rp K (upd H c (.lst [x, y, z, u])) (.ow (.li s) (.ref c) (.list [d, e, f, g]) :: M4) → G c) : [x, y, z, u].length ≤ sizeLine ∧ ∀ p, H p = none → G p :=
  ⟨by show 4 ≤ sizeLine; decide, fun p np => k p np (Rp.mkL (xs := [x, y, z, u]) (ds := [d, e, f, g]) ((R.sel h1).perm ((h2.perm.trans ((h3.perm.trans (h4.perm.cons _)).cons _)).cons _)) rfl np)⟩
/-- a list of ints taken apart -/
theorem g_unl {n : Nat} {t : TGs} {σ : L2.St} {Q : L2.St → Hp → Prop} {ns : List Int} {a : Addr} (xs : List V) (R : Rp K H L) (h : It.ow s (.ref a) (IL ns) ∈ L) (e : ns.map V.int = xs) (l : xs.length = n) (q : t xs σ H Q) : gUnl K n t (.ref a) σ H Q := ⟨a, xs, rfl, e ▸ R.ilS h, l, q⟩
end
/-! ### lists of ints: turned about, sets of them, cuts -/
section
variable {X : Cx} {K : PySem.W.Frag} {H : Hp} {Q : VK} {L : List Fc.It} {σ : L2.St} {ta te : TE}
theorem k_revL {e : Expr} {k : Nat} {p1 p2 p3 pos : Pos} (he : PE X e te) (h : X.K = K := by rfl) : PE X (.Subscript e (.Slice none none (some (.UnaryOp .USub (.Constant (.int 1) k p1) p2)) p3) pos) (tRevL K te) := by subst h; exact pe_revL he
/-- what asks a list -/
def kRev (K : PySem.W.Frag) (Q : VK) : VK := fun x H1 => ∃ a xs, x = .ref a ∧ SqL K H1 a xs ∧ ∀ p, H1 p = none → Q (.ref p) (upd H1 p (.lst xs.reverse))
def kLenSet (K : PySem.W.Frag) (Q : VK) : VK := fun x H1 => ∃ (l : Addr) (ns : List Int), x = V.ref l ∧ SqL K H1 l (ns.map V.int) ∧ ns.length < 2000 ∧ Q (.int ((nub ns).length : Nat)) H1
def kSortSet (K : PySem.W.Frag) (Q : VK) : VK := fun x H1 => ∃ (l : Addr) (ns : List Int), x = V.ref l ∧ SqL K H1 l (ns.map V.int) ∧ ns.length < 64 ∧ ∀ p : Addr, H1 p = none → Q (.ref p) (upd H1 p (.lst ((sortN ns).map V.int)))
instance {r r' : R2} {tb tc : TE} : St1 (tChain r r' ta tb tc σ H Q) (ta σ H fun x H1 => tb σ H1 fun y H2 => r x y H2 fun z H3 => ∃ k, z = .bl k ∧ if k = true then tc σ H3 fun w H4 => r' y w H4 Q else Q (.bl false) H3) := ⟨id⟩
instance : St1 (tRevL K te σ H Q) (te σ H (kRev K Q)) := ⟨id⟩
instance : St1 (tLenSet K te σ H Q) (te σ H (kLenSet K Q)) := ⟨id⟩
instance : St1 (tSortSet K te σ H Q) (te σ H (kSortSet K Q)) := ⟨id⟩
theorem g_revI {s : Own} {a : Addr} {ns : List Int} (R : Rp K H L) (m : Fc.It.ow s (.ref a) (IL ns) ∈ L) (q : ∀ c H', Rp K H' (.ow (.li .lf) (.ref c) (IL ns.reverse) :: L) → Q (.ref c) H') : kRev K Q (.ref a) H :=
  ⟨a, _, rfl, R.ilS m, fun p np => q p _ (by rw [← List.map_reverse]; exact R.mkI np)⟩
theorem g_lenSet {s : Own} {a : Addr} {ns : List Int} (R : Rp K H L) (m : Fc.It.ow s (.ref a) (IL ns) ∈ L) (z : ns.length < 2000) (q : Q (.int ((nub ns).length : Nat)) H) : kLenSet K Q (.ref a) H := ⟨a, ns, rfl, R.ilS m, z, q⟩
theorem g_sortSet {s : Own} {a : Addr} {ns : List Int} (R : Rp K H L) (m : Fc.It.ow s (.ref a) (IL ns) ∈ L) (z : ns.length < 64) (q : ∀ c H', Rp K H' (.ow (.li .lf) (.ref c) (IL (sortN ns)) :: L) → Q (.ref c) H') : kSortSet K Q (.ref a) H :=
  ⟨a, ns, rfl, R.ilS m, z, fun p np => q p _ (R.mkI np)⟩
end
section
variable {K : PySem.W.Frag} {H : Hp} {Q : VK} {L : List Fc.It} {s s1 : Own} {x y : V} {a b : List Int}
theorem eqv_il : PyData.eqv (IL a) (IL b) = decide (a = b) := eqvAll_ints a b
theorem g_neII (R : Rp K H L) (h1 : Fc.It.ow s x (IL a) ∈ L) (h2 : Fc.It.ow s1 y (IL b) ∈ L) (q : Q (.bl (!decide (a = b))) H) : rNeD K x y H Q := g_neR R h1 h2 (Sh.il.ok (by decide)) (Sh.il.ok (by decide)) (by rw [eqv_il]; exact q)
theorem g_eqII (R : Rp K H L) (h1 : Fc.It.ow s x (IL a) ∈ L) (h2 : Fc.It.ow s1 y (IL b) ∈ L) (q : Q (.bl (decide (a = b))) H) : rEqD K x y H Q := g_eqR R h1 h2 (Sh.il.ok (by decide)) (Sh.il.ok (by decide)) (by rw [eqv_il]; exact q)
/-- the same -/
theorem g_neIs (R : Rp K H L) (h1 : Fc.It.ow s x (IL a) ∈ L) (h2 : Fc.It.ow s1 y (IL a) ∈ L) (q : Q (.bl false) H) : rNeD K x y H Q := g_neII R h1 h2 (by rw [decide_eq_true rfl]; exact q)
end
theorem Rp.ref {K : PySem.W.Frag} {H : Hp} {L : List Fc.It} {s : Own} {x : V} {ds : List PyData} (R : Rp K H L) (h : Fc.It.ow s x (.list ds) ∈ L) : ∃ a, x = .ref a := by
  have := R.dpOf h
  cases this
  exact ⟨_, rfl⟩
/-- a number is a point of n -/
def isPt (n x : Int) : Bool := decide (0 ≤ x) && decide (x < n)
/-- the points 0 .. n - 1 that (do not) stand in a list -/
def ptsIn (n : Nat) (ps : List Int) : List Int := (rg 0 n).filter fun x => decide (x ∈ ps)
def ptsOut (n : Nat) (ps : List Int) : List Int := (rg 0 n).filter fun x => !decide (x ∈ ps)
/-- the cut that some points make -/
def cutOf (n : Nat) (ps : List Int) : Option (List Int) :=
  if ps.filter (fun x => !isPt n x) = [] then
    (if (if 0 ∈ sortN ps then ptsOut n (sortN ps) else sortN ps) = [] ∨ (if 0 ∈ sortN ps then ptsOut n (sortN ps) else sortN ps).length = n then none else some (if 0 ∈ sortN ps then ptsOut n (sortN ps) else sortN ps))
  else none
def sp_cutof (K : PySem.W.Frag) : Sp := fun vs H Q _ => ∃ (L : List Fc.It) (s : Own) (x : V) (n : Nat) (ps c : List Int), vs = [.int n, x] ∧ Rp K H L ∧ Fc.It.ow s x (IL ps) ∈ L ∧ n ≤ 1000 ∧ ps.length < 64 ∧ cutOf n ps = some c ∧ ∀ r H', Rp K H' (.ow (.li .lf) (.ref r) (IL c) :: L) → Q (.ref r) H'
def sp_cutof_x (K : PySem.W.Frag) (mg : Str → Option Value) : Sp := fun vs H _ E => ∃ (L : List Fc.It) (s : Own) (x : V) (n : Nat) (ps : List Int), vs = [.int n, x] ∧ Rp K H L ∧ Fc.It.ow s x (IL ps) ∈ L ∧ n ≤ 1000 ∧ ps.length < 64 ∧ cutOf n ps = none ∧ ∀ D, mg "NoCut" = some (.ref D) → ∀ H', Rp K H' L → E (.ref D) none H'
theorem rg_mem {x : Int} {n : Nat} : x ∈ rg 0 n ↔ 0 ≤ x ∧ x < n := by
  unfold rg
  rw [List.mem_map]
  constructor
  · rintro ⟨i, hi, rfl⟩
    have := List.mem_range.mp hi
    omega
  · rintro ⟨h1, h2⟩
    exact ⟨x.toNat, List.mem_range.mpr (by omega), by omega⟩
theorem rg_rise (n : Nat) : (rg 0 n).Pairwise (· < ·) := by
  unfold rg
  rw [List.pairwise_map]
  exact List.pairwise_lt_range.imp fun h => by omega
theorem pts_len (n : Nat) (ps : List Int) : (ptsIn n ps).length + (ptsOut n ps).length = n := by
  unfold ptsIn ptsOut
  have h := List.length_eq_countP_add_countP (fun x : Int => decide (x ∈ ps)) (l := rg 0 n)
  rw [List.countP_eq_length_filter, List.countP_eq_length_filter] at h
  have l : (rg 0 n).length = n := by unfold rg; rw [List.length_map, List.length_range]
  rw [l] at h
  have e : (fun x : Int => !decide (x ∈ ps)) = fun a => decide ¬ (decide (a ∈ ps) = true) := by
    funext a; by_cases z : a ∈ ps <;> simp [z]
  rw [e]; omega
theorem cutOf_due (n : Nat) (ps : List Int) : cutOf n ps = if ptsIn n ps = [] ∨ ptsOut n ps = [] ∨ ¬ ps.filter (fun x : Int => decide (x < 0) || decide (x ≥ (n : Int))) = [] then none else some (if 0 ∈ ptsIn n ps then ptsOut n ps else ptsIn n ps) := by
  have ef : (fun x => !isPt n x) = fun x : Int => decide (x < 0) || decide (x ≥ (n : Int)) := by
    funext x
    unfold isPt
    by_cases h1 : 0 ≤ x <;> by_cases h2 : x < n <;> simp [h1, h2] <;> omega
  unfold cutOf
  rw [ef]
  by_cases hb : ps.filter (fun x : Int => decide (x < 0) || decide (x ≥ (n : Int))) = []
  · have all : ∀ x ∈ ps, 0 ≤ x ∧ x < n := fun x hx => by
      have := List.filter_eq_nil_iff.mp hb x hx
      simp at this; omega
    have e1 : sortN ps = ptsIn n ps := rise_eq (sortN_rise ps) ((rg_rise n).sublist List.filter_sublist) fun k => by
      unfold ptsIn
      rw [sortN_mem, List.mem_filter, rg_mem, decide_eq_true_eq]
      exact ⟨fun h => ⟨all k h, h⟩, fun h => h.2⟩
    have e2 : ptsOut n (sortN ps) = ptsOut n ps := by
      unfold ptsOut
      congr 1; funext x
      by_cases h : x ∈ ps
      · rw [decide_eq_true h, decide_eq_true (sortN_mem.mpr h)]
      · rw [decide_eq_false h, decide_eq_false (fun z => h (sortN_mem.mp z))]
    rw [if_pos hb, e2, e1]
    have hl := pts_len n ps
    by_cases h0 : (0 : Int) ∈ ptsIn n ps
    · simp only [if_pos h0]
      have hne : ptsIn n ps ≠ [] := fun z => by rw [z] at h0; cases h0
      have hpos := List.length_pos_iff.mpr hne
      by_cases ho : ptsOut n ps = []
      · rw [if_pos (.inl ho), if_pos (.inr (.inl ho))]
      · rw [if_neg (fun z => z.elim ho fun z => by omega), if_neg (fun z => z.elim hne fun z => z.elim ho fun z => z hb)]
    · simp only [if_neg h0]
      by_cases hi : ptsIn n ps = []
      · rw [if_pos (.inl hi), if_pos (.inl hi)]
      · by_cases ho : ptsOut n ps = []
        · rw [if_pos (.inr (by rw [ho, List.length_nil] at hl; omega)), if_pos (.inr (.inl ho))]
        · have hpos := List.length_pos_iff.mpr ho
          rw [if_neg (fun z => z.elim hi fun z => by omega), if_neg (fun z => z.elim hi fun z => z.elim ho fun z => z hb)]
  · rw [if_neg hb, if_pos (.inr (.inr hb))]
section
variable {K : PySem.W.Frag} {H : Hp} {Q : VK} {L L1 : List Fc.It} {a : Addr} {ns : List Int} {i : Int}
theorem seqIx {i : Int} {n k : Nat} (hi : i = (k : Nat)) (h : k < n) : seqIndex? i n = some k := by
  unfold seqIndex?
  subst hi
  have e : (if (k : Int) < 0 then (k : Int) + (n : Int) else (k : Int)) = (k : Int) := if_neg (by omega)
  simp only [e]
  rw [if_pos (by simp; omega), Int.toNat_natCast]
/-- an own list's int is taken out -/
theorem g_popI {k : Nat} (R : Rp K H L) (h : Sel (.ow (.li .lf) (.ref a) (IL ns)) L L1) (hi : i = (k : Nat)) (hk : k < ns.length) (b : i < 2 ^ 63) (q : ∀ H', Rp K H' (.ow (.li .lf) (.ref a) (IL (ns.eraseIdx k)) :: L1) → Q (.int ns[k]) H') : rPopAt (.ref a) [.int i] H Q := by
  obtain ⟨a', e, R1⟩ := (R.sel h).ilTop
  cases e
  refine ⟨a, _, i, k, _, rfl, rfl, R1.topAt, by omega, b, seqIx hi (by rw [List.length_map]; exact hk), by rw [List.getElem?_map, List.getElem?_eq_getElem hk]; rfl, q _ ?_⟩
  rw [L2.erase_mapI]
  exact R1.mut.il
theorem cutV_to {xs : List V} {k : Nat} (h : k ≤ xs.length) : cutV xs none (some (k : Int)) = xs.take k := by
  unfold cutV
  rw [HT.sIx_none, HT.sIx_nat, List.drop_zero, Nat.sub_zero, Nat.min_eq_left h]
theorem cutV_from {xs : List V} {k : Nat} (h : k ≤ xs.length) : cutV xs (some (k : Int)) none = xs.drop k := by
  unfold cutV
  rw [HT.sIx_none, HT.sIx_nat, Nat.min_eq_left h, List.take_of_length_le (by rw [List.length_drop]; omega)]
theorem g_slTo {k : Nat} {s : Own} (R : Rp K H L) (m : Fc.It.ow s (.ref a) (IL ns) ∈ L) (hi : i = (k : Nat)) (hk : k ≤ ns.length) (q : ∀ c H', Rp K H' (.ow (.li .lf) (.ref c) (IL (ns.take k)) :: L) → Q (.ref c) H') : rSlL K (.ref a) none (some i) H Q :=
  ⟨a, _, rfl, R.ilS m, fun p np => q p _ (by subst hi; rw [cutV_to (by rw [List.length_map]; exact hk), ← List.map_take]; exact R.mkI np)⟩
theorem g_slFrom {k : Nat} {s : Own} (R : Rp K H L) (m : Fc.It.ow s (.ref a) (IL ns) ∈ L) (hi : i = (k : Nat)) (hk : k ≤ ns.length) (q : ∀ c H', Rp K H' (.ow (.li .lf) (.ref c) (IL (ns.drop k)) :: L) → Q (.ref c) H') : rSlL K (.ref a) (some i) none H Q :=
  ⟨a, _, rfl, R.ilS m, fun p np => q p _ (by subst hi; rw [cutV_from (by rw [List.length_map]; exact hk), ← List.map_drop]; exact R.mkI np)⟩
end
/-! ### drawn tables -/
/-- distances: alike both ways, nought from a point to itself, none below nought, small enough -/
structure Tab (g : Nat → Nat → Rat) : Prop where
  sy : ∀ i j, g i j = g j i
  di : ∀ i, g i i = 0
  po : ∀ i j, 0 ≤ g i j
  bd : ∀ i j, Bd 134 (g i j)
section
variable {K : PySem.W.Frag} {H : Hp} {Q : VK} {L : List Fc.It}
/-- the display (i, 1) -/
theorem g_frI {G : Addr → Prop} {i : Int} (R : Rp K H L) (k : ∀ p, H p = none → Rp K (upd H p (.tup [.int i, .int 1])) (.sh (.ref p) (FD ((i : Int) : Rat)) :: L) → G p) : [V.int i, V.int 1].length ≤ sizeLine ∧ ∀ p, H p = none → G p :=
  ⟨two_le, fun p np => k p np (R.frN (x := ((i : Int) : Rat)) np)⟩
end
theorem g_listS {K : PySem.W.Frag} {H : Hp} {Q : VK} {L : List Fc.It} {a : Addr} {ds : List PyData} (R : Rp K H L) (m : Fc.It.sh (.ref a) (.list ds) ∈ L) (q : ∀ c H', Rp K H' (.ow (.li .lf) (.ref c) (.list ds) :: L) → Q (.ref c) H') : rListOf K [.ref a] H Q := by
  obtain ⟨b, ys, e, l, eb, R2⟩ := R.shAll m
  cases e
  exact ⟨a, ys, rfl, .inl (SqL.of eb), fun p np => q p _ (Rp.mkL R2 l np)⟩
theorem map_getD {α β : Type} (f : α → β) (d : α) (l : List α) : l.map f = (List.range l.length).map fun i => f (l.getD i d) := by
  apply List.ext_getElem
  · simp
  · intro i h1 h2
    rw [List.length_map] at h1
    simp [List.getD_eq_getElem?_getD, h1]
/-- a drawn distance -/
def sp_dist (K : PySem.W.Frag) (Pr : Rat → Prop) : Sp := fun vs H Q _ => ∃ (L L1 : List Fc.It) (p : Addr) (n : Nat), vs = [.ref p] ∧ Rp K H L ∧ Sel (.pr (PoolP n) p) L L1 ∧ n ≤ 2 ^ 50 ∧
  ∀ a x H', 0 ≤ x → Bd 134 x → Pr x → Rp K H' (.sh (.ref a) (FD x) :: .pr (PoolP (n + 30)) p :: L1) → Q (.ref a) H'
/-- a drawn table, its rows each its own -/
def sp_dtable (K : PySem.W.Frag) (Pr : Rat → Prop) (u : Nat) : Sp := fun vs H Q _ => ∃ (L L1 : List Fc.It) (p : Addr) (n m : Nat), vs = [.ref p, .int m] ∧ Rp K H L ∧ Sel (.pr (PoolP n) p) L L1 ∧ n + u ≤ 2 ^ 41 ∧ m ≤ 10 ∧
  ∀ a g H', Tab g → (∀ i j, Pr (g i j)) → Rp K H' (.ow oT (.ref a) (TD (tabG m g)) :: .pr (PoolP (n + u)) p :: L1) → Q (.ref a) H'
theorem divInt_nn {t b : Int} (ht : 0 ≤ t) (hb : 0 < b) : 0 ≤ Rat.divInt t b := by
  rcases Int.lt_or_eq_of_le ht with h | h
  · rw [Rat.divInt_eq_div, Rat.div_def]
    have h1 : (0 : Rat) < (t : Rat) := by exact_mod_cast h
    have h2 : (0 : Rat) < (b : Rat) := by exact_mod_cast hb
    exact Rat.le_of_lt (Rat.mul_pos h1 (Rat.inv_pos.mpr h2))
  · subst h
    rw [Rat.divInt_eq_div, Rat.div_def]
    simp
/-- the part for some points -/
def partT (g : Nat → Nat → Rat) (ps : List Int) : List (List Rat) := ps.map fun i => ps.map fun j => g i.toNat j.toNat
/-- points that make a part -/
def PtsOk (n : Nat) (ps : List Int) : Prop := ps ≠ [] ∧ ps.Nodup ∧ ∀ p ∈ ps, isPt n p = true
def sp_part (K : PySem.W.Frag) : Sp := fun vs H Q _ => ∃ (L : List Fc.It) (s : Own) (x y : V) (n : Nat) (g : Nat → Nat → Rat) (ps : List Int), vs = [x, y] ∧ Rp K H L ∧ Fc.It.sh x (TD (tabG n g)) ∈ L ∧ Fc.It.ow s y (IL ps) ∈ L ∧ n ≤ 1000 ∧ ps.length < 1000 ∧ PtsOk n ps ∧
  ∀ a H', Rp K H' (.ow oT (.ref a) (TD (partT g ps)) :: L) → Q (.ref a) H'
def sp_part_x (K : PySem.W.Frag) (mg : Str → Option Value) : Sp := fun vs H _ E => ∃ (L : List Fc.It) (s : Own) (x y : V) (n : Nat) (g : Nat → Nat → Rat) (ps : List Int), vs = [x, y] ∧ Rp K H L ∧ Fc.It.sh x (TD (tabG n g)) ∈ L ∧ Fc.It.ow s y (IL ps) ∈ L ∧ n ≤ 1000 ∧ ps.length < 1000 ∧ ¬ PtsOk n ps ∧
  ∀ D, mg "NoPoint" = some (.ref D) → ∀ H', Rp K H' L → E (.ref D) none H'
/-- a copy -/
def sp_copied (K : PySem.W.Frag) : Sp := fun vs H Q _ => ∃ (L : List Fc.It) (x : V) (t : List (List Rat)), vs = [x] ∧ Rp K H L ∧ Fc.It.sh x (TD t) ∈ L ∧ t.length ≤ 1000 ∧ (∀ r ∈ t, r.length ≤ 1000) ∧ ∀ a H', Rp K H' (.ow oT (.ref a) (TD t) :: L) → Q (.ref a) H'
/-- drawn points -/
def sp_points (K : PySem.W.Frag) : Sp := fun vs H Q _ => ∃ (L L1 : List Fc.It) (p : Addr) (n m : Nat), vs = [.ref p, .int m] ∧ Rp K H L ∧ Sel (.pr (PoolP n) p) L L1 ∧ n ≤ 2 ^ 50 ∧ 1 ≤ m ∧ m ≤ 1000 ∧
  ∀ a ps H', PtsOk m ps → ps.length ≤ m → Rp K H' (.ow (.li .lf) (.ref a) (IL ps) :: .pr (PoolP (n + 1100)) p :: L1) → Q (.ref a) H'
/-! ### str(X('m')) -/
open Builtin Builtin.Str in
section
variable {prog : Program} {w : World} {A : Around} {E : Value → Shared → Prop} {s : Shared} {K : PySem.W.Frag} {C e t0 : Addr}
theorem strOf_exc (hu : A.units < cLine) {m : Str} {tk : Tok} {Q : Value → Shared → Prop} (x : PySem.ExcC K C e t0 s.heap) (ht : s.heap.TupAt t0 [.str m tk]) (hs : PySem.W.findIn K (.ref C) "__str__" = some (some (.builtin "BaseException.__str__"))) (hB : PySem.W.subIn K (.ref C) (.type "BaseException") = some true)
    (hq : Q (.str m tk) s) : wpAny (model prog w) A (Builtin.Str.strOf (.ref e)) Q E s := by
  have hf : PySem.W.Looks (model prog w) s.heap (typeLookup (.ref C) "__str__") (some (.builtin "BaseException.__str__")) := PySem.W.looks_findIn x.1 hs
  unfold Builtin.Str.strOf
  repeat (first | with_reducible refine wpAny_cRoomFor hu ?_ | with_reducible refine callSpecial_C x.LT hf (PySem.F.excStr_Exception.str.bind _) (call_bexcStr_C x hB (bexcStr_C_one x ht ⟨_, rfl, ?_⟩)) | wp_step)
  exact hq
theorem str_of_exc {m : Str} {tk : Tok} {Q : Value → Shared → Prop} (hu : A.units + 64 < cLine) (x : PySem.ExcC K C e t0 s.heap) (ht : s.heap.TupAt t0 [.str m tk]) (hs : PySem.W.findIn K (.ref C) "__str__" = some (some (.builtin "BaseException.__str__"))) (hB : PySem.W.subIn K (.ref C) (.type "BaseException") = some true)
    (h : Q (.str m tk) s) : wpAny (model prog w) A (call (.type "str") [.ref e]) Q E s :=
  callType_new PySem.F.called_str (by decide) (PySem.F.typeCall_str_1 _) (PySem.F.newCall_str_1 _) (fun obj => PySem.F.args_object_init_2 obj _) PySem.F.entry_str_new
    (meets_str_new (S := fun A R s => A.in1.units < cLine ∧ PySem.ExcC K C e t0 s.heap ∧ s.heap.TupAt t0 [.str m tk] ∧ R (.ok (.ret (.str m tk))) s) fun _ _ _ _ _ ⟨hu, x, ht, hq⟩ => strOf_exc hu x ht hs hB hq) ⟨by show A.units + 1 + 1 < cLine; omega, x, ht, typeIs_str _ _ _, h⟩
end
/-- str(X('m')), X an error of one's own -/
theorem pe_strE {X : Cx} {C : Addr} {x m : Str} {j : Nat} {p p2 p3 pos pos2 : Pos} (hg : Gl X "str") (hm : X.mg "str" = none) (e : Err X.K C) (hs : PySem.W.findIn X.K (.ref C) "__str__" = some (some (.builtin "BaseException.__str__"))) (gC : X.mg x = some (.ref C)) (hgx : Gl X x) (hu : X.A.units + 64 < cLine)
    (hdb : (x == ("__debug__" : Str)) = false := by decide) : PE X (.Call (.Name "str" p) [.Call (.Name x p2) [.Constant (.str m) j p3] [] pos2] [] pos) (tC (.str m)) := by
  refine ⟨fun pins s σ H Q I h => Call_ (ld_blt I hg hm boot_str (PyProof.Rows.callWith_type1 (PyProof.Rows.args_cons ?_ (by rfl)) (by rfl) rfl))⟩
  refine wpAny_Call_Name_kw (ld_glob I hgx gC ?_ hdb)
  have he : PE X (.Constant (.str m) j p3) (tC (.str m)) := pe_str
  have st : starEach [Expr.Constant (.str m) j p3] X.env = (false, eval (.Constant (.str m) j p3) X.env) :: starEach [] X.env := rfl
  refine PySem.W.callWith_K (h₀ := X.base) I.ok.mod.kin e.k ?_ st (by rfl)
  rw [st]
  show wpAny _ _ (spliced ((false, eval (.Constant (.str m) j p3) X.env) :: backTo pos2 (starEach [] X.env))) _ _ s
  refine Calls.spliced_cons (thn (he.run pins s σ H (fun v H1 => v = .str m ∧ H = H1) I ⟨rfl, rfl⟩) fun u s1 ⟨v, H1, I1, r1, ev, eH⟩ => Calls.spliced_nil ⟨I1.kIn, ?_⟩)
  subst ev eH
  obtain ⟨tk, rfl⟩ := r1
  show wpAny _ _ (call (.ref C) [_]) _ _ _
  obtain ⟨bm, N, nm, qn, bs, hdct, sn, sub, ab, col, dd, k0, k1, k2, k3, k5, mN, hC, hN, hni, T⟩ := exc_obj I1.kIn e.q
  refine wpAny_call_exc_subT PySem.F.excBase_ValueError T hC hN hni (fun h' a hm2 => PyProof.Rows.args_nil ?_) (by show 1 ≤ sizeLine; rw [sizeLine_eq]; omega)
  have I2 := I1.kept (t' := s1.toks) hm2.keeps
  obtain ⟨t, ht, _, htt⟩ := hm2.there
  refine str_of_exc hu ⟨I2.kIn, _, _, ht, rfl, rfl, rfl⟩ ⟨_, _, htt, rfl, rfl⟩ hs e.c.hs ⟨.str m, H, I2, ⟨_, rfl⟩, h⟩
/-! ### whole tables, least ones, sides of cuts -/
def rMax3 : List V → Hp → VK → Prop := fun xs H Q => ∃ i j k, xs = [.int i, .int j, .int k] ∧ Q (.int (max (max i j) k)) H
theorem cr_max3 {X : Cx} (h : X.calm = true) : CallR X (.builtin "max") rMax3 := by
  intro pins s σ H xs us Q I r hq
  obtain ⟨i, j, k, rfl, q⟩ := hq
  refine call_max3Nu h pins s σ H _ us Q I r ⟨.int i, .int j, .int k, .int (max (max i j) k), rfl, ?_, q⟩
  show ((nuLt (.int i) (.int j)).map fun c => if c = true then V.int j else .int i).bind (fun m => (nuLt m (.int k)).map fun c => if c = true then V.int k else m) = _
  show (((some (decide (i < j))).map fun c => if c = true then V.int j else .int i).bind (fun m => (nuLt m (.int k)).map fun c => if c = true then V.int k else m)) = _
  have e1 : (if decide (i < j) = true then V.int j else .int i) = .int (max i j) := by
    by_cases h : i < j
    · rw [decide_eq_true h, if_pos rfl, show max i j = j by omega]
    · rw [decide_eq_false h, if_neg (by decide), show max i j = i by omega]
  show (nuLt (if decide (i < j) = true then V.int j else .int i) (.int k)).map (fun c => if c = true then V.int k else (if decide (i < j) = true then V.int j else .int i)) = _
  rw [e1]
  show (some (decide (max i j < k))).map (fun c => if c = true then V.int k else .int (max i j)) = _
  show some (if decide (max i j < k) = true then V.int k else .int (max i j)) = _
  by_cases h : max i j < k
  · rw [decide_eq_true h, if_pos rfl, show max (max i j) k = k by omega]
  · rw [decide_eq_false h, if_neg (by decide), show max (max i j) k = max i j by omega]
section
variable {H : Hp} {Q : VK} {i j k : Int}
theorem g_max3 (q : Q (.int (max (max i j) k)) H) : rMax3 [.int i, .int j, .int k] H Q := ⟨i, j, k, rfl, q⟩
instance : St1 (rMax3 [.int i, .int j, .int k] H Q) (Q (.int (max (max i j) k)) H) := ⟨g_max3⟩
end
section
variable {K : PySem.W.Frag} {H H' : Hp} {Q : VK} {L L' L1 L2 A B : List Fc.It} {a b p r : Addr} {xs ys : List V} {v x y z : V} {d e f : PyData} {ds es : List PyData} {s s1 s2 s3 : Own} {i j m : Int} {n k l : Nat} {g : Nat → Nat → Int}
/-- extend by a list of one's own -/
theorem g_extR (R : Rp K H L) (h1 : Sel (.ow (.li s) (.ref a) (.list ds)) L L1) (h2 : Sel (.ow (.li s) (.ref b) (.list es)) L1 L2) (z : ds.length + es.length ≤ 100000) (q : ∀ H', Rp K H' (.ow (.li s) (.ref a) (.list (ds ++ es)) :: L2) → Q .non H') : rExtend (.ref a) [.ref b] H Q := by
  have R1 : Rp K H (.ow (.li s) (.ref a) (.list ds) :: .ow (.li s) (.ref b) (.list es) :: L2) := (R.sel h1).perm (h2.perm.cons _)
  obtain ⟨a', xs, e1, l1, R2⟩ := R1.take
  cases e1
  have ea := R2.topAt
  have R3 : Rp K H (.ow (.li s) (.ref b) (.list es) :: .top a xs :: (each s xs ds ++ L2)) := R2.perm ((List.perm_middle.cons _).trans (.swap _ _ _))
  obtain ⟨b', ys, e2, l2, R4⟩ := R3.take
  cases e2
  refine ⟨a, b, xs, ys, rfl, rfl, ea, R4.topAt, sz_le (by omega), q _ ?_⟩
  have R5 : Rp K H (.top a xs :: (each s xs ds ++ (each s ys es ++ L2))) := by
    refine R4.tail.perm ?_
    refine (List.perm_middle (l₁ := each s ys es) (a := Fc.It.top a xs) (l₂ := each s xs ds ++ L2)).trans (.cons _ ?_)
    rw [← List.append_assoc, ← List.append_assoc]
    exact List.perm_append_comm.append_right _
  have R6 : Rp K (upd H a (.lst (xs ++ ys))) (.top a (xs ++ ys) :: (each s xs ds ++ (each s ys es ++ L2))) := R5.mut
  rw [← List.append_assoc, ← each_app l1] at R6
  exact R6.put (by rw [List.length_append, List.length_append, l1, l2])
/-- rows of whole numbers: a row, a cell, a cell set -/
theorem g_ixGI (k : Nat) (R : Rp K H L) (h : Fc.It.ow s (.ref a) (LD (tabG n g)) ∈ L) (hi : i = (k : Nat)) (hk : k < n) (q : ∀ r, SqL K H r (((List.range n).map (g k)).map V.int) → (∃ xs, H a = some (.lst xs) ∧ xs[k]? = some (.ref r)) → Q (.ref r) H) : rIxL K (.ref a) (.int i) H Q := by
  obtain ⟨xs, h1, h2⟩ := R.raw h
  obtain ⟨w, hw, hd⟩ := DqAll.get h2 (i := k) (d := IL ((List.range n).map (g k))) (by
    unfold tabG
    rw [List.map_map, List.getElem?_map, List.getElem?_range hk]; rfl)
  obtain ⟨r, vs, rfl, h3, h4⟩ := Dq.lstI hd
  refine g_ixL (SqL.of h1) (by rw [hi]; exact atI_nat hw) (q r ?_ ⟨xs, h1, hw⟩)
  have e : vs = ((List.range n).map (g k)).map V.int := by
    have : ∀ {vs : List V} {ns : List Int}, DqAll K H vs (ns.map PyData.int) → vs = ns.map V.int := by
      intro vs ns
      induction ns generalizing vs with
      | nil => intro h; cases h; rfl
      | cons z ns ih =>
        intro h
        cases h with
        | cons h1 h2 =>
          cases h1
          rw [ih h2]; rfl
    exact this h4
  rw [← e]
  exact SqL.of h3
theorem g_ixRI {f : Nat → Int} (l : Nat) (h : SqL K H r (((List.range n).map f).map V.int)) (hj : j = (l : Nat)) (hl : l < n) (q : Q (.int (f l)) H) : rIxL K (.ref r) (.int j) H Q :=
  g_ixL h (by rw [hj]; exact atI_nat (by rw [List.map_map, List.getElem?_map, List.getElem?_range hl]; rfl)) q
theorem g_set2I (k l : Nat) (R : Rp K H L) (h1 : Sel (.ow oT (.ref a) (LD (tabG n g))) L L1) (hk : k < n) (hr : ∃ xs, H a = some (.lst xs) ∧ xs[k]? = some (.ref r)) (hj : j = (l : Nat)) (hl : l < n) {G : Hp → Prop}
    (q : ∀ H', Rp K H' (.ow oT (.ref a) (LD (tabG n fun a b => if a = k ∧ b = l then m else g a b)) :: L1) → G H') : rSetL (.ref r) (.int j) (.int m) H G := by
  have R1 : Rp K H (.ow oT (.ref a) (LD (tabG n g)) :: .sh (.int m) (.int m) :: L1) := ((R.sel h1).int m).perm (.swap _ _ _)
  obtain ⟨a', xs, ea, lx, R2⟩ := R1.take
  cases ea
  obtain ⟨xs', e', hx⟩ := hr
  obtain rfl : xs' = xs := by have := R2.topAt; rw [e'] at this; cases this; rfl
  have hk' : k < (tabG n g).length := by rw [tabG_len]; exact hk
  have hd : ((tabG n g).map IL)[k]? = some (IL ((tabG n g).getD k [])) := by rw [List.getElem?_map, List.getD_eq_getElem?_getD, List.getElem?_eq_getElem hk']; rfl
  obtain ⟨C, R3, back⟩ := R2.focus2 hx hd
  have R4 : Rp K H (.ow (.li .lf) (.ref r) (IL ((tabG n g).getD k [])) :: .sh (.int m) (.int m) :: .top a xs' :: (C ++ L1)) := R3.perm (.cons _ ((List.Perm.cons _ List.perm_middle).trans (.swap _ _ _)))
  have hm : l < ((tabG n g).getD k []).length := by rw [tabG_row hk, List.length_map, List.length_range]; exact hl
  obtain ⟨vs', ev, lv, R5⟩ := R4.setOw (k := l) (by rw [List.length_map]; exact hm)
  refine ⟨r, vs', j, l, rfl, rfl, ev, ?_, ?_⟩
  · unfold ixN
    rw [List.length_map] at lv
    rw [hj, if_pos (by omega), if_pos (by omega)]
    rfl
  · refine q _ ?_
    have R6 := back _ xs' (.ref r) (IL (((tabG n g).getD k []).set l m)) L1 (by rw [show IL (((tabG n g).getD k []).set l m) = .list ((((tabG n g).getD k []).map PyData.int).set l (PyData.int m)) by rw [← List.map_set]]; exact R5)
    have ex : xs'.set k (.ref r) = xs' := by
      obtain ⟨l1, e1⟩ := List.getElem?_eq_some_iff.mp hx
      rw [← e1, List.set_getElem_self]
    rw [ex, ← List.map_set] at R6
    rw [← tabG_set hk hl m]
    exact R6.put (by rw [lx, List.length_map, List.length_map, List.length_set])
end
/-- the least of a list -/
def minL (l : List Int) : Option Int := l.foldl (fun f y => some (match f with | none => y | some m => if y < m then y else m)) none
theorem minL_snoc (l : List Int) (y : Int) : minL (l ++ [y]) = some (match minL l with | none => y | some m => if y < m then y else m) := by unfold minL; rw [List.foldl_append]; rfl
theorem minL_acc : ∀ (l : List Int) (m : Int), ∃ z, l.foldl (fun f y => some (match f with | none => y | some m => if y < m then y else m)) (some m) = some z ∧ (z = m ∨ z ∈ l) ∧ z ≤ m ∧ ∀ y ∈ l, z ≤ y
  | [], m => ⟨m, rfl, .inl rfl, Int.le_refl _, fun _ h => (by cases h)⟩
  | x :: l, m => by
    obtain ⟨z, e, h1, h2, h3⟩ := minL_acc l (if x < m then x else m)
    refine ⟨z, e, ?_, ?_, fun y hy => ?_⟩
    · rcases h1 with h1 | h1
      · by_cases c : x < m
        · rw [if_pos c] at h1; exact .inr (by rw [h1]; exact .head _)
        · rw [if_neg c] at h1; exact .inl h1
      · exact .inr (.tail _ h1)
    · by_cases c : x < m
      · rw [if_pos c] at h2; omega
      · rw [if_neg c] at h2; omega
    · rcases List.mem_cons.mp hy with rfl | hy
      · by_cases c : y < m
        · rw [if_pos c] at h2; omega
        · rw [if_neg c] at h2; omega
      · exact h3 y hy
theorem minL_ok : ∀ (l : List Int), (l = [] ∧ minL l = none) ∨ ∃ z, minL l = some z ∧ z ∈ l ∧ ∀ y ∈ l, z ≤ y
  | [] => .inl ⟨rfl, rfl⟩
  | x :: l => by
    obtain ⟨z, e, h1, h2, h3⟩ := minL_acc l x
    refine .inr ⟨z, e, ?_, fun y hy => ?_⟩
    · rcases h1 with rfl | h1
      · exact .head _
      · exact .tail _ h1
    · rcases List.mem_cons.mp hy with rfl | hy
      · exact h2
      · exact h3 y hy
/-- least among what has P -/
def Lst (P : Int → Prop) (z : Int) : Prop := P z ∧ ∀ y, P y → z ≤ y
theorem Lst.uniq {P : Int → Prop} {y z : Int} (a : Lst P y) (b : Lst P z) : y = z := by
  have := a.2 z b.1; have := b.2 y a.1; omega
theorem Lst.iff {P P' : Int → Prop} {z : Int} (h : Lst P z) (e : ∀ y, P y ↔ P' y) : Lst P' z := ⟨(e z).mp h.1, fun y hy => h.2 y ((e y).mpr hy)⟩
def optV : Option Int → V
  | none => .non
  | some i => .int i
/-- what four points are over -/
def ov (r : Nat → Nat → Int) (a b c e : Int) : Int :=
  max (max (r a.toNat b.toNat + r c.toNat e.toNat) (r a.toNat c.toNat + r b.toNat e.toNat)) (r a.toNat e.toNat + r b.toNat c.toNat) - (r a.toNat b.toNat + r c.toNat e.toNat)
theorem ov_symA {r : Nat → Nat → Int} (sy : ∀ i j, r i j = r j i) (a b c e : Int) : ov r a b c e = ov r b a c e := by
  unfold ov
  rw [sy b.toNat a.toNat]
  omega
theorem ov_symB {r : Nat → Nat → Int} (sy : ∀ i j, r i j = r j i) (a b c e : Int) : ov r a b c e = ov r a b e c := by
  unfold ov
  rw [sy e.toNat c.toNat]
  omega
/-- what is over, of a side and others -/
def OvP (r : Nat → Nat → Int) (A B : List Int) (y : Int) : Prop := ∃ a b c e, a ∈ A ∧ b ∈ A ∧ c ∈ B ∧ e ∈ B ∧ y = ov r a b c e
/-- pairs of points, each with itself too -/
def prsL : List Int → List (Int × Int)
  | [] => []
  | x :: l => (x :: l).map (fun y => (x, y)) ++ prsL l
theorem prsL_mem : ∀ {l : List Int} {p : Int × Int}, p ∈ prsL l → p.1 ∈ l ∧ p.2 ∈ l
  | x :: l, p, h => by
    rcases List.mem_append.mp h with h | h
    · obtain ⟨y, hy, rfl⟩ := List.mem_map.mp h
      exact ⟨List.mem_cons_self, hy⟩
    · obtain ⟨h1, h2⟩ := prsL_mem h
      exact ⟨.tail _ h1, .tail _ h2⟩
theorem prsL_all : ∀ {l : List Int} {a b : Int}, a ∈ l → b ∈ l → (a, b) ∈ prsL l ∨ (b, a) ∈ prsL l
  | x :: l, a, b, ha, hb => by
    rcases List.mem_cons.mp ha with rfl | ha'
    · exact .inl (List.mem_append_left _ (List.mem_map.mpr ⟨b, hb, rfl⟩))
    · rcases List.mem_cons.mp hb with rfl | hb'
      · exact .inr (List.mem_append_left _ (List.mem_map.mpr ⟨a, ha, rfl⟩))
      · rcases prsL_all ha' hb' with h | h
        · exact .inl (List.mem_append_right _ h)
        · exact .inr (List.mem_append_right _ h)
theorem prsL_drop (l : List Int) (k : Nat) (h : k < l.length) : prsL (l.drop k) = (l.drop k).map (fun y => (l.getD k 0, y)) ++ prsL (l.drop (k + 1)) := by
  have e : l.drop k = l[k] :: l.drop (k + 1) := List.drop_eq_getElem_cons h
  rw [e]
  show (l[k] :: l.drop (k + 1)).map (fun y => (l[k], y)) ++ prsL (l.drop (k + 1)) = _
  rw [List.getD_eq_getElem?_getD, List.getElem?_eq_getElem h]; rfl
/-- all values, in the order of the loops -/
def ovL (r : Nat → Nat → Int) (A B : List (Int × Int)) : List Int := A.flatMap fun p => B.map fun q => ov r p.1 p.2 q.1 q.2
theorem ovL_ok {r : Nat → Nat → Int} (sy : ∀ i j, r i j = r j i) {A B : List Int} (hA : A ≠ []) (hB : B ≠ []) : ∃ z, minL (ovL r (prsL A) (prsL B)) = some z ∧ Lst (OvP r A B) z := by
  have all : ∀ y, OvP r A B y ↔ y ∈ ovL r (prsL A) (prsL B) := fun y => by
    constructor
    · rintro ⟨a, b, c, e, ha, hb, hc, he, rfl⟩
      unfold ovL
      rcases prsL_all ha hb with h | h <;> rcases prsL_all hc he with h' | h'
      · exact List.mem_flatMap.mpr ⟨_, h, List.mem_map.mpr ⟨_, h', rfl⟩⟩
      · rw [ov_symB sy]; exact List.mem_flatMap.mpr ⟨_, h, List.mem_map.mpr ⟨_, h', rfl⟩⟩
      · rw [ov_symA sy]; exact List.mem_flatMap.mpr ⟨_, h, List.mem_map.mpr ⟨_, h', rfl⟩⟩
      · rw [ov_symA sy, ov_symB sy]; exact List.mem_flatMap.mpr ⟨_, h, List.mem_map.mpr ⟨_, h', rfl⟩⟩
    · intro h
      obtain ⟨p, hp, h⟩ := List.mem_flatMap.mp h
      obtain ⟨q, hq, rfl⟩ := List.mem_map.mp h
      exact ⟨p.1, p.2, q.1, q.2, (prsL_mem hp).1, (prsL_mem hp).2, (prsL_mem hq).1, (prsL_mem hq).2, rfl⟩
  obtain ⟨x, A, rfl⟩ : ∃ x A', A = x :: A' := by cases A with | nil => exact (hA rfl).elim | cons x A => exact ⟨x, A, rfl⟩
  obtain ⟨y, B, rfl⟩ : ∃ x A', B = x :: A' := by cases B with | nil => exact (hB rfl).elim | cons x A => exact ⟨x, A, rfl⟩
  rcases minL_ok (ovL r (prsL (x :: A)) (prsL (y :: B))) with ⟨e, _⟩ | ⟨z, e, h1, h2⟩
  · have : ov r x x y y ∈ ovL r (prsL (x :: A)) (prsL (y :: B)) := (all _).mp ⟨x, x, y, y, .head _, .head _, .head _, .head _, rfl⟩
    rw [e] at this; cases this
  · exact ⟨z, e, (all z).mpr h1, fun w hw => h2 w ((all w).mp hw)⟩
/-- all values, of all four -/
def ovL4 (r : Nat → Nat → Int) (A B : List Int) : List Int := A.flatMap fun a => A.flatMap fun b => B.flatMap fun c => B.map fun e => ov r a b c e
theorem ovL4_ok {r : Nat → Nat → Int} {A B : List Int} (hA : A ≠ []) (hB : B ≠ []) : ∃ z, minL (ovL4 r A B) = some z ∧ Lst (OvP r A B) z := by
  have all : ∀ y, OvP r A B y ↔ y ∈ ovL4 r A B := fun y => by
    unfold ovL4
    constructor
    · rintro ⟨a, b, c, e, ha, hb, hc, he, rfl⟩
      exact List.mem_flatMap.mpr ⟨a, ha, List.mem_flatMap.mpr ⟨b, hb, List.mem_flatMap.mpr ⟨c, hc, List.mem_map.mpr ⟨e, he, rfl⟩⟩⟩⟩
    · intro h
      obtain ⟨a, ha, h⟩ := List.mem_flatMap.mp h
      obtain ⟨b, hb, h⟩ := List.mem_flatMap.mp h
      obtain ⟨c, hc, h⟩ := List.mem_flatMap.mp h
      obtain ⟨e, he, rfl⟩ := List.mem_map.mp h
      exact ⟨a, b, c, e, ha, hb, hc, he, rfl⟩
  obtain ⟨x, A, rfl⟩ : ∃ x A', A = x :: A' := by cases A with | nil => exact (hA rfl).elim | cons x A => exact ⟨x, A, rfl⟩
  obtain ⟨y, B, rfl⟩ : ∃ x A', B = x :: A' := by cases B with | nil => exact (hB rfl).elim | cons x A => exact ⟨x, A, rfl⟩
  rcases minL_ok (ovL4 r (x :: A) (y :: B)) with ⟨e, _⟩ | ⟨z, e, h1, h2⟩
  · have : ov r x x y y ∈ ovL4 r (x :: A) (y :: B) := (all _).mp ⟨x, x, y, y, .head _, .head _, .head _, .head _, rfl⟩
    rw [e] at this; cases this
  · exact ⟨z, e, (all z).mpr h1, fun w hw => h2 w ((all w).mp hw)⟩
/-- the same table so many times -/
theorem ov_scale {r r' : Nat → Nat → Int} {t u : Int} (hu : 0 < u) (ht : 0 < t) {a b c e : Int} (h : ∀ x ∈ [a, b, c, e], ∀ y ∈ [a, b, c, e], r' x.toNat y.toNat * t = r x.toNat y.toNat * u) : ov r' a b c e * t = ov r a b c e * u := by
  have h1 := h a (by simp) b (by simp)
  have h2 := h c (by simp) e (by simp)
  have h3 := h a (by simp) c (by simp)
  have h4 := h b (by simp) e (by simp)
  have h5 := h a (by simp) e (by simp)
  have h6 := h b (by simp) c (by simp)
  unfold ov
  have mm : ∀ x y k : Int, 0 < k → max x y * k = max (x * k) (y * k) := fun x y k hk => by
    by_cases c : x ≤ y
    · have := Int.mul_le_mul_of_nonneg_right c (Int.le_of_lt hk)
      rw [show max x y = y by omega, show max (x * k) (y * k) = y * k by omega]
    · have := Int.mul_le_mul_of_nonneg_right (show y ≤ x by omega) (Int.le_of_lt hk)
      rw [show max x y = x by omega, show max (x * k) (y * k) = x * k by omega]
  rw [Int.sub_mul, Int.sub_mul, mm _ _ _ ht, mm _ _ _ ht, mm _ _ _ hu, mm _ _ _ hu, Int.add_mul, Int.add_mul, Int.add_mul, Int.add_mul, Int.add_mul, Int.add_mul, h1, h2, h3, h4, h5, h6]
theorem lst_scale {r r' : Nat → Nat → Int} {t u : Int} (hu : 0 < u) (ht : 0 < t) {A B : List Int} {y z : Int} (h : ∀ a b c e, a ∈ A → b ∈ A → c ∈ B → e ∈ B → ov r' a b c e * t = ov r a b c e * u) (h1 : Lst (OvP r' A B) y) (h2 : Lst (OvP r A B) z) : y * t = z * u := by
  obtain ⟨⟨a, b, c, e, ha, hb, hc, he, rfl⟩, m1⟩ := h1
  obtain ⟨⟨a', b', c', e', ha', hb', hc', he', rfl⟩, m2⟩ := h2
  have e1 := h a b c e ha hb hc he
  have e2 := h a' b' c' e' ha' hb' hc' he'
  have l1 := Int.mul_le_mul_of_nonneg_right (m1 _ ⟨a', b', c', e', ha', hb', hc', he', rfl⟩) (Int.le_of_lt ht)
  have l2 := Int.mul_le_mul_of_nonneg_right (m2 _ ⟨a, b, c, e, ha, hb, hc, he, rfl⟩) (Int.le_of_lt hu)
  omega
/-- a long table of whole numbers -/
structure MetZ (n : Nat) (g : Nat → Nat → Int) : Prop where
  sy : ∀ i j, g i j = g j i
  di : ∀ i, g i i = 0
  po : ∀ i j, 0 ≤ g i j
  tr : ∀ i j k, i < n → j < n → k < n → g i j ≤ g i k + g k j
abbrev PD (p : Int × Int) : PyData := .tuple [.int p.1, .int p.2]
/-- what a table of fractions is, so many times -/
def whl (g : Nat → Nat → Rat) (b : Int) (i j : Nat) : Int := (g i j).num * (b / ((g i j).den : Int))
theorem whl_eq {g : Nat → Nat → Rat} {b : Int} {i j : Nat} (h : ((g i j).den : Int) ∣ b) : whl g b i j * ((g i j).den : Int) = (g i j).num * b := by
  unfold whl
  rw [Int.mul_assoc, Int.ediv_mul_cancel h]
theorem lcm_step {b d : Int} {G : Nat} (hb : 0 < b) (hd : 0 < d) (e : G = Int.gcd b d) : 0 < b / (G : Int) * d ∧ b ∣ b / (G : Int) * d ∧ d ∣ b / (G : Int) * d ∧ (0 : Int) < G ∧ (G : Int) ≤ d ∧ 0 ≤ b / (G : Int) ∧ b / (G : Int) ≤ b := by
  have h1 : (G : Int) ∣ b := by rw [e]; exact Int.gcd_dvd_left ..
  have h2 : (G : Int) ∣ d := by rw [e]; exact Int.gcd_dvd_right ..
  have hG : (0 : Int) < G := by
    have := Int.gcd_pos_of_ne_zero_left d (a := b) (by omega)
    omega
  have p1 : 0 < b / (G : Int) := Int.ediv_pos_of_pos_of_dvd hb (by omega) h1
  refine ⟨Int.mul_pos p1 hd, ?_, Int.dvd_mul_left _ _, hG, Int.le_of_dvd hd h2, by omega, Int.ediv_le_self _ (by omega)⟩
  obtain ⟨k, hk⟩ := h2
  refine ⟨k, ?_⟩
  have : b = b / (G : Int) * (G : Int) := (Int.ediv_mul_cancel h1).symm
  rw [hk]
  generalize b / (G : Int) = q at this
  rw [this, Int.mul_assoc]
/-- rows that tell a table of fractions -/
def Tells (n : Nat) (g : Nat → Nat → Rat) (r : Nat → Nat → Int) (b : Int) : Prop := 0 < b ∧ ∀ i j, i < n → j < n → r i j * ((g i j).den : Int) = (g i j).num * b
theorem Tells.eq {n : Nat} {g : Nat → Nat → Rat} {r r' : Nat → Nat → Int} {b b' : Int} (h : Tells n g r b) (h' : Tells n g r' b') {i j : Nat} (hi : i < n) (hj : j < n) : r' i j * b = r i j * b' := by
  have e1 := h.2 i j hi hj
  have e2 := h'.2 i j hi hj
  have hd : ((g i j).den : Int) ≠ 0 := den_ne _
  refine Int.eq_of_mul_eq_mul_right hd ?_
  rw [show r' i j * b * ((g i j).den : Int) = r' i j * ((g i j).den : Int) * b by rw [Int.mul_assoc, Int.mul_comm b, ← Int.mul_assoc], e2,
    show r i j * b' * ((g i j).den : Int) = r i j * ((g i j).den : Int) * b' by rw [Int.mul_assoc, Int.mul_comm b', ← Int.mul_assoc], e1, Int.mul_assoc, Int.mul_assoc, Int.mul_comm b' b]
theorem lst_tells {n : Nat} {g : Nat → Nat → Rat} {r r' : Nat → Nat → Int} {b b' : Int} (h : Tells n g r b) (h' : Tells n g r' b') {A B : List Int} (hA : ∀ x ∈ A, 0 ≤ x ∧ x < n) (hB : ∀ x ∈ B, 0 ≤ x ∧ x < n) {y z : Int} (h1 : Lst (OvP r A B) y) (h2 : Lst (OvP r' A B) z) : z * b = y * b' :=
  lst_scale h'.1 h.1 (fun a b c e ha hb hc he => ov_scale h'.1 h.1 fun x hx y hy => by
    have all : ∀ x ∈ [a, b, c, e], 0 ≤ x ∧ x < (n : Int) := fun x hx => by
      simp only [List.mem_cons, List.not_mem_nil, or_false] at hx
      rcases hx with rfl | rfl | rfl | rfl
      · exact hA _ ha
      · exact hA _ hb
      · exact hB _ hc
      · exact hB _ he
    have h1 := all x hx
    have h2 := all y hy
    exact h.eq h' (by omega) (by omega)) h2 h1
theorem divInt_eq2 {y z b b' : Int} (hb : 0 < b) (hb' : 0 < b') (e : z * b = y * b') : Rat.divInt z (2 * b') = Rat.divInt y (2 * b) := by
  rw [Rat.divInt_eq_divInt_iff (by omega) (by omega), show z * (2 * b) = 2 * (z * b) by rw [← Int.mul_assoc, Int.mul_comm z 2, Int.mul_assoc], show y * (2 * b') = 2 * (y * b') by rw [← Int.mul_assoc, Int.mul_comm y 2, Int.mul_assoc], e]
/-- a way by one more point -/
def relax (d : Nat → Nat → Int) (k a b : Nat) : Int := min (d a b) (d a k + d k b)
/-- ways: alike both ways, none from a point to itself, none below nought, no more than so many -/
structure WayZ (B : Int) (d : Nat → Nat → Int) : Prop where
  sy : ∀ i j, d i j = d j i
  di : ∀ i, d i i = 0
  po : ∀ i j, 0 ≤ d i j
  le : ∀ i j, d i j ≤ B
def TrZ (n m : Nat) (d : Nat → Nat → Int) : Prop := ∀ i j k, i < n → j < n → k < m → d i j ≤ d i k + d k j
theorem relax_r {d : Nat → Nat → Int} {B : Int} (h : WayZ B d) (k a : Nat) : relax d k a k = d a k := by
  unfold relax
  rw [h.di k]; omega
theorem relax_l {d : Nat → Nat → Int} {B : Int} (h : WayZ B d) (k b : Nat) : relax d k k b = d k b := by
  unfold relax
  rw [h.di k]; omega
theorem relax_way {d : Nat → Nat → Int} {B : Int} (h : WayZ B d) (k : Nat) : WayZ B (relax d k) := by
  refine ⟨fun i j => ?_, fun i => ?_, fun i j => ?_, fun i j => ?_⟩ <;> unfold relax
  · rw [h.sy i j, h.sy i k, h.sy k j]; omega
  · rw [h.di i]
    have := h.po i k; have := h.po k i; omega
  · have := h.po i j; have := h.po i k; have := h.po k j; omega
  · have := h.le i j; omega
theorem relax_tr {d : Nat → Nat → Int} {B : Int} {n k : Nat} (h : WayZ B d) (t : TrZ n k d) (hk : k < n) : TrZ n (k + 1) (relax d k) := fun i j m hi hj hm => by
  by_cases c : m = k
  · subst c
    rw [relax_r h, relax_l h]
    unfold relax; omega
  · have hm : m < k := by omega
    have t1 := t i j m hi hj hm
    have t2 := t i k m hi hk hm
    have t3 := t k j m hk hj hm
    have p1 := h.po k m
    have p2 := h.po m k
    unfold relax
    omega
theorem TrZ.met {d : Nat → Nat → Int} {B : Int} {n : Nat} (h : WayZ B d) (t : TrZ n n d) : MetZ n d := ⟨h.sy, h.di, h.po, t⟩
theorem MetZ.add {n : Nat} {g h : Nat → Nat → Int} (a : MetZ n g) (b : MetZ n h) : MetZ n fun i j => g i j + h i j := by
  refine ⟨fun i j => by rw [a.sy, b.sy], fun i => by rw [a.di, b.di]; rfl, fun i j => ?_, fun i j k hi hj hk => ?_⟩
  · have := a.po i j; have := b.po i j; omega
  · have := a.tr i j k hi hj hk; have := b.tr i j k hi hj hk; omega
theorem MetZ.cut {n : Nat} {g : Nat → Nat → Int} (a : MetZ n g) (sd : Nat → Int) {w : Int} (hw : 0 ≤ w) : MetZ n fun i j => if sd i ≠ sd j then g i j + w else g i j := by
  refine ⟨fun i j => ?_, fun i => ?_, fun i j => ?_, fun i j k hi hj hk => ?_⟩
  · rw [a.sy i j]
    by_cases c : sd i = sd j
    · rw [if_neg (by simpa using c), if_neg (by simpa using c.symm)]
    · rw [if_pos c, if_pos (fun z => c z.symm)]
  · rw [if_neg (by simp), a.di]
  · have := a.po i j
    split <;> omega
  · have := a.tr i j k hi hj hk
    by_cases c1 : sd i = sd j <;> by_cases c2 : sd i = sd k <;> by_cases c3 : sd k = sd j
    all_goals first
      | (exfalso; omega)
      | (simp only [ne_eq, c1, c2, c3, not_true_eq_false, not_false_eq_true, if_true, if_false] at *; first | omega | (simp_all; omega))
theorem perm_le_eq : ∀ {a b : List (List Int)}, a.Perm b → a.Pairwise (· ≤ ·) → b.Pairwise (· < ·) → a = b
  | [], b, h, _, _ => (List.nil_perm.mp h).symm
  | x :: a, [], h, _, _ => by have := h.length_eq; simp at this
  | x :: a, y :: b, h, h1, h2 => by
    have e : x = y := by
      have m1 : x ∈ y :: b := h.mem_iff.mp (.head _)
      have m2 : y ∈ x :: a := h.mem_iff.mpr (.head _)
      rcases List.mem_cons.mp m1 with e | m1
      · exact e
      · rcases List.mem_cons.mp m2 with e | m2
        · exact e.symm
        · have l1 := (List.pairwise_cons.mp h1).1 y m2
          have l2 := (List.pairwise_cons.mp h2).1 x m1
          exact (List.not_lt.mpr l1 l2).elim
    subst e
    rw [perm_le_eq (List.Perm.cons_inv h) (List.pairwise_cons.mp h1).2 (List.pairwise_cons.mp h2).2]
theorem cutsL_mem : ∀ {k p : Nat} {c : List Int}, c ∈ cutsL k p ↔ c ≠ [] ∧ c.Pairwise (· < ·) ∧ ∀ z ∈ c, (p : Int) ≤ z ∧ z < (p : Int) + k
  | 0, p, c => by
    constructor
    · intro h; cases h
    · rintro ⟨h0, _, h2⟩
      obtain ⟨x, c, rfl⟩ : ∃ x c', c = x :: c' := by cases c with | nil => exact (h0 rfl).elim | cons x c => exact ⟨x, c, rfl⟩
      have := h2 x (.head _)
      omega
  | k + 1, p, c => by
    unfold cutsL
    rw [List.mem_append, List.mem_append, List.mem_singleton, List.mem_map, cutsL_mem]
    constructor
    · rintro ((rfl | ⟨d, hd, rfl⟩) | ⟨h0, h1, h2⟩)
      · exact ⟨by simp, by simp, fun z hz => by rw [List.mem_singleton.mp hz]; omega⟩
      · obtain ⟨d0, d1, d2⟩ := cutsL_mem.mp hd
        refine ⟨by simp, List.pairwise_cons.mpr ⟨fun z hz => ?_, d1⟩, fun z hz => ?_⟩
        · have := d2 z hz; omega
        · rcases List.mem_cons.mp hz with rfl | hz
          · omega
          · have := d2 z hz; omega
      · exact ⟨h0, h1, fun z hz => by have := h2 z hz; omega⟩
    · rintro ⟨h0, h1, h2⟩
      obtain ⟨x, c, rfl⟩ : ∃ x c', c = x :: c' := by cases c with | nil => exact (h0 rfl).elim | cons x c => exact ⟨x, c, rfl⟩
      have hx := h2 x (.head _)
      have ⟨g1, g2⟩ := List.pairwise_cons.mp h1
      by_cases e : x = (p : Int)
      · subst e
        cases c with
        | nil => exact .inl (.inl rfl)
        | cons y c =>
          refine .inl (.inr ⟨y :: c, cutsL_mem.mpr ⟨by simp, g2, fun z hz => ?_⟩, rfl⟩)
          have := h2 z (.tail _ hz); have := g1 z hz; omega
      · refine .inr ⟨h0, h1, fun z hz => ?_⟩
        have := h2 z hz
        rcases List.mem_cons.mp hz with rfl | hz'
        · omega
        · have := g1 z hz'; omega
/-- all lists of points, the empty one too, by one point more at a time -/
def subsL : Nat → List (List Int)
  | 0 => [[]]
  | k + 1 => subsL k ++ (subsL k).map (· ++ [((k : Int) + 1)])
theorem subsL_mem : ∀ {k : Nat} {c : List Int}, c ∈ subsL k ↔ c.Pairwise (· < ·) ∧ ∀ z ∈ c, 1 ≤ z ∧ z ≤ (k : Int)
  | 0, c => by
    unfold subsL
    rw [List.mem_singleton]
    constructor
    · rintro rfl; exact ⟨.nil, fun z hz => (by cases hz)⟩
    · rintro ⟨_, h2⟩
      cases c with
      | nil => rfl
      | cons x c => have := h2 x (.head _); omega
  | k + 1, c => by
    unfold subsL
    rw [List.mem_append, List.mem_map, subsL_mem]
    constructor
    · rintro (⟨h1, h2⟩ | ⟨d, hd, rfl⟩)
      · exact ⟨h1, fun z hz => by have := h2 z hz; omega⟩
      · obtain ⟨d1, d2⟩ := subsL_mem.mp hd
        refine ⟨List.pairwise_append.mpr ⟨d1, by simp, fun a ha b hb => ?_⟩, fun z hz => ?_⟩
        · rw [List.mem_singleton.mp hb]; have := d2 a ha; omega
        · rcases List.mem_append.mp hz with hz | hz
          · have := d2 z hz; omega
          · rw [List.mem_singleton.mp hz]; omega
    · rintro ⟨h1, h2⟩
      by_cases e : ((k : Int) + 1) ∈ c
      · obtain ⟨d, r, rfl⟩ := List.append_of_mem e
        have r0 : r = [] := by
          cases r with
          | nil => rfl
          | cons y r =>
            have := h2 y (by simp)
            have := (List.pairwise_cons.mp (List.pairwise_append.mp h1).2.1).1 y (.head _)
            omega
        subst r0
        refine .inr ⟨d, subsL_mem.mpr ⟨(List.pairwise_append.mp h1).1, fun z hz => ?_⟩, rfl⟩
        have := h2 z (by simp [hz])
        have := (List.pairwise_append.mp h1).2.2 z hz _ (.head _)
        omega
      · refine .inl ⟨h1, fun z hz => ?_⟩
        have := h2 z hz
        have : z ≠ (k : Int) + 1 := fun h => e (h ▸ hz)
        omega
theorem subsL_nodup : ∀ k : Nat, (subsL k).Nodup
  | 0 => by unfold subsL; simp
  | k + 1 => by
    unfold subsL
    refine List.nodup_append.mpr ⟨subsL_nodup k, ?_, fun a ha b hb e => ?_⟩
    · refine List.Pairwise.map _ (fun a b h e => h (List.append_cancel_right e)) (subsL_nodup k)
    · obtain ⟨d, _, rfl⟩ := List.mem_map.mp hb
      subst e
      have := (subsL_mem.mp ha).2 ((k : Int) + 1) (by simp)
      omega
theorem subsL_len : ∀ k : Nat, (subsL k).length = 2 ^ k
  | 0 => rfl
  | k + 1 => by
    unfold subsL
    rw [List.length_append, List.length_map, subsL_len, Nat.pow_succ]; omega
theorem nodup_perm {α : Type} {a b : List α} (h1 : a.Nodup) (h2 : b.Nodup) (h : ∀ x, x ∈ a ↔ x ∈ b) : a.Perm b := (List.perm_ext_iff_of_nodup h1 h2).mpr (fun {x} => h x)
theorem cutsL_nodup (k p : Nat) : (cutsL k p).Nodup := (cutsL_sorted k p).imp fun h e => by rw [e] at h; exact (List.lt_irrefl _ h).elim
theorem subs_perm (k : Nat) : ((subsL k).filter fun c => !decide (c = [])).Perm (cutsL k 1) := by
  refine nodup_perm ((subsL_nodup k).filter _) (cutsL_nodup k 1) fun c => ?_
  rw [List.mem_filter, subsL_mem, cutsL_mem]
  constructor
  · rintro ⟨⟨h1, h2⟩, h3⟩
    exact ⟨by simpa using h3, h1, fun z hz => by have := h2 z hz; omega⟩
  · rintro ⟨h0, h1, h2⟩
    exact ⟨⟨h1, fun z hz => by have := h2 z hz; omega⟩, by simpa using h0⟩
theorem tells_div {n : Nat} {r : Nat → Nat → Int} {b : Int} (hb : 0 < b) : Tells n (fun i j => Rat.divInt (r i j) b) r b := ⟨hb, fun i j _ _ => by
  have h := Rat.num_divInt_den (Rat.divInt (r i j) b)
  have h2 := (Rat.divInt_eq_divInt_iff (den_ne (Rat.divInt (r i j) b)) (show b ≠ 0 by omega)).mp h
  exact h2.symm⟩
theorem divInt_add_same {x y b : Int} (hb : 0 < b) : Rat.divInt x b + Rat.divInt y b = Rat.divInt (x + y) b := by
  rw [Rat.divInt_eq_div, Rat.divInt_eq_div, Rat.divInt_eq_div, Rat.intCast_add]
  have : ((b : Int) : Rat) ≠ 0 := fun z => by
    have : b = 0 := by exact_mod_cast z
    omega
  grind
theorem divInt_le_same {x y b : Int} (hb : 0 < b) : Rat.divInt x b ≤ Rat.divInt y b ↔ x ≤ y := by
  have h0 : ((b : Int) : Rat) ≠ 0 := fun z => by
    have : b = 0 := by exact_mod_cast z
    omega
  have hp : (0 : Rat) < ((b : Int) : Rat) := by exact_mod_cast hb
  have e : ∀ z : Int, Rat.divInt z b * ((b : Int) : Rat) = ((z : Int) : Rat) := fun z => by
    rw [Rat.divInt_eq_div]; grind
  rw [← Rat.intCast_le_intCast (a := x) (b := y), ← e x, ← e y]
  exact ⟨fun h => Rat.mul_le_mul_of_nonneg_right h (Rat.le_of_lt hp), fun h => Rat.le_of_mul_le_mul_right h hp⟩
/-! ### two lists walked side by side -/
section
variable {K : PySem.W.Frag} {H : Hp} {σ : L2.St} {g : TG} {tt : TT} {te : TE} {tb : L2.TS} {D : Ends} {vs : List Nat} {a b p : Addr} {xs ys : List V} {Qd : Hp → Prop} {L : List Fc.It}
theorem itz_cases {xs ys : List V} (e : xs.length = ys.length) {i : Nat} {H : Hp} (h : SqL K H a xs ∧ SqL K H b ys) (hi : i ≤ xs.length) : (i = xs.length ∧ (Itz K a b).stop i H) ∨ (i < xs.length ∧ (Itz K a b).go i H ∧ ∀ v H', (Itz K a b).yld i H v H' → ∃ T x y, v = .ref T ∧ H T = none ∧ H' = upd H T (.tup [x, y]) ∧ xs[i]? = some x ∧ ys[i]? = some y) := by
  by_cases c : i < xs.length
  · refine .inr ⟨c, ⟨xs, ys, xs[i], ys[i], h.1, h.2, List.getElem?_eq_getElem c, List.getElem?_eq_getElem (by omega)⟩, fun v H' ⟨T, x, y, e1, nT, e2, h1, h2⟩ => ⟨T, x, y, e1, nT, e2, h1 _ h.1, h2 _ h.2⟩⟩
  · exact .inl ⟨by omega, xs, ys, h.1, h.2, .inl (by omega)⟩
theorem loop_zip (e : xs.length = ys.length) (Pv : Nat → L2.St → Hp → Prop) (h0 : Pv 0 σ H) (hl : ∀ i σ H, i ≤ xs.length → Pv i σ H → SqL K H a xs ∧ SqL K H b ys)
    (hs : ∀ i x y T σ H, xs[i]? = some x → ys[i]? = some y → Pv i σ H → H T = none → g (.ref T) σ (upd H T (.tup [x, y])) fun σ2 H2 => tb { D with nx := Pv (i + 1), ct := Pv (i + 1), bk := D.nx } σ2 H2) (hd : ∀ σ H, Pv xs.length σ H → D.nx σ H) : LoopF (Itz K a b) g tb D σ H := by
  refine ⟨fun i m σ H => m = xs.length - i ∧ i ≤ xs.length ∧ Pv i σ H, ⟨xs.length, rfl, Nat.zero_le _, h0⟩, ?_⟩
  rintro i m σ H ⟨rfl, hi, pv⟩
  rcases itz_cases e (hl i σ H hi pv) hi with ⟨c, st⟩ | ⟨c, go, yl⟩
  · exact .inl ⟨st, hd σ H (c ▸ pv)⟩
  · refine .inr ⟨go, Pv (i + 1), fun σ' H' h => ⟨xs.length - (i + 1), by omega, rfl, c, h⟩, fun v H' hy => ?_⟩
    obtain ⟨T, x, y, rfl, nT, rfl, hx, hy⟩ := yl v H' hy
    exact hs i x y T σ H hx hy pv nT
theorem lcl_zip (e : xs.length = ys.length) (Pv : Nat → Hp → Prop) (h0 : Pv 0 (upd H p (.lst []))) (hl : ∀ i H, i ≤ xs.length → Pv i H → SqL K H a xs ∧ SqL K H b ys)
    (hs : ∀ i x y T H, xs[i]? = some x → ys[i]? = some y → Pv i H → H T = none → g (.ref T) (wipe σ vs) (upd H T (.tup [x, y])) fun σ2 H2 => wipe σ2 vs = wipe σ vs ∧ tt σ2 H2 fun b H3 =>
      if b = true then te σ2 H3 fun y H4 => ∃ acc, H4 p = some (.lst acc) ∧ acc.length < sizeLine ∧ Pv (i + 1) (upd H4 p (.lst (acc ++ [y]))) else Pv (i + 1) H3) (hd : ∀ H, Pv xs.length H → Qd H) : LoopC (Itz K a b) g tt te vs p σ Qd H := by
  refine ⟨fun i m H => m = xs.length - i ∧ i ≤ xs.length ∧ Pv i H, ⟨xs.length, rfl, Nat.zero_le _, h0⟩, ?_⟩
  rintro i m H ⟨rfl, hi, pv⟩
  rcases itz_cases e (hl i H hi pv) hi with ⟨c, st⟩ | ⟨c, go, yl⟩
  · exact .inl ⟨st, hd H (c ▸ pv)⟩
  · refine .inr ⟨go, Pv (i + 1), fun H' h => ⟨xs.length - (i + 1), by omega, rfl, c, h⟩, fun v H' hy => ?_⟩
    obtain ⟨T, x, y, rfl, nT, rfl, hx, hy⟩ := yl v H' hy
    exact hs i x y T H hx hy pv nT
theorem lco_zip (s : Own) (Pv : Nat → List PyData → List Fc.It → Prop) (R : Rp K H L) (nL : H p = none) (h0 : Pv 0 [] L) (e : xs.length = ys.length) (sz : xs.length < 100000)
    (hl : ∀ i ds L X H', Pv i ds L → Rp K H' (X :: L) → SqL K H' a xs ∧ SqL K H' b ys)
    (turn : ∀ i x y T ds L X H', xs[i]? = some x → ys[i]? = some y → Pv i ds L → H' T = none → Rp K (upd H' T (.tup [x, y])) (X :: L) → ∀ (Qy : VK) (Qn : Hp → Prop), (∀ y d L' H4, Pv (i + 1) (ds ++ [d]) L' → Rp K H4 (.ow s y d :: X :: L') → Qy y H4) → (∀ L' H4, Pv (i + 1) ds L' → Rp K H4 (X :: L') → Qn H4) →
      g (.ref T) (wipe σ vs) (upd H' T (.tup [x, y])) fun σ2 H2 => wipe σ2 vs = wipe σ vs ∧ tt σ2 H2 fun b H3 => if b = true then te σ2 H3 Qy else Qn H3)
    (done : ∀ ds L H', Pv xs.length ds L → Rp K H' (.ow (.li s) (.ref p) (.list ds) :: L) → Qd H') : LoopC (Itz K a b) g tt te vs p σ Qd H := by
  refine lcl_zip (K := K) (a := a) (b := b) (xs := xs) (ys := ys) e (fun i H' => ∃ ds L, Pv i ds L ∧ ds.length ≤ i ∧ Rp K H' (.ow (.li s) (.ref p) (.list ds) :: L)) ⟨[], L, h0, Nat.zero_le _, R.mkL0 s nL⟩ (fun i H' _ ⟨ds, L, h, _, R⟩ => hl i ds L _ H' h R) ?_ (fun H' ⟨ds, L, h, _, R⟩ => done ds L H' h R)
  rintro i x y T H' hx hy ⟨ds, L, h, z, R⟩ nT
  have hi : i < xs.length := (List.getElem?_eq_some_iff.mp hx).1
  exact turn i x y T ds L _ H' hx hy h nT (R.same (same_new nT)) (fun y H4 => ∃ acc, H4 p = some (.lst acc) ∧ acc.length < sizeLine ∧ ∃ ds L, Pv (i + 1) ds L ∧ ds.length ≤ i + 1 ∧ Rp K (upd H4 p (.lst (acc ++ [y]))) (.ow (.li s) (.ref p) (.list ds) :: L)) _
    (fun y d L' H4 h' R' => lco_fin (W := fun H' => ∃ ds L, Pv (i + 1) ds L ∧ ds.length ≤ i + 1 ∧ Rp K H' (.ow (.li s) (.ref p) (.list ds) :: L)) R' (by omega) fun H' R'' => ⟨_, _, h', by rw [List.length_append]; exact Nat.add_le_add_right z 1, R''⟩) (fun L' H4 h' R' => ⟨ds, L', h', by omega, R'⟩)
/-- what asks two lists -/
def zipR (K : PySem.W.Frag) (R : L2.It → Hp → Prop) (vs : List V) (H1 : Hp) : Prop := ∃ a b xs ys, vs = [.ref a, .ref b] ∧ SqL K H1 a xs ∧ SqL K H1 b ys ∧ R (Itz K a b) H1
instance {ta : TA} {R : L2.It → Hp → Prop} : St1 (iZip K ta σ H R) (ta σ H (zipR K R)) := ⟨id⟩
theorem g_zip {R : L2.It → Hp → Prop} (h1 : SqL K H a xs) (h2 : SqL K H b ys) (q : R (Itz K a b) H) : zipR K R [.ref a, .ref b] H := ⟨a, b, xs, ys, rfl, h1, h2, q⟩
end
/-! ### great factors -/
/-- * where one factor is short -/
def CMulA (i j : Int) : Prop := i.natAbs < 2 ^ 64 ∨ j.natAbs < 2 ^ 64
theorem bits64 {i : Int} (h : i.natAbs < 2 ^ 64) : Builtin.Int.intBits i ≤ 64 := by
  have : i.natAbs.log2 < 64 := PySem.Flt.log2_lt_of (by decide) h
  unfold Builtin.Int.intBits
  split <;> omega
theorem CMulA.ok {i j : Int} (h : CMulA i j) : IntMulOk i j := by
  rcases h with h | h
  · exact .of_left (bits64 h)
  · have h' : ¬ (Builtin.Int.intBits j > shortFactorBits) := Nat.not_lt.mpr (bits64 h)
    unfold IntMulOk
    rw [decide_eq_false h']
    simp
theorem op_mulA {X : Cx} : OpR X (binaryOp .Mult) (rI CMulA fun i j => .int (i * j)) := opI fun _ _ _ _ _ _ _ hc q => mul_int q hc.ok
section
variable {H : Hp} {Q : VK} {i j : Int}
theorem g_mulA (c : CMulA i j) (q : Q (.int (i * j)) H) : rI CMulA (fun i j => .int (i * j)) (.int i) (.int j) H Q := ⟨i, j, rfl, rfl, c, q⟩
end
/-! ### boxes: what a reading does, told over data alone -/
/-- what a name holds: nothing that is known, a thing, a thing at a known address -/
abbrev Flds := List (Str × Own × PyData)
inductive Sl where | un | v (s : Own) (d : PyData) | pin (w : V) (s : Own) (d : PyData) | fact (w : V) (F : Hp → Prop) | ob (b : Bool) (w : V) (C : Addr) (fs : Flds) (vs : List V)
/-- the attributes of an instance, and its things -/
def fvals (fs : Flds) (vs : List V) : List (Str × V) := List.zipWith (fun f v => (f.1, v)) fs vs
def fits (fs : Flds) (vs : List V) : List It := List.zipWith (fun f v => It.ow f.2.1 v f.2.2) fs vs
/-- a thing of one's own, or one that is read alone -/
def obI (b : Bool) (a : Addr) (o : HO) : It := if b then .ps (fun H => H a = some o) else .ob a o
abbrev Ev := List Sl
def Sl.bx : Sl → Option (Own × PyData)
  | .un => none
  | .v s d => some (s, d)
  | .pin _ s d => some (s, d)
  | .fact _ _ => none
  | .ob _ _ _ _ _ => none
def Sl.to : Sl → Own → PyData → Sl
  | .un, _, _ => .un
  | .v _ _, s, d => .v s d
  | .pin w _ _, s, d => .pin w s d
  | .fact w F, _, _ => .fact w F
  | .ob b w C fs vs, _, _ => .ob b w C fs vs
inductive EnvR : Ev → L2.St → List It → Prop
  | nil : EnvR [] [] []
  | un {E : Ev} {σ : L2.St} {I : List It} {x : Option V} : EnvR E σ I → EnvR (.un :: E) (x :: σ) I
  | v {E : Ev} {σ : L2.St} {I : List It} {w : V} {s : Own} {d : PyData} : EnvR E σ I → EnvR (.v s d :: E) (some w :: σ) (.ow s w d :: I)
  | pin {E : Ev} {σ : L2.St} {I : List It} {w : V} {s : Own} {d : PyData} : EnvR E σ I → EnvR (.pin w s d :: E) (some w :: σ) (.ow s w d :: I)
  | fact {E : Ev} {σ : L2.St} {I : List It} {w : V} {F : Hp → Prop} : EnvR E σ I → EnvR (.fact w F :: E) (some w :: σ) (.ps F :: I)
  | ob {b : Bool} {E : Ev} {σ : L2.St} {I : List It} {a dx C : Addr} {vs : List V} {fs : Flds} : EnvR E σ I → vs.length = fs.length → EnvR (.ob b (.ref a) C fs vs :: E) (some (.ref a) :: σ) (obI b a (.ins C dx (fvals fs vs)) :: (fits fs vs ++ I))
/-- the state -/
def Stt (K : PySem.W.Frag) (Γ : Ev) (σ : L2.St) (H : Hp) (L : List It) : Prop := ∃ I, EnvR Γ σ I ∧ Rp K H (I ++ L)
section
variable {K : PySem.W.Frag} {Γ : Ev} {σ : L2.St} {H H' : Hp} {L L' I : List It} {s s' : Own} {d d' : PyData} {w x y : V} {n : Nat} {b : Sl}
theorem EnvR.focus (E : EnvR Γ σ I) : ∀ {n : Nat}, Γ[n]? = some b → b.bx = some (s, d) →
    ∃ w I', σ[n]? = some (some w) ∧ I.Perm (.ow s w d :: I') ∧ EnvR (Γ.set n .un) σ I' ∧ ∀ s' d', ∃ I2, EnvR (Γ.set n (b.to s' d')) σ I2 ∧ I2.Perm (.ow s' w d' :: I') := by
  induction E with
  | nil => intro n h; simp at h
  | @un E σ I x e ih =>
    intro n h hb
    cases n with
    | zero => cases h; cases hb
    | succ n =>
      obtain ⟨w, I', h1, h2, h3, h4⟩ := ih (n := n) h hb
      exact ⟨w, I', h1, h2, .un h3, fun s' d' => let ⟨I2, h5, h6⟩ := h4 s' d'; ⟨I2, .un h5, h6⟩⟩
  | @v E σ I w s0 d0 e ih =>
    intro n h hb
    cases n with
    | zero =>
      cases h; cases hb
      exact ⟨w, I, rfl, .refl _, .un e, fun s' d' => ⟨_, .v e, .refl _⟩⟩
    | succ n =>
      obtain ⟨w1, I', h1, h2, h3, h4⟩ := ih (n := n) h hb
      refine ⟨w1, .ow s0 w d0 :: I', h1, (h2.cons _).trans (.swap _ _ _), .v h3, fun s' d' => ?_⟩
      obtain ⟨I2, h5, h6⟩ := h4 s' d'
      exact ⟨_, .v h5, (h6.cons _).trans (.swap _ _ _)⟩
  | @pin E σ I w s0 d0 e ih =>
    intro n h hb
    cases n with
    | zero =>
      cases h; cases hb
      exact ⟨w, I, rfl, .refl _, .un e, fun s' d' => ⟨_, .pin e, .refl _⟩⟩
    | succ n =>
      obtain ⟨w1, I', h1, h2, h3, h4⟩ := ih (n := n) h hb
      refine ⟨w1, .ow s0 w d0 :: I', h1, (h2.cons _).trans (.swap _ _ _), .pin h3, fun s' d' => ?_⟩
      obtain ⟨I2, h5, h6⟩ := h4 s' d'
      exact ⟨_, .pin h5, (h6.cons _).trans (.swap _ _ _)⟩
  | @fact E σ I w F e ih =>
    intro n h hb
    cases n with
    | zero => cases h; cases hb
    | succ n =>
      obtain ⟨w1, I', h1, h2, h3, h4⟩ := ih (n := n) h hb
      refine ⟨w1, .ps F :: I', h1, (h2.cons _).trans (.swap _ _ _), .fact h3, fun s' d' => ?_⟩
      obtain ⟨I2, h5, h6⟩ := h4 s' d'
      exact ⟨_, .fact h5, (h6.cons _).trans (.swap _ _ _)⟩
  | @ob bb E σ I a dx C vs fs e l ih =>
    intro n h hb
    cases n with
    | zero => cases h; cases hb
    | succ n =>
      obtain ⟨w1, I', h1, h2, h3, h4⟩ := ih (n := n) h hb
      refine ⟨w1, obI bb a (.ins C dx (fvals fs vs)) :: (fits fs vs ++ I'), h1, (((h2.append_left (fits fs vs)).trans List.perm_middle).cons _).trans (.swap _ _ _), .ob h3 l, fun s' d' => ?_⟩
      obtain ⟨I2, h5, h6⟩ := h4 s' d'
      exact ⟨_, .ob h5 l, (((h6.append_left (fits fs vs)).trans List.perm_middle).cons _).trans (.swap _ _ _)⟩
theorem Sl.to_self : ∀ {b : Sl}, b.bx = some (s, d) → b.to s d = b
  | .un, h => by cases h
  | .v _ _, h => by cases h; rfl
  | .pin _ _ _, h => by cases h; rfl
  | .fact _ _, h => by cases h
  | .ob _ _ _ _ _, h => by cases h
theorem set_self {α : Type} : ∀ {l : List α} {n : Nat} {x : α}, l[n]? = some x → l.set n x = l
  | [], _, _, h => by simp at h
  | _ :: _, 0, _, h => by cases h; rfl
  | a :: l, n + 1, x, h => by rw [List.set_cons_succ, set_self (l := l) (n := n) h]
theorem Rp.mid {A : List It} {m : It} (R : Rp K H (A ++ m :: L)) : Rp K H (m :: (A ++ L)) := R.perm List.perm_middle
theorem Rp.dim {A : List It} {m : It} (R : Rp K H (m :: (A ++ L))) : Rp K H (A ++ m :: L) := R.perm List.perm_middle.symm
theorem Stt.wk (S : Stt K Γ σ H L) (k : Wk L L') : Stt K Γ σ H L' := by
  obtain ⟨I, E, R⟩ := S
  exact ⟨I, E, Rp.wkA k (A := I) R⟩
theorem Stt.same (S : Stt K Γ σ H L) (k : Same H H') : Stt K Γ σ H' L := by
  obtain ⟨I, E, R⟩ := S
  exact ⟨I, E, R.same k⟩
theorem Stt.perm (S : Stt K Γ σ H L) (k : L.Perm L') : Stt K Γ σ H L' := by
  obtain ⟨I, E, R⟩ := S
  exact ⟨I, E, R.perm (k.append_left I)⟩
/-- the heap's part taken by itself -/
theorem Stt.lift {A : List It} (S : Stt K Γ σ H (A ++ L)) : ∃ M, Rp K H (A ++ M) ∧ ∀ H' B, Rp K H' (B ++ M) → Stt K Γ σ H' (B ++ L) := by
  obtain ⟨I, E, R⟩ := S
  refine ⟨I ++ L, R.perm ?_, fun H' B R' => ⟨I, E, R'.perm ?_⟩⟩
  · rw [← List.append_assoc, ← List.append_assoc]; exact List.perm_append_comm.append_right L
  · rw [← List.append_assoc, ← List.append_assoc]; exact List.perm_append_comm.append_right L
theorem Stt.focus (S : Stt K Γ σ H L) (h : Γ[n]? = some b) (hb : b.bx = some (s, d)) : ∃ w M, σ[n]? = some (some w) ∧ Rp K H (.ow s w d :: (M ++ L)) ∧
    (∀ H' L' s' d', Rp K H' (.ow s' w d' :: (M ++ L')) → Stt K (Γ.set n (b.to s' d')) σ H' L') ∧ (∀ H' L', Rp K H' (M ++ L') → Stt K (Γ.set n .un) σ H' L') := by
  obtain ⟨I, E, R⟩ := S
  obtain ⟨w, I', h1, h2, h3, h4⟩ := E.focus h hb
  refine ⟨w, I', h1, R.perm (h2.append_right L), fun H' L' s' d' R' => ?_, fun H' L' R' => ⟨_, h3, R'⟩⟩
  obtain ⟨I2, h5, h6⟩ := h4 s' d'
  exact ⟨I2, h5, R'.perm (h6.symm.append_right L')⟩
theorem Stt.keep (h : Γ[n]? = some b) (hb : b.bx = some (s, d)) {M : List It} (put : ∀ H' L' s' d', Rp K H' (.ow s' w d' :: (M ++ L')) → Stt K (Γ.set n (b.to s' d')) σ H' L') : ∀ H' L', Rp K H' (.ow s w d :: (M ++ L')) → Stt K Γ σ H' L' := fun H' L' R => by
  have := put H' L' s d R
  rwa [Sl.to_self hb, set_self h] at this
/-- what follows of some things side by side -/
def Wr (A B : List It) : Prop := ∀ (K : PySem.W.Frag) (H : Hp) (L : List It), Rp K H (A ++ L) → Rp K H (B ++ L)
theorem Wr.refl {A : List It} : Wr A A := fun _ _ _ h => h
theorem Wr.trans {A B C : List It} (h : Wr A B) (k : Wr B C) : Wr A C := fun K H L R => k K H L (h K H L R)
theorem Wr.cons {A B : List It} (m : It) (h : Wr A B) : Wr (m :: A) (m :: B) := fun K H L R => (h K H (m :: L) (Rp.dim R)).mid
theorem Wr.drop {A B : List It} (m : It) (h : Wr A B) : Wr (m :: A) B := fun K H L R => h K H L R.tail
theorem Wr.swap {A B : List It} (m n : It) (h : Wr (m :: A) B) : Wr (m :: n :: A) (n :: B) := fun K H L R => (h K H (n :: L) (Rp.perm (A := m :: n :: (A ++ L)) (((List.Perm.cons m List.perm_middle.symm))) R)).mid
theorem Wr.dropA : ∀ {A I J : List It}, Wr I J → Wr (A ++ I) J
  | [], _, _, h => h
  | m :: A, _, _, h => .drop m (Wr.dropA (A := A) h)
theorem Wr.swapA : ∀ {A I J : List It} {m : It}, Wr (m :: I) J → Wr (m :: (A ++ I)) (A ++ J)
  | [], _, _, _, h => h
  | n :: A, I, J, m, h => fun K H L R => by
    have R1 : Rp K H (m :: n :: ((A ++ I) ++ L)) := R
    have R2 : Rp K H (m :: ((A ++ I) ++ (n :: L))) := R1.perm ((List.perm_middle.symm).cons m)
    have R3 : Rp K H (A ++ J ++ (n :: L)) := Wr.swapA (A := A) h K H (n :: L) R2
    exact R3.perm List.perm_middle
theorem Wr.consA {I J : List It} (h : Wr I J) : ∀ (A : List It), Wr (A ++ I) (A ++ J)
  | [] => h
  | m :: A => .cons m (Wr.consA h A)
theorem EnvR.bind (E : EnvR Γ σ I) : ∀ (n : Nat) (s : Own) (d : PyData) (w : V), ∃ I', EnvR (Γ.set n (.v s d)) (σ.set n (some w)) I' ∧ Wr (.ow s w d :: I) I' := by
  induction E with
  | nil => intro n s d w; exact ⟨[], .nil, .drop _ .refl⟩
  | @un E σ I x e ih =>
    intro n s d w
    cases n with
    | zero => exact ⟨_, .v e, .refl⟩
    | succ n =>
      obtain ⟨I', h1, h2⟩ := ih n s d w
      exact ⟨I', .un h1, h2⟩
  | @v E σ I w0 s0 d0 e ih =>
    intro n s d w
    cases n with
    | zero => exact ⟨_, .v e, .cons _ (.drop _ .refl)⟩
    | succ n =>
      obtain ⟨I', h1, h2⟩ := ih n s d w
      exact ⟨_, .v h1, .swap _ _ h2⟩
  | @pin E σ I w0 s0 d0 e ih =>
    intro n s d w
    cases n with
    | zero => exact ⟨_, .v e, .cons _ (.drop _ .refl)⟩
    | succ n =>
      obtain ⟨I', h1, h2⟩ := ih n s d w
      exact ⟨_, .pin h1, .swap _ _ h2⟩
  | @fact E σ I w0 F e ih =>
    intro n s d w
    cases n with
    | zero => exact ⟨_, .v e, .cons _ (.drop _ .refl)⟩
    | succ n =>
      obtain ⟨I', h1, h2⟩ := ih n s d w
      exact ⟨_, .fact h1, .swap _ _ h2⟩
  | @ob bb E σ I a dx C vs fs e l ih =>
    intro n s d w
    cases n with
    | zero => exact ⟨_, .v e, .cons _ (.drop _ (.dropA .refl))⟩
    | succ n =>
      obtain ⟨I', h1, h2⟩ := ih n s d w
      exact ⟨_, .ob h1 l, .swap _ _ (.swapA h2)⟩
theorem Stt.bind (S : Stt K Γ σ H (.ow s w d :: L)) (n : Nat) : Stt K (Γ.set n (.v s d)) (σ.set n (some w)) H L := by
  obtain ⟨I, E, R⟩ := S
  obtain ⟨I', h1, h2⟩ := E.bind n s d w
  exact ⟨I', h1, h2 _ _ _ R.mid⟩
theorem EnvR.drop (E : EnvR Γ σ I) : ∀ (n : Nat), ∃ I', EnvR (Γ.set n .un) σ I' ∧ Wr I I' := by
  induction E with
  | nil => intro n; exact ⟨[], .nil, .refl⟩
  | @un E σ I x e ih =>
    intro n
    cases n with
    | zero => exact ⟨_, .un e, .refl⟩
    | succ n =>
      obtain ⟨I', h1, h2⟩ := ih n
      exact ⟨I', .un h1, h2⟩
  | @v E σ I w0 s0 d0 e ih =>
    intro n
    cases n with
    | zero => exact ⟨_, .un e, .drop _ .refl⟩
    | succ n =>
      obtain ⟨I', h1, h2⟩ := ih n
      exact ⟨_, .v h1, .cons _ h2⟩
  | @pin E σ I w0 s0 d0 e ih =>
    intro n
    cases n with
    | zero => exact ⟨_, .un e, .drop _ .refl⟩
    | succ n =>
      obtain ⟨I', h1, h2⟩ := ih n
      exact ⟨_, .pin h1, .cons _ h2⟩
  | @fact E σ I w0 F e ih =>
    intro n
    cases n with
    | zero => exact ⟨_, .un e, .drop _ .refl⟩
    | succ n =>
      obtain ⟨I', h1, h2⟩ := ih n
      exact ⟨_, .fact h1, .cons _ h2⟩
  | @ob bb E σ I a dx C vs fs e l ih =>
    intro n
    cases n with
    | zero => exact ⟨_, .un e, .drop _ (.dropA .refl)⟩
    | succ n =>
      obtain ⟨I', h1, h2⟩ := ih n
      exact ⟨_, .ob h1 l, .cons _ (.consA h2 _)⟩
theorem EnvR.unset (E : EnvR Γ σ I) : ∀ (n : Nat) (x : Option V), Γ[n]? = some .un → EnvR Γ (σ.set n x) I := by
  induction E with
  | nil => intro n x h; simp at h
  | @un E σ I x e ih =>
    intro n x h
    cases n with
    | zero => exact .un e
    | succ n => exact .un (ih n x h)
  | @v E σ I w0 s0 d0 e ih =>
    intro n x h
    cases n with
    | zero => cases h
    | succ n => exact .v (ih n x h)
  | @pin E σ I w0 s0 d0 e ih =>
    intro n x h
    cases n with
    | zero => cases h
    | succ n => exact .pin (ih n x h)
  | @fact E σ I w0 F e ih =>
    intro n x h
    cases n with
    | zero => cases h
    | succ n => exact .fact (ih n x h)
  | @ob bb E σ I a dx C vs fs e l ih =>
    intro n x h
    cases n with
    | zero => cases h
    | succ n => exact .ob (ih n x h) l
theorem EnvR.len (E : EnvR Γ σ I) : Γ.length = σ.length := by
  induction E with
  | nil => rfl
  | un _ ih => rw [List.length_cons, List.length_cons, ih]
  | v _ ih => rw [List.length_cons, List.length_cons, ih]
  | pin _ ih => rw [List.length_cons, List.length_cons, ih]
  | fact _ ih => rw [List.length_cons, List.length_cons, ih]
  | ob _ _ ih => rw [List.length_cons, List.length_cons, ih]
def clr (Γ : Ev) : List Nat → Ev
  | [] => Γ
  | i :: vs => (clr Γ vs).set i .un
theorem EnvR.clr (E : EnvR Γ σ I) : ∀ (vs : List Nat), ∃ I', EnvR (Fc.clr Γ vs) (wipe σ vs) I' ∧ Wr I I'
  | [] => ⟨I, E, .refl⟩
  | i :: vs => by
    obtain ⟨I1, h1, h2⟩ := EnvR.clr E vs
    obtain ⟨I2, h3, h4⟩ := h1.drop i
    refine ⟨I2, ?_, h2.trans h4⟩
    show EnvR ((Fc.clr Γ vs).set i .un) ((wipe σ vs).set i none) I2
    by_cases c : i < (Fc.clr Γ vs).length
    · exact h3.unset i none (by rw [List.getElem?_set_self c])
    · have c2 : (wipe σ vs).length ≤ i := by rw [← h1.len]; exact Nat.le_of_not_lt c
      rw [List.set_eq_of_length_le c2]
      exact h3
theorem Stt.clr (S : Stt K Γ σ H L) (vs : List Nat) : Stt K (Fc.clr Γ vs) (wipe σ vs) H L := by
  obtain ⟨I, E, R⟩ := S
  obtain ⟨I', h1, h2⟩ := E.clr vs
  exact ⟨I', h1, h2 _ _ _ R⟩
theorem EnvR.unset' (E : EnvR Γ σ I) : ∀ (n : Nat) (x : Option V), σ[n]? = some none → EnvR Γ (σ.set n x) I := by
  induction E with
  | nil => intro n x h; simp at h
  | @un E σ I x e ih =>
    intro n x h
    cases n with
    | zero => exact .un e
    | succ n => exact .un (ih n x h)
  | @v E σ I w0 s0 d0 e ih =>
    intro n x h
    cases n with
    | zero => cases h
    | succ n => exact .v (ih n x h)
  | @pin E σ I w0 s0 d0 e ih =>
    intro n x h
    cases n with
    | zero => cases h
    | succ n => exact .pin (ih n x h)
  | @fact E σ I w0 F e ih =>
    intro n x h
    cases n with
    | zero => cases h
    | succ n => exact .fact (ih n x h)
  | @ob bb E σ I a dx C vs fs e l ih =>
    intro n x h
    cases n with
    | zero => cases h
    | succ n => exact .ob (ih n x h) l
theorem EnvR.unwipe : ∀ {vs : List Nat}, EnvR Γ (wipe σ vs) I → EnvR Γ σ I
  | [], E => E
  | i :: vs, E => by
    have E : EnvR Γ ((wipe σ vs).set i none) I := E
    by_cases c : i < (wipe σ vs).length
    · have e2 := E.unset' i (wipe σ vs)[i] (by rw [List.getElem?_set_self c])
      rw [List.set_set, List.set_getElem_self] at e2
      exact EnvR.unwipe e2
    · rw [List.set_eq_of_length_le (Nat.le_of_not_lt c)] at E
      exact EnvR.unwipe E
theorem Stt.unwipe {vs : List Nat} (S : Stt K Γ (wipe σ vs) H L) : Stt K Γ σ H L := by
  obtain ⟨I, E, R⟩ := S
  exact ⟨I, E.unwipe, R⟩
end
section
variable {K : PySem.W.Frag} {Γ : Ev} {σ : L2.St} {H H' : Hp} {L L' I : List It} {w : V} {n : Nat} {F : Hp → Prop}
theorem EnvR.factAt (E : EnvR Γ σ I) : ∀ {n : Nat}, Γ[n]? = some (.fact w F) → σ[n]? = some (some w) ∧ It.ps F ∈ I := by
  induction E with
  | nil => intro n h; simp at h
  | un e ih =>
    intro n h
    cases n with
    | zero => cases h
    | succ n => exact ih (n := n) h
  | v e ih =>
    intro n h
    cases n with
    | zero => cases h
    | succ n => exact ⟨(ih (n := n) h).1, .tail _ (ih (n := n) h).2⟩
  | pin e ih =>
    intro n h
    cases n with
    | zero => cases h
    | succ n => exact ⟨(ih (n := n) h).1, .tail _ (ih (n := n) h).2⟩
  | fact e ih =>
    intro n h
    cases n with
    | zero => cases h; exact ⟨rfl, mem_here⟩
    | succ n => exact ⟨(ih (n := n) h).1, .tail _ (ih (n := n) h).2⟩
  | ob e l ih =>
    intro n h
    cases n with
    | zero => cases h
    | succ n => exact ⟨(ih (n := n) h).1, .tail _ (List.mem_append_right _ (ih (n := n) h).2)⟩
theorem Stt.factAt (S : Stt K Γ σ H L) (h : Γ[n]? = some (.fact w F)) : σ[n]? = some (some w) ∧ F H := by
  obtain ⟨I, E, R⟩ := S
  obtain ⟨h1, h2⟩ := E.factAt h
  exact ⟨h1, R.psOf (List.mem_append_left _ h2)⟩
theorem Stt.factM (S : Stt K Γ σ H L) (h : Γ[n]? = some (.fact w F)) : Stt K Γ σ H (.ps F :: L) := by
  obtain ⟨I, E, R⟩ := S
  obtain ⟨h1, h2⟩ := E.factAt h
  exact ⟨I, E, (R.psM (List.mem_append_left _ h2)).dim⟩
end
/-! ### judgements -/
abbrev zipI (vs : List V) (bs : List (Own × PyData)) : List It := List.zipWith (fun v b => It.ow b.1 v b.2) vs bs
def EW (K : PySem.W.Frag) (te : TE) (Γ : Ev) (Q : Own → PyData → Ev → Prop) : Prop := ∀ (σ : L2.St) (H : Hp) (L : List It) (G : VK), Stt K Γ σ H L → (∀ s d Γ' v H', Q s d Γ' → Stt K Γ' σ H' (.ow s v d :: L) → G v H') → te σ H G
def AW (K : PySem.W.Frag) (ta : TA) (Γ : Ev) (Q : List (Own × PyData) → Ev → Prop) : Prop := ∀ (σ : L2.St) (H : Hp) (L : List It) (G : List V → Hp → Prop), Stt K Γ σ H L → (∀ bs Γ' vs H', Q bs Γ' → vs.length = bs.length → Stt K Γ' σ H' (zipI vs bs ++ L) → G vs H') → ta σ H G
def TW (K : PySem.W.Frag) (tt : TT) (Γ : Ev) (Q : Bool → Ev → Prop) : Prop := ∀ (σ : L2.St) (H : Hp) (L : List It) (G : Bool → Hp → Prop), Stt K Γ σ H L → (∀ b Γ' H', Q b Γ' → Stt K Γ' σ H' L → G b H') → tt σ H G
def GW (K : PySem.W.Frag) (g : TG) (s : Own) (d : PyData) (Γ : Ev) (Q : Ev → Prop) : Prop := ∀ (σ : L2.St) (H : Hp) (L : List It) (v : V) (G : L2.St → Hp → Prop), Stt K Γ σ H (.ow s v d :: L) → (∀ Γ' σ' H', Q Γ' → Stt K Γ' σ' H' L → G σ' H') → g v σ H G
/-- a comprehension's target -/
def GC (K : PySem.W.Frag) (g : TG) (s : Own) (d : PyData) (Γ : Ev) (vs : List Nat) (Q : Ev → Prop) : Prop := ∀ (σ : L2.St) (H : Hp) (L : List It) (v : V) (G : L2.St → Hp → Prop), Stt K Γ σ H (.ow s v d :: L) → (∀ Γ' σ' H', Q Γ' → wipe σ' vs = wipe σ vs → Stt K Γ' σ' H' L → G σ' H') → g v σ H G
structure Po where
  nx : Ev → Prop
  rt : Own → PyData → Ev → Prop
  bk : Ev → Prop := fun _ => False
  ct : Ev → Prop := fun _ => False
  er : Hp → Prop := fun _ => True
structure PoOk (K : PySem.W.Frag) (P : Po) (D : Ends) (L : List It) : Prop where
  nx : ∀ Γ' σ' H', P.nx Γ' → Stt K Γ' σ' H' L → D.nx σ' H'
  rt : ∀ s d Γ' σ' v H', P.rt s d Γ' → Stt K Γ' σ' H' (.ow s v d :: L) → D.rt v H'
  bk : ∀ Γ' σ' H', P.bk Γ' → Stt K Γ' σ' H' L → D.bk σ' H'
  ct : ∀ Γ' σ' H', P.ct Γ' → Stt K Γ' σ' H' L → D.ct σ' H'
  er : ∀ H', Rp K H' L → P.er H'
def SW (K : PySem.W.Frag) (t : L2.TS) (Γ : Ev) (P : Po) : Prop := ∀ (σ : L2.St) (H : Hp) (L : List It) (D : Ends), Stt K Γ σ H L → PoOk K P D L → t D σ H
/-- an operation on two things -/
def OW (K : PySem.W.Frag) (r : R2) (s : Own) (d : PyData) (s' : Own) (e : PyData) (Q : Own → PyData → Prop) : Prop := ∀ (H : Hp) (L : List It) (G : VK) (x y : V), Rp K H (.ow s x d :: .ow s' y e :: L) → (∀ s2 d2 v H', Q s2 d2 → Rp K H' (.ow s2 v d2 :: L) → G v H') → r x y H G
/-- one that reads alone -/
def OM (K : PySem.W.Frag) (r : R2) (d e : PyData) (Q : Own → PyData → Prop) : Prop := ∀ (H : Hp) (L : List It) (G : VK) (x y : V) (s s' : Own), Rp K H L → It.ow s x d ∈ L → It.ow s' y e ∈ L → (∀ s2 d2 v H', Q s2 d2 → Rp K H' (.ow s2 v d2 :: L) → G v H') → r x y H G
/-- a built-in's call -/
def CW (K : PySem.W.Frag) (r : List V → Hp → VK → Prop) (bs : List (Own × PyData)) (Q : Own → PyData → Prop) : Prop := ∀ (H : Hp) (L : List It) (G : VK) (vs : List V), vs.length = bs.length → Rp K H (zipI vs bs ++ L) → (∀ s2 d2 v H', Q s2 d2 → Rp K H' (.ow s2 v d2 :: L) → G v H') → r vs H G
def CM (K : PySem.W.Frag) (r : List V → Hp → VK → Prop) (d : PyData) (Q : Own → PyData → Prop) : Prop := ∀ (H : Hp) (L : List It) (G : VK) (x : V) (s : Own), Rp K H L → It.ow s x d ∈ L → (∀ s2 d2 v H', Q s2 d2 → Rp K H' (.ow s2 v d2 :: L) → G v H') → r [x] H G
/-- an iterator that yields these -/
structure Walks (K : PySem.W.Frag) (J : L2.It) (ds : List PyData) (P : Hp → Prop) : Prop where
  stop : ∀ H, P H → J.stop ds.length H
  go : ∀ i d H, P H → ds[i]? = some d → J.go i H
  yld : ∀ i d H v H' M, ds[i]? = some d → Rp K H (.ps P :: M) → J.yld i H v H' → Rp K H' (.sh v d :: .ps P :: M)
def IW (K : PySem.W.Frag) (wi : TI) (Γ : Ev) (Q : List PyData → Ev → Prop) : Prop := ∀ (σ : L2.St) (H : Hp) (L : List It) (R : L2.It → Hp → Prop), Stt K Γ σ H L → (∀ ds Γ' J P H', Q ds Γ' → Walks K J ds P → Stt K Γ' σ H' (.ps P :: L) → R J H') → wi σ H R
/-- a def's promise over data -/
def spV (K : PySem.W.Frag) (pre : List PyData → (Own → PyData → Prop) → Prop) : Sp := fun vs H G _ => ∃ ds L Q, vs.length = ds.length ∧ Rp K H (each .lf vs ds ++ L) ∧ pre ds Q ∧ ∀ s d v H', Q s d → Rp K H' (.ow s v d :: L) → G v H'
/-- its first argument is changed -/
def spM (K : PySem.W.Frag) (pre : Own → PyData → List PyData → (Own → PyData → PyData → Prop) → Prop) : Sp := fun vs H G _ => ∃ w us s d ds L Q, vs = w :: us ∧ us.length = ds.length ∧ Rp K H (.ow s w d :: (each .lf us ds ++ L)) ∧ pre s d ds Q ∧ ∀ s2 r d' v H', Q s2 r d' → Rp K H' (.ow s2 v r :: .ow s w d' :: L) → G v H'
/-- its first argument is the script -/
def spS (K : PySem.W.Frag) (pre : List Int → List PyData → (Own → PyData → Prop) → Prop) : Sp := fun vs H G _ => ∃ a ns us ds L Q, vs = .ref a :: us ∧ us.length = ds.length ∧ Rp K H (.ps (fun H => SqL K H a (ns.map V.int)) :: (each .lf us ds ++ L)) ∧ pre ns ds Q ∧ ∀ s d v H', Q s d → Rp K H' (.ow s v d :: L) → G v H'
/-! ### rules: names, constants, operations -/
section
variable {K : PySem.W.Frag} {Γ Γ1 : Ev} {σ : L2.St} {H H' : Hp} {L L' I : List It} {s s' : Own} {d d' e : PyData} {w x y v : V} {n m : Nat} {b : Sl} {te ta tb tc : TE} {tt tu : TT} {tr tr2 : TA} {Q : Own → PyData → Ev → Prop} {i j : Int}
theorem EW.mono {Q' : Own → PyData → Ev → Prop} (h : EW K te Γ Q) (k : ∀ s d Γ', Q s d Γ' → Q' s d Γ') : EW K te Γ Q' := fun σ H L G S g => h σ H L G S fun s d Γ' v H' q S' => g s d Γ' v H' (k _ _ _ q) S'
theorem Rp.dupDim {M : List It} (R : Rp K H (.sh w d :: (M ++ L))) : Rp K H (.ow .lf w d :: (M ++ .sh w d :: L)) := R.dup.perm (List.Perm.cons _ List.perm_middle.symm)
theorem EW_var (h : Γ[n]? = some b) (hb : b.bx = some (.lf, d)) (q : Q .lf d Γ) : EW K (tVar n) Γ Q := fun σ H L G S k => by
  obtain ⟨w, M, hw, R, put, _⟩ := S.focus h hb
  exact ⟨w, hw, k _ _ _ _ _ q (Stt.keep h hb put _ _ R.dupDim)⟩
/-- what the name holds is shared from here on -/
theorem EW_fz (h : Γ[n]? = some b) (hb : b.bx = some (s, d)) (q : Q .lf d (Γ.set n (b.to .lf d))) : EW K (tVar n) Γ Q := fun σ H L G S k => by
  obtain ⟨w, M, hw, R, put, _⟩ := S.focus h hb
  exact ⟨w, hw, k _ _ _ _ _ q (put _ _ _ _ (Rp.dupDim R.fz))⟩
/-- it is taken out -/
theorem EW_mv (h : Γ[n]? = some b) (hb : b.bx = some (s, d)) (q : Q s d (Γ.set n .un)) : EW K (tVar n) Γ Q := fun σ H L G S k => by
  obtain ⟨w, M, hw, R, _, out⟩ := S.focus h hb
  exact ⟨w, hw, k _ _ _ _ _ q (out _ _ R.dim)⟩
theorem Stt.flat (S : Stt K Γ σ H L) (h : Dq K H v d) (z : noL d = true) : Stt K Γ σ H (.sh v d :: L) := by
  obtain ⟨I, E, R⟩ := S
  exact ⟨I, E, (R.flat h z).dim⟩
theorem EW_c (h : ∀ H, Dq K H v d) (z : noL d = true) (q : Q .lf d Γ) : EW K (tC v) Γ Q := fun σ H L G S k => k _ _ _ _ _ q (S.flat (h H) z)
theorem EW_int (q : Q .lf (.int i) Γ) : EW K (tC (.int i)) Γ Q := EW_c (fun _ => .int i) rfl q
theorem EW_bl {c : Bool} (q : Q .lf (.bool c) Γ) : EW K (tC (.bl c)) Γ Q := EW_c (fun _ => .bl c) rfl q
theorem EW_str {c : Str} (q : Q .lf (.str c) Γ) : EW K (tC (.str c)) Γ Q := EW_c (fun _ => .str c) rfl q
theorem EW_non (q : Q .lf .none Γ) : EW K (tC .non) Γ Q := EW_c (fun _ => .non) rfl q
/-- a constant of the module -/
theorem EW_gl {a : Addr} {ns : List Int} (h : ∀ H, SqT K H a (ns.map V.int)) (q : Q .lf (.tuple (ns.map PyData.int)) Γ) : EW K (tC (.ref a)) Γ Q := EW_c (fun H => .tup (h H) int_dq) (by
  show noLs (ns.map PyData.int) = true
  clear h q
  induction ns with
  | nil => rfl
  | cons i ns ih => exact ih) q
theorem EW_glF {a : Addr} {x : Rat} (h : ∀ H, SqT K H a [.int x.num, .int (x.den : Int)]) (q : Q .lf (FD x) Γ) : EW K (tC (.ref a)) Γ Q := EW_c (fun H => .tup (h H) (.cons (.int _) (.cons (.int _) .nil))) rfl q
/-- what a name holds -/
def AtB (Γ : Ev) (n : Nat) (F : Own → PyData → Sl → Prop) : Prop := ∃ b s d, Γ[n]? = some b ∧ b.bx = some (s, d) ∧ F s d b
theorem AtB_i {F : Own → PyData → Sl → Prop} (h : Γ[n]? = some b) (hb : b.bx = some (s, d)) (q : F s d b) : AtB Γ n F := ⟨b, s, d, h, hb, q⟩
theorem OM.ow {r : R2} {Q : Own → PyData → Prop} (h : OM K r d e Q) : OW K r s d s' e Q := fun H L G x y R k => h H _ G x y s s' R mem_here (.tail _ mem_here) fun s2 d2 v H' q R' => k _ _ _ _ q (R'.wk (.take .here (.drop (.drop .refl))))
theorem CM.cw {r : List V → Hp → VK → Prop} {Q : Own → PyData → Prop} (h : CM K r d Q) : CW K r [(s, d)] Q := fun H L G vs l R k => by
  match vs, l with
  | [x], _ => exact h H _ G x s R mem_here fun s2 d2 v H' q R' => k _ _ _ _ q (R'.wk (.take .here (.drop .refl)))
theorem EW_op {r : R2} (q : EW K ta Γ fun s d Γ1 => EW K tb Γ1 fun s' e Γ2 => OW K r s d s' e fun s2 d2 => Q s2 d2 Γ2) : EW K (tOp r ta tb) Γ Q := fun σ H L G S k => q σ H L _ S fun s d Γ1 x H1 q1 S1 => q1 σ H1 _ _ S1 fun s' e Γ2 y H2 q2 S2 => by
  obtain ⟨M, R, back⟩ := S2.lift (A := [.ow s' y e, .ow s x d])
  exact q2 H2 M _ x y (R.perm (.swap _ _ _)) fun s2 d2 v H' q3 R3 => k _ _ _ _ _ q3 (back H' [.ow s2 v d2] R3)
theorem Rp.swp {X W Y : It} {M : List It} (R : Rp K H (X :: W :: (M ++ Y :: L))) : Rp K H (W :: (M ++ X :: L)) := by
  have R1 : Rp K H (X :: W :: Y :: (M ++ L)) := R.perm (((List.perm_middle).cons _).cons _)
  have R2 : Rp K H (Y :: X :: W :: (M ++ L)) := R1.perm (((List.Perm.swap Y W _).cons X).trans (List.Perm.swap Y X _))
  exact R2.tail.perm ((List.Perm.swap W X _).trans (List.perm_middle.symm.cons W))
/-- an operation that reads a name alone -/
theorem EW_opV {r : R2} {b0 : Sl} {s0 : Own} {d0 : PyData} (h : Γ[n]? = some b0) (hb : b0.bx = some (s0, d0)) (q : EW K tb Γ fun s' e Γ2 => AtB Γ2 n fun s d _ => OM K r d e fun s2 d2 => Q s2 d2 Γ2) : EW K (tOp r (tVar n) tb) Γ Q := fun σ H L G S k => by
  obtain ⟨w, M0, hw, _, _, _⟩ := S.focus h hb
  refine ⟨w, hw, q σ H L _ S fun s' e Γ2 y H2 ⟨b, s, d, h2, hb2, om⟩ S2 => ?_⟩
  obtain ⟨w2, M, hw2, R, put, _⟩ := S2.focus h2 hb2
  rw [hw] at hw2; cases hw2
  exact om H2 _ G w y s s' R mem_here (.tail _ (List.mem_append_right _ mem_here)) fun s2 d2 v H' q3 R3 => k _ _ _ _ _ q3 (Stt.keep h2 hb2 put _ _ R3.swp)
theorem EW_opW {r : R2} (q : EW K ta Γ fun s d Γ1 => AtB Γ1 n fun s' e _ => OM K r d e fun s2 d2 => Q s2 d2 Γ1) : EW K (tOp r ta (tVar n)) Γ Q := fun σ H L G S k => q σ H L _ S fun s d Γ1 x H1 ⟨b, s', e, h2, hb2, om⟩ S1 => by
  obtain ⟨w2, M, hw2, R, put, _⟩ := S1.focus h2 hb2
  exact ⟨w2, hw2, om H1 _ G x w2 s s' R (.tail _ (List.mem_append_right _ mem_here)) mem_here fun s2 d2 v H' q3 R3 => k _ _ _ _ _ q3 (Stt.keep h2 hb2 put _ _ R3.swp)⟩
theorem EW_un {r : V → Hp → VK → Prop} (q : EW K ta Γ fun s d Γ1 => ∀ (H : Hp) (L : List It) (G : VK) (x : V), Rp K H (.ow s x d :: L) → (∀ s2 d2 v H', Q s2 d2 Γ1 → Rp K H' (.ow s2 v d2 :: L) → G v H') → r x H G) : EW K (tUn r ta) Γ Q := fun σ H L G S k => q σ H L _ S fun s d Γ1 x H1 q1 S1 => by
  obtain ⟨M, R, back⟩ := S1.lift (A := [.ow s x d])
  exact q1 H1 M _ x R fun s2 d2 v H' q3 R3 => k _ _ _ _ _ q3 (back H' [.ow s2 v d2] R3)
theorem EW_neg (q : EW K ta Γ fun s d Γ1 => ∃ i, d = .int i ∧ Q .lf (.int (-i)) Γ1) : EW K (tUn (rU fun i => .int (-i)) ta) Γ Q := EW_un (q.mono fun s d Γ1 ⟨i, e, q⟩ H L G x R k => by
  subst e
  obtain rfl := sh_int R
  exact ⟨i, rfl, k _ _ _ _ q (R.tail.int (-i))⟩)
/-! arguments -/
theorem AW_nil {Q : List (Own × PyData) → Ev → Prop} (q : Q [] Γ) : AW K tNil Γ Q := fun σ H L G S k => k [] Γ [] H q rfl S
theorem AW_cons {Q : List (Own × PyData) → Ev → Prop} (q : EW K te Γ fun s d Γ1 => AW K tr Γ1 fun bs Γ2 => Q ((s, d) :: bs) Γ2) : AW K (tCons te tr) Γ Q := fun σ H L G S k => q σ H L _ S fun s d Γ1 x H1 q1 S1 => q1 σ H1 _ _ S1 fun bs Γ2 vs H2 q2 l S2 =>
  k ((s, d) :: bs) Γ2 (x :: vs) H2 q2 (by rw [List.length_cons, List.length_cons, l]) (S2.perm List.perm_middle)
theorem EW_cb {r : List V → Hp → VK → Prop} (q : AW K tr Γ fun bs Γ1 => CW K r bs fun s d => Q s d Γ1) : EW K (tCB r tr) Γ Q := fun σ H L G S k => q σ H L _ S fun bs Γ1 vs H1 q1 l S1 => by
  obtain ⟨M, R, back⟩ := S1.lift (A := zipI vs bs)
  exact q1 H1 M _ vs l R fun s2 d2 v H' q3 R3 => k _ _ _ _ _ q3 (back H' [.ow s2 v d2] R3)
theorem Rp.swq {X W : It} {M : List It} (R : Rp K H (X :: W :: (M ++ L))) : Rp K H (W :: (M ++ X :: L)) := R.perm ((List.Perm.swap W X _).trans (List.perm_middle.symm.cons W))
theorem EW_cbV {r : List V → Hp → VK → Prop} (q : AtB Γ n fun s d _ => CM K r d fun s2 d2 => Q s2 d2 Γ) : EW K (tCB r (tCons (tVar n) tNil)) Γ Q := fun σ H L G S k => by
  obtain ⟨b, s, d, h, hb, cm⟩ := q
  obtain ⟨w, M, hw, R, put, _⟩ := S.focus h hb
  exact ⟨w, hw, cm H _ G w s R mem_here fun s2 d2 v H' q3 R3 => k _ _ _ _ _ q3 (Stt.keep h hb put _ _ R3.swq)⟩
/-! displays -/
theorem zipI_each : ∀ {vs : List V} {bs : List (Own × PyData)}, vs.length = bs.length → (∀ b ∈ bs, b.1 = s) → zipI vs bs = each s vs (bs.map Prod.snd)
  | [], [], _, _ => rfl
  | v :: vs, b :: bs, l, h => by
    show It.ow b.1 v b.2 :: zipI vs bs = It.ow s v b.2 :: each s vs (bs.map Prod.snd)
    rw [h b List.mem_cons_self, zipI_each (by simpa using l) fun c hc => h c (List.mem_cons_of_mem _ hc)]
theorem Rp.fzZ : ∀ {vs : List V} {bs : List (Own × PyData)} {L : List It}, vs.length = bs.length → Rp K H (zipI vs bs ++ L) → Rp K H (each .lf vs (bs.map Prod.snd) ++ L)
  | [], [], _, _, R => R
  | v :: vs, b :: bs, L, l, R => by
    have R1 : Rp K H (.ow b.1 v b.2 :: (zipI vs bs ++ L)) := R
    have R2 : Rp K H (zipI vs bs ++ .sh v b.2 :: L) := Rp.dim R1.fz
    exact Rp.mid (Rp.fzZ (by simpa using l) R2)
theorem Rp.dqE : ∀ {vs : List V} {ds : List PyData} {L : List It}, vs.length = ds.length → Rp K H (each .lf vs ds ++ L) → DqAll K H vs ds
  | [], [], _, _, _ => .nil
  | v :: vs, d :: ds, L, l, R => .cons (Rp.dp (s := .lf) (L := each .lf vs ds ++ L) R) (Rp.dqE (by simpa using l) (Rp.tail (m := .sh v d) R))
theorem Rp.both {P1 P2 : Hp → Prop} (R : Rp K H (.ps P1 :: .ps P2 :: L)) : Rp K H (.ps (fun H => P1 H ∧ P2 H) :: L) := by
  obtain ⟨_, _, h1, t, r⟩ := R.inv
  obtain ⟨_, ps, rfl, h2, t2⟩ := t.inv
  cases h1; cases h2
  have k1 := Rf.psK (P := P1) r
  have r2 : Rf H (.ps P2 :: ps) := r.tail
  have k2 := Rf.psK (P := P2) r2
  have r3 : Rf H ps := r2.tail
  refine ⟨_, .cons (p := [_]) rfl t2, r3.addps (fun H H' s h => ⟨k1.1 _ _ s h.1, k2.1 _ _ s h.2⟩) ⟨k1.1 _ _ (wo_less fun a ha => ows_sub (fun m hm => List.mem_cons_of_mem _ hm) ha) k1.2, k2.2⟩⟩
theorem Rp.allE : ∀ {vs : List V} {ds : List PyData} {L : List It}, vs.length = ds.length → Rp K H (each .lf vs ds ++ L) → Rp K H (.ps (fun H => DqAll K H vs ds) :: L)
  | [], [], _, _, R => by
    obtain ⟨ps, u, r⟩ := R
    exact ⟨_, .cons (p := [_]) rfl u, r.addps (fun _ _ _ _ => .nil) .nil⟩
  | v :: vs, d :: ds, L, l, R => by
    have R1 : Rp K H (.sh v d :: (each .lf vs ds ++ L)) := R
    have R2 : Rp K H (.ps (fun H => DqAll K H vs ds) :: .sh v d :: L) := Rp.allE (by simpa using l) (Rp.dim R1)
    have R3 : Rp K H (.ps (fun H => Dq K H v d) :: .ps (fun H => DqAll K H vs ds) :: L) := (R2.perm (.swap _ _ _)).impS (fun _ h => h) mono_dp |>.perm (by
      refine (List.Perm.swap _ _ _).trans ?_
      exact .refl _) |>.tail
    exact (R3.both.imp (fun H h => .cons h.1 h.2) fun H H' s h => dqAll_same s _ _ h).wk (.take .here (.drop .refl))
/-- a tuple of shared things -/
theorem Rp.tupL {vs : List V} {ds : List PyData} {p : Addr} (R : Rp K H (each .lf vs ds ++ L)) (l : vs.length = ds.length) (n : H p = none) : Rp K (upd H p (.tup vs)) (.sh (.ref p) (.tuple ds) :: L) := by
  have R1 := (Rp.allE l R).tup (xs := vs) n
  exact (R1.both.imp (P' := fun H => Dq K H (.ref p) (.tuple ds)) (fun H h => .tup h.1 h.2) mono_dp).toSh.wk (.take .here (.drop .refl))
theorem EW_tup (q : AW K tr Γ fun bs Γ1 => bs.length ≤ 100000 ∧ Q .lf (.tuple (bs.map Prod.snd)) Γ1) : EW K (tTup tr) Γ Q := fun σ H L G S k => q σ H L _ S fun bs Γ1 vs H1 ⟨z, q1⟩ l S1 => ⟨sz_le (by rw [l]; exact z), fun p np => by
  obtain ⟨M, R, back⟩ := S1.lift (A := zipI vs bs)
  exact k _ _ _ _ _ q1 (back _ [.sh (.ref p) _] (Rp.tupL (Rp.fzZ l R) (by rw [l, List.length_map]) np))⟩
theorem EW_lst (s : Own) (q : AW K tr Γ fun bs Γ1 => bs.length ≤ 100000 ∧ (∀ b ∈ bs, b.1 = s) ∧ Q (.li s) (.list (bs.map Prod.snd)) Γ1) : EW K (tLst tr) Γ Q := fun σ H L G S k => q σ H L _ S fun bs Γ1 vs H1 ⟨z, hs, q1⟩ l S1 => ⟨sz_le (by rw [l]; exact z), fun p np => by
  obtain ⟨M, R, back⟩ := S1.lift (A := zipI vs bs)
  rw [zipI_each l hs] at R
  exact k _ _ _ _ _ q1 (back _ [.ow (.li s) (.ref p) _] (Rp.mkL R (by rw [l, List.length_map]) np))⟩
/-- a display of things that are shared from here on -/
theorem EW_lstF (q : AW K tr Γ fun bs Γ1 => bs.length ≤ 100000 ∧ Q (.li .lf) (.list (bs.map Prod.snd)) Γ1) : EW K (tLst tr) Γ Q := fun σ H L G S k => q σ H L _ S fun bs Γ1 vs H1 ⟨z, q1⟩ l S1 => ⟨sz_le (by rw [l]; exact z), fun p np => by
  obtain ⟨M, R, back⟩ := S1.lift (A := zipI vs bs)
  exact k _ _ _ _ _ q1 (back _ [.ow (.li .lf) (.ref p) _] (Rp.mkL (Rp.fzZ l R) (by rw [l, List.length_map]) np))⟩
theorem EW_l0 (s : Own) (q : Q (.li s) (.list []) Γ) : EW K (tLst tNil) Γ Q := EW_lst s (AW_nil ⟨by decide, fun b h => (by cases h), q⟩)
theorem EW_t2 {s1 s2 : Own} {d1 d2 : PyData} (q : AW K tr Γ fun bs Γ1 => bs = [(s1, d1), (s2, d2)] ∧ Q (.t2 s1 s2) (.tuple [d1, d2]) Γ1) : EW K (tTup tr) Γ Q := fun σ H L G S k => q σ H L _ S fun bs Γ1 vs H1 ⟨e, q1⟩ l S1 => ⟨sz_le (by rw [l, e]; exact (by decide : 2 ≤ 100000)), fun p np => by
  subst e
  match vs, l with
  | [x, y], _ =>
  obtain ⟨M, R, back⟩ := S1.lift (A := zipI [x, y] [(s1, d1), (s2, d2)])
  exact k _ _ _ _ _ q1 (back _ [.ow (.t2 s1 s2) (.ref p) _] (Rp.mk2 R np))⟩
theorem EW_t3 {s1 s2 s3 : Own} {d1 d2 d3 : PyData} (q : AW K tr Γ fun bs Γ1 => bs = [(s1, d1), (s2, d2), (s3, d3)] ∧ Q (.t3 s1 s2 s3) (.tuple [d1, d2, d3]) Γ1) : EW K (tTup tr) Γ Q := fun σ H L G S k => q σ H L _ S fun bs Γ1 vs H1 ⟨e, q1⟩ l S1 => ⟨sz_le (by rw [l, e]; exact (by decide : 3 ≤ 100000)), fun p np => by
  subst e
  match vs, l with
  | [x, y, z], _ =>
  obtain ⟨M, R, back⟩ := S1.lift (A := zipI [x, y, z] [(s1, d1), (s2, d2), (s3, d3)])
  exact k _ _ _ _ _ q1 (back _ [.ow (.t3 s1 s2 s3) (.ref p) _] (Rp.mk3 R np))⟩
/-! tests, and, or -/
theorem TW_test {Q : Bool → Ev → Prop} (q : EW K te Γ fun _ d Γ1 => ∃ c, d = .bool c ∧ Q c Γ1) : TW K (tTest te) Γ Q := fun σ H L G S k => q σ H L _ S fun s d Γ1 v H1 ⟨c, e, q1⟩ S1 => by
  subst e
  obtain ⟨I, E, R⟩ := S1
  obtain rfl := sh_bl R.mid
  exact ⟨c, rfl, k _ _ _ q1 ⟨I, E, R.mid.tail⟩⟩
theorem TW_tB {Q : Bool → Ev → Prop} (q : EW K te Γ fun _ d Γ1 => ∃ c, d = .bool c ∧ Q c Γ1) : TW K (tB te) Γ Q := fun σ H L G S k => q σ H L _ S fun s d Γ1 v H1 ⟨c, e, q1⟩ S1 => by
  subst e
  obtain ⟨I, E, R⟩ := S1
  obtain rfl := sh_bl R.mid
  exact ⟨c, rfl, k _ _ _ q1 ⟨I, E, R.mid.tail⟩⟩
theorem TW_not {Q : Bool → Ev → Prop} (q : TW K tt Γ fun c Γ1 => Q (!c) Γ1) : TW K (tNot tt) Γ Q := fun σ H L G S k => q σ H L _ S fun c Γ1 H1 q1 S1 => k _ _ _ q1 S1
theorem TW_and {Q : Bool → Ev → Prop} (q : TW K tt Γ fun c Γ1 => if c = true then TW K tu Γ1 Q else Q false Γ1) : TW K (tAnd tt tu) Γ Q := fun σ H L G S k => q σ H L _ S fun c Γ1 H1 q1 S1 => by
  cases c with
  | true => rw [if_pos rfl] at q1 ⊢; exact q1 σ H1 L G S1 k
  | false => rw [if_neg (by decide)] at q1 ⊢; exact k _ _ _ q1 S1
theorem TW_or {Q : Bool → Ev → Prop} (q : TW K tt Γ fun c Γ1 => if c = true then Q true Γ1 else TW K tu Γ1 Q) : TW K (tOr tt tu) Γ Q := fun σ H L G S k => q σ H L _ S fun c Γ1 H1 q1 S1 => by
  cases c with
  | false => rw [if_neg (by decide)] at q1 ⊢; exact q1 σ H1 L G S1 k
  | true => rw [if_pos rfl] at q1 ⊢; exact k _ _ _ q1 S1
theorem TW_yes {Q : Bool → Ev → Prop} (q : Q true Γ) : TW K tYes Γ Q := fun σ H L G S k => k _ _ _ q S
theorem Stt.bool {c : Bool} (S : Stt K Γ σ H (.ow s v (.bool c) :: L)) : v = .bl c := by
  obtain ⟨I, E, R⟩ := S
  exact sh_bl R.mid
theorem Stt.int' (S : Stt K Γ σ H (.ow s v (.int i) :: L)) : v = .int i := by
  obtain ⟨I, E, R⟩ := S
  exact sh_int R.mid
theorem Stt.str' {z : Str} (S : Stt K Γ σ H (.ow s v (.str z) :: L)) : v = .str z := by
  obtain ⟨I, E, R⟩ := S
  exact sh_str R.mid
theorem Stt.tail {m : It} (S : Stt K Γ σ H (m :: L)) : Stt K Γ σ H L := S.wk (.drop .refl)
theorem EW_andV (q : EW K ta Γ fun s d Γ1 => ∃ c, d = .bool c ∧ if c = true then EW K tb Γ1 Q else Q .lf (.bool false) Γ1) : EW K (tAndV ta tb) Γ Q := fun σ H L G S k => q σ H L _ S fun s d Γ1 x H1 ⟨c, e, q1⟩ S1 => by
  subst e
  obtain rfl := S1.bool
  refine ⟨c, rfl, ?_⟩
  cases c with
  | true => rw [if_pos rfl] at q1 ⊢; exact q1 σ H1 L G S1.tail k
  | false => rw [if_neg (by decide)] at q1 ⊢; exact k _ _ _ _ _ q1 (S1.tail.flat (.bl _) rfl)
theorem EW_orV (q : EW K ta Γ fun s d Γ1 => ∃ c, d = .bool c ∧ if c = true then Q .lf (.bool true) Γ1 else EW K tb Γ1 Q) : EW K (tOrV ta tb) Γ Q := fun σ H L G S k => q σ H L _ S fun s d Γ1 x H1 ⟨c, e, q1⟩ S1 => by
  subst e
  obtain rfl := S1.bool
  refine ⟨c, rfl, ?_⟩
  cases c with
  | false => rw [if_neg (by decide)] at q1 ⊢; exact q1 σ H1 L G S1.tail k
  | true => rw [if_pos rfl] at q1 ⊢; exact k _ _ _ _ _ q1 (S1.tail.flat (.bl _) rfl)
theorem EW_notV (q : EW K ta Γ fun s d Γ1 => ∃ c, d = .bool c ∧ Q .lf (.bool (!c)) Γ1) : EW K (tNotV ta) Γ Q := fun σ H L G S k => q σ H L _ S fun s d Γ1 x H1 ⟨c, e, q1⟩ S1 => by
  subst e
  obtain rfl := S1.bool
  exact ⟨c, rfl, k _ _ _ _ _ q1 (S1.tail.flat (.bl _) rfl)⟩
theorem EW_if (q : TW K tt Γ fun c Γ1 => if c = true then EW K ta Γ1 Q else EW K tb Γ1 Q) : EW K (tIf tt ta tb) Γ Q := fun σ H L G S k => q σ H L _ S fun c Γ1 H1 q1 S1 => by
  cases c with
  | true => rw [if_pos rfl] at q1 ⊢; exact q1 σ H1 L G S1 k
  | false => rw [if_neg (by decide)] at q1 ⊢; exact q1 σ H1 L G S1 k
theorem EW_chain {r r' : R2} (q : EW K ta Γ fun _ d Γ1 => EW K tb Γ1 fun _ e Γ2 => ∃ i j, d = .int i ∧ e = .int j ∧ OW K r .lf (.int i) .lf (.int j) fun _ d2 => ∃ c, d2 = .bool c ∧ if c = true then EW K tc Γ2 fun s3 f Γ3 => OW K r' .lf (.int j) s3 f fun s4 d4 => Q s4 d4 Γ3 else Q .lf (.bool false) Γ2) : EW K (tChain r r' ta tb tc) Γ Q := fun σ H L G S k => q σ H L _ S fun s d Γ1 x H1 q1 S1 => q1 σ H1 _ _ S1 fun s' e Γ2 y H2 ⟨i, j, e1, e2, q2⟩ S2 => by
  subst e1 e2
  obtain rfl := S2.int'
  obtain rfl := S2.tail.int'
  have S2 := ((S2.tail.tail.flat (.int j) rfl).flat (.int j) rfl).flat (v := .int i) (.int i) rfl
  obtain ⟨M, R, back⟩ := S2.lift (A := [.sh (.int i) (.int i), .sh (.int j) (.int j)])
  refine q2 H2 M _ _ _ R fun s2 d2 v H' ⟨c, e, q3⟩ R3 => ?_
  subst e
  have S3 := back H' [.ow s2 v (.bool c)] R3
  obtain rfl := S3.bool
  have S5 : Stt K Γ2 σ H' (.sh (.int j) (.int j) :: L) := S3.tail
  clear S3
  refine ⟨c, rfl, ?_⟩
  cases c with
  | true =>
    rw [if_pos rfl] at q3 ⊢
    refine q3 σ H' _ _ S5 fun s3 f Γ3 z H3 q4 S4 => ?_
    obtain ⟨M, R, back⟩ := S4.lift (A := [.ow s3 z f, .sh (.int j) (.int j)])
    exact q4 H3 M _ _ _ (R.perm (.swap _ _ _)) fun s4 d4 v H' q5 R5 => k _ _ _ _ _ q5 (back H' [.ow s4 v d4] R5)
  | false =>
    rw [if_neg (by decide)] at q3 ⊢
    exact k _ _ _ _ _ q3 (S5.tail.flat (.bl _) rfl)
/-! ### statements -/
variable {P : Po} {t u : L2.TS} {g : TG}
theorem SW_seq (q : SW K t Γ { P with nx := fun Γ1 => SW K u Γ1 P }) : SW K (tSeq t u) Γ P := fun σ H L D S k => q σ H L _ S ⟨fun Γ' σ' H' q1 S1 => q1 σ' H' L D S1 k, k.rt, k.bk, k.ct, k.er⟩
theorem SW_next (q : P.nx Γ) : SW K tNext Γ P := fun σ H L D S k => k.nx _ _ _ q S
theorem SW_break (q : P.bk Γ) : SW K tBreak Γ P := fun σ H L D S k => k.bk _ _ _ q S
theorem SW_cont (q : P.ct Γ) : SW K tCont Γ P := fun σ H L D S k => k.ct _ _ _ q S
theorem SW_if (q : TW K tt Γ fun c Γ1 => if c = true then SW K t Γ1 P else SW K u Γ1 P) : SW K (tIfS tt t u) Γ P := fun σ H L D S k => q σ H L _ S fun c Γ1 H1 q1 S1 => by
  cases c with
  | true => rw [if_pos rfl] at q1 ⊢; exact q1 σ H1 L D S1 k
  | false => rw [if_neg (by decide)] at q1 ⊢; exact q1 σ H1 L D S1 k
theorem SW_ret (q : EW K te Γ P.rt) : SW K (tRet te) Γ P := fun σ H L D S k => q σ H L _ S fun s d Γ' v H' q1 S1 => k.rt _ _ _ _ _ _ q1 S1
/-- what a name holds goes out -/
theorem SW_retV (h : Γ[n]? = some b) (hb : b.bx = some (s, d)) (q : P.rt s d (Γ.set n .un)) : SW K (tRet (tVar n)) Γ P := SW_ret (EW_mv h hb q)
theorem SW_retN (q : P.rt .lf .none Γ) : SW K tRetN Γ P := fun σ H L D S k => k.rt _ _ _ _ _ _ q (S.flat .non rfl)
theorem SW_drop (q : EW K te Γ fun _ _ Γ1 => P.nx Γ1) : SW K (tDrop te) Γ P := fun σ H L D S k => q σ H L _ S fun s d Γ' v H' q1 S1 => k.nx _ _ _ q1 S1.tail
theorem SW_asg (q : EW K te Γ fun s d Γ1 => GW K g s d Γ1 P.nx) : SW K (tAsg te g) Γ P := fun σ H L D S k => q σ H L _ S fun s d Γ' v H' q1 S1 => q1 σ H' L v _ S1 fun Γ2 σ2 H2 q2 S2 => k.nx _ _ _ q2 S2
theorem SW_cut (Mid : Ev → Prop) (h : SW K t Γ { P with nx := Mid }) (q : ∀ Γ', Mid Γ' → SW K u Γ' P) : SW K (C8.tCut t u) Γ P := fun σ H L D S k => ⟨fun σ' H' => ∃ Γ', Mid Γ' ∧ Stt K Γ' σ' H' L, h σ H L _ S ⟨fun Γ' σ' H' q1 S1 => ⟨Γ', q1, S1⟩, k.rt, k.bk, k.ct, k.er⟩, fun σ' H' ⟨Γ', q1, S1⟩ => q Γ' q1 σ' H' L D S1 k⟩
theorem SW_fz (h : Γ[n]? = some b) (hb : b.bx = some (s, d)) (q : SW K t (Γ.set n (b.to .lf d)) P) : SW K t Γ P := fun σ H L D S k => by
  obtain ⟨w, M, hw, R, put, _⟩ := S.focus h hb
  exact q σ H L D (put _ _ _ _ R.fz) k
theorem EW_fzS (h : Γ[n]? = some b) (hb : b.bx = some (s, d)) (q : EW K te (Γ.set n (b.to .lf d)) Q) : EW K te Γ Q := fun σ H L D S k => by
  obtain ⟨w, M, hw, R, put, _⟩ := S.focus h hb
  exact q σ H L D (put _ _ _ _ R.fz) k
theorem SW_mono {P' : Po} (h : SW K t Γ P) (k1 : ∀ Γ, P.nx Γ → P'.nx Γ) (k2 : ∀ s d Γ, P.rt s d Γ → P'.rt s d Γ) (k3 : ∀ Γ, P.bk Γ → P'.bk Γ) (k4 : ∀ Γ, P.ct Γ → P'.ct Γ) (k5 : ∀ H, P'.er H → P.er H := by exact fun _ h => h) : SW K t Γ P' := fun σ H L D S k => h σ H L D S ⟨fun Γ' σ' H' q => k.nx _ _ _ (k1 _ q), fun s d Γ' σ' v H' q => k.rt _ _ _ _ _ _ (k2 _ _ _ q), fun Γ' σ' H' q => k.bk _ _ _ (k3 _ q), fun Γ' σ' H' q => k.ct _ _ _ (k4 _ q), fun H' R => k5 _ (k.er H' R)⟩
/-! targets -/
theorem GW_name {Q : Ev → Prop} (q : Q (Γ.set n (.v s d))) : GW K (gName n) s d Γ Q := fun σ H L v G S k => k _ _ _ q (S.bind n)
/-- shared from here on -/
theorem GW_nameF {Q : Ev → Prop} (q : Q (Γ.set n (.v .lf d))) : GW K (gName n) s d Γ Q := fun σ H L v G S k => by
  obtain ⟨I, E, R⟩ := S
  exact k _ _ _ q (Stt.bind ⟨I, E, Rp.dim R.mid.fz⟩ n)
theorem wipe_set : ∀ {vs : List Nat} {σ : L2.St} {x : Option V}, n ∈ vs → wipe (σ.set n x) vs = wipe σ vs
  | i :: vs, σ, x, h => by
    show (wipe (σ.set n x) vs).set i none = (wipe σ vs).set i none
    by_cases c : n ∈ vs
    · rw [wipe_set c]
    · have e : n = i := by
        rcases List.mem_cons.mp h with h | h
        · exact h
        · exact (c h).elim
      subst e
      have key : ∀ {vs : List Nat} {σ : L2.St}, n ∉ vs → wipe (σ.set n x) vs = (wipe σ vs).set n x := fun {vs} => by
        induction vs with
        | nil => intro σ _; rfl
        | cons j vs ih =>
          intro σ h
          show (wipe (σ.set n x) vs).set j none = ((wipe σ vs).set j none).set n x
          rw [ih (fun z => h (List.mem_cons_of_mem _ z)), List.set_comm _ _ (fun z => h (by rw [z]; exact List.mem_cons_self))]
      rw [key c, List.set_set]
theorem GC_name {vs : List Nat} {Q : Ev → Prop} (h : n ∈ vs) (q : Q (Γ.set n (.v s d))) : GC K (gName n) s d Γ vs Q := fun σ H L v G S k => k _ _ _ q (wipe_set h) (S.bind n)
end
/-! ### boxes: loops, comprehensions, changes, calls -/
section
variable {K : PySem.W.Frag} {Γ Γ1 : Ev} {σ : L2.St} {H H' : Hp} {L L' I : List It} {s s' s1 : Own} {d d' e : PyData} {ds es : List PyData} {w x y v : V} {n m : Nat} {b b0 : Sl} {te ta tb tc ti tj : TE} {tt tu : TT} {tr tr2 : TA} {Q : Own → PyData → Ev → Prop} {i j : Int} {P : Po} {t u tbd : L2.TS} {g : TG} {wi : TI} {vs : List Nat}
theorem Rp.flip {A B : It} (R : Rp K H (A :: B :: L)) : Rp K H (B :: A :: L) := R.perm (.swap _ _ _)
theorem SW_while (q : ∃ Wm : Nat → Ev → Prop, (∃ m, Wm m Γ) ∧ ∀ m Γ, Wm m Γ → TW K tt Γ fun b Γ1 => if b = true then SW K tbd Γ1 { P with nx := fun Γ' => ∃ m', m' < m ∧ Wm m' Γ', ct := fun Γ' => ∃ m', m' < m ∧ Wm m' Γ', bk := P.nx } else P.nx Γ1) : SW K (tWhile tt tbd) Γ P := fun σ H L D S k => by
  obtain ⟨Wm, ⟨m0, w0⟩, turn⟩ := q
  refine ⟨fun m σ H => ∃ Γ, Wm m Γ ∧ Stt K Γ σ H L, ⟨m0, Γ, w0, S⟩, fun m σ H ⟨Γ, wm, S⟩ => turn m Γ wm σ H L _ S fun b Γ1 H1 q1 S1 => ?_⟩
  cases b with
  | false => rw [if_neg (by decide)] at q1 ⊢; exact k.nx _ _ _ q1 S1
  | true =>
    rw [if_pos rfl] at q1 ⊢
    exact ⟨fun σ' H' => ∃ m', m' < m ∧ ∃ Γ, Wm m' Γ ∧ Stt K Γ σ' H' L, fun σ' H' h => h, q1 σ H1 L _ S1 ⟨fun Γ' σ' H' ⟨m', h1, h2⟩ S' => ⟨m', h1, Γ', h2, S'⟩, k.rt, k.nx, fun Γ' σ' H' ⟨m', h1, h2⟩ S' => ⟨m', h1, Γ', h2, S'⟩, k.er⟩⟩
/-- a for over these -/
def ForB (K : PySem.W.Frag) (ds : List PyData) (g : TG) (tbd : L2.TS) (Γ : Ev) (P : Po) : Prop := ∃ Pv : Nat → Ev → Prop, Pv 0 Γ ∧ (∀ i d Γ', ds[i]? = some d → Pv i Γ' → GW K g .lf d Γ' fun Γ2 => SW K tbd Γ2 { P with nx := Pv (i + 1), ct := Pv (i + 1), bk := P.nx }) ∧ ∀ Γ', Pv ds.length Γ' → P.nx Γ'
theorem PoOk.dropP {D : Ends} {P0 : Hp → Prop} (k : PoOk K P D L) : PoOk K P D (.ps P0 :: L) := ⟨fun Γ' σ' H' q S => k.nx _ _ _ q S.tail, fun s d Γ' σ' v H' q S => k.rt _ _ _ _ _ _ q (S.wk (.take .here (.drop .refl))), fun Γ' σ' H' q S => k.bk _ _ _ q S.tail, fun Γ' σ' H' q S => k.ct _ _ _ q S.tail, fun H' R => k.er H' R.tail⟩
theorem Stt.psAt {P0 : Hp → Prop} (S : Stt K Γ σ H (.ps P0 :: L)) : P0 H := by
  obtain ⟨I, E, R⟩ := S
  exact R.mid.psAt
theorem SW_for (q : IW K wi Γ fun ds Γ1 => ForB K ds g tbd Γ1 P) : SW K (tFor wi g tbd) Γ P := fun σ H L D S k => q σ H L _ S fun ds Γ1 J P0 H1 ⟨Pv, h0, hs, hd⟩ wk S1 => by
  refine ⟨fun i m σ H => m = ds.length - i ∧ i ≤ ds.length ∧ ∃ Γ', Pv i Γ' ∧ Stt K Γ' σ H (.ps P0 :: L), ⟨_, rfl, Nat.zero_le _, Γ1, h0, S1⟩, ?_⟩
  rintro i m σ H ⟨rfl, hi, Γ', pv, S⟩
  by_cases c : i < ds.length
  · have hx : ds[i]? = some ds[i] := List.getElem?_eq_getElem c
    refine .inr ⟨wk.go i _ H S.psAt hx, fun σ' H' => ∃ Γ', Pv (i + 1) Γ' ∧ Stt K Γ' σ' H' (.ps P0 :: L), fun σ' H' h => ⟨ds.length - (i + 1), by omega, rfl, c, h⟩, fun v H' hy => ?_⟩
    obtain ⟨M, R, back⟩ := S.lift (A := [.ps P0])
    have S2 : Stt K Γ' σ H' (.sh v ds[i] :: .ps P0 :: L) := back H' [.sh v ds[i], .ps P0] (wk.yld i _ H v H' M hx R hy)
    exact hs i _ Γ' hx pv σ H' (.ps P0 :: L) v _ S2 fun Γ2 σ2 H2 q2 S3 => q2 σ2 H2 (.ps P0 :: L) _ S3 ⟨fun Γ' σ' H' q S => ⟨Γ', q, S⟩, k.dropP.rt, k.dropP.nx, fun Γ' σ' H' q S => ⟨Γ', q, S⟩, k.dropP.er⟩
  · have e : i = ds.length := by omega
    subst e
    exact .inl ⟨wk.stop H S.psAt, k.nx _ _ _ (hd Γ' pv) S.tail⟩
theorem ForB_map {α : Type} {xs : List α} {f : α → PyData} (Pv : Nat → Ev → Prop) (h0 : Pv 0 Γ) (hs : ∀ i x Γ', xs[i]? = some x → Pv i Γ' → GW K g .lf (f x) Γ' fun Γ2 => SW K tbd Γ2 { P with nx := Pv (i + 1), ct := Pv (i + 1), bk := P.nx }) (hd : ∀ Γ', Pv xs.length Γ' → P.nx Γ') : ForB K (xs.map f) g tbd Γ P := by
  refine ⟨Pv, h0, fun i d Γ' h pv => ?_, by rw [List.length_map]; exact hd⟩
  rw [List.getElem?_map] at h
  obtain ⟨x, hx, rfl⟩ := Option.map_eq_some_iff.mp h
  exact hs i x Γ' hx pv
theorem ForB_rng {n : Nat} {f : Nat → PyData} (Pv : Nat → Ev → Prop) (h0 : Pv 0 Γ) (hs : ∀ i Γ', i < n → Pv i Γ' → GW K g .lf (f i) Γ' fun Γ2 => SW K tbd Γ2 { P with nx := Pv (i + 1), ct := Pv (i + 1), bk := P.nx }) (hd : ∀ Γ', Pv n Γ' → P.nx Γ') : ForB K ((List.range n).map f) g tbd Γ P := by
  refine ForB_map Pv h0 (fun i x Γ' h pv => ?_) (by rw [List.length_range]; exact hd)
  obtain ⟨hi, e⟩ := List.getElem?_eq_some_iff.mp h
  rw [List.getElem_range] at e
  subst e
  exact hs i Γ' (by rwa [List.length_range] at hi) pv
/-! comprehensions -/
def LcB (K : PySem.W.Frag) (ds : List PyData) (g : TG) (tt : TT) (te : TE) (vs : List Nat) (Γ : Ev) (Q : Own → PyData → Ev → Prop) : Prop := ∃ (s : Own) (Pv : Nat → List PyData → Ev → Prop), Pv 0 [] (clr Γ vs) ∧ (∀ i d acc Γ', ds[i]? = some d → Pv i acc Γ' → GC K g .lf d Γ' vs fun Γ2 => TW K tt Γ2 fun b Γ3 => if b = true then EW K te Γ3 fun s2 d2 Γ4 => (s2 = s ∨ s = .lf) ∧ acc.length < 100000 ∧ Pv (i + 1) (acc ++ [d2]) (clr Γ4 vs) else Pv (i + 1) acc (clr Γ3 vs)) ∧ ∀ acc Γ', Pv ds.length acc Γ' → Q (.li s) (.list acc) Γ'
theorem wipe_sub {σ : L2.St} : ∀ {us : List Nat}, (∀ u ∈ us, u ∈ vs) → wipe (wipe σ us) vs = wipe σ vs
  | [], _ => rfl
  | u :: us, h => by
    show wipe ((wipe σ us).set u none) vs = wipe σ vs
    rw [wipe_set (h u List.mem_cons_self)]
    exact wipe_sub fun z hz => h z (List.mem_cons_of_mem _ hz)
theorem wipe_wipe {σ : L2.St} : wipe (wipe σ vs) vs = wipe σ vs := wipe_sub fun _ h => h
theorem EW_lc (q : IW K wi Γ fun ds Γ1 => LcB K ds g tt te vs Γ1 Q) : EW K (tLc wi g tt te vs) Γ Q := fun σ H L G S k => q σ H L _ S fun ds Γ1 J P0 H1 ⟨s, Pv, h0, hs, hd⟩ wk S1 D nD => by
  have S2 : Stt K (clr Γ1 vs) (wipe σ vs) (upd H1 D (.lst [])) (.ow (.li s) (.ref D) (.list []) :: .ps P0 :: L) := by
    obtain ⟨I, E, R⟩ := S1.clr vs
    exact ⟨I, E, (R.mkL0 s nD).dim⟩
  refine ⟨fun i m H => m = ds.length - i ∧ i ≤ ds.length ∧ ∃ acc Γ', Pv i acc Γ' ∧ Stt K Γ' (wipe σ vs) H (.ow (.li s) (.ref D) (.list acc) :: .ps P0 :: L), ⟨_, rfl, Nat.zero_le _, [], _, h0, S2⟩, ?_⟩
  rintro i m H ⟨rfl, hi, acc, Γ', pv, S⟩
  have S' : Stt K Γ' (wipe σ vs) H (.ps P0 :: .ow (.li s) (.ref D) (.list acc) :: L) := S.perm (.swap _ _ _)
  by_cases c : i < ds.length
  · have hx : ds[i]? = some ds[i] := List.getElem?_eq_getElem c
    refine .inr ⟨wk.go i _ H S'.psAt hx, fun H' => ∃ acc Γ', Pv (i + 1) acc Γ' ∧ Stt K Γ' (wipe σ vs) H' (.ow (.li s) (.ref D) (.list acc) :: .ps P0 :: L), fun H' h => ⟨ds.length - (i + 1), by omega, rfl, c, h⟩, fun v H' hy => ?_⟩
    obtain ⟨M, R, back⟩ := S'.lift (A := [.ps P0])
    have S2 : Stt K Γ' (wipe σ vs) H' (.sh v ds[i] :: .ps P0 :: .ow (.li s) (.ref D) (.list acc) :: L) := back H' [.sh v ds[i], .ps P0] (wk.yld i _ H v H' M hx R hy)
    refine hs i _ acc Γ' hx pv (wipe σ vs) H' (.ow (.li s) (.ref D) (.list acc) :: .ps P0 :: L) v _ (S2.perm ((List.Perm.swap _ _ _).cons _)) fun Γ2 σ2 H2 q2 hw S3 => ?_
    rw [wipe_wipe] at hw
    refine ⟨hw, q2 σ2 H2 _ _ S3 fun b Γ3 H3 q3 S4 => ?_⟩
    cases b with
    | false =>
      rw [if_neg (by decide)] at q3 ⊢
      have S5 := S4.clr vs
      rw [hw] at S5
      exact ⟨acc, _, q3, S5⟩
    | true =>
      rw [if_pos rfl] at q3 ⊢
      refine q3 σ2 H3 _ _ S4 fun s2 d2 Γ4 y H4 ⟨hs2, z, q4⟩ S5 => ?_
      have S5 : Stt K Γ4 σ2 H4 (.ow s y d2 :: .ow (.li s) (.ref D) (.list acc) :: .ps P0 :: L) := by
        rcases hs2 with rfl | rfl
        · exact S5
        · obtain ⟨I, E, R⟩ := S5
          exact ⟨I, E, Rp.dim R.mid.fz⟩
      obtain ⟨M, R, back⟩ := S5.lift (A := [.ow s y d2, .ow (.li s) (.ref D) (.list acc)])
      obtain ⟨ac, e1, l1, R2⟩ := Rp.app R
      have S6 := (back _ [.ow (.li s) (.ref D) (.list (acc ++ [d2]))] R2).clr vs
      rw [hw] at S6
      exact ⟨ac, e1, sz_lt (by rw [l1]; exact z), _, _, q4, S6⟩
  · have e : i = ds.length := by omega
    subst e
    exact .inl ⟨wk.stop H S'.psAt, k _ _ _ _ _ (hd acc Γ' pv) (S.unwipe.wk (.take .here (.drop .refl)))⟩
theorem LcB_map {α : Type} {xs : List α} {f : α → PyData} (s : Own) (Pv : Nat → List PyData → Ev → Prop) (h0 : Pv 0 [] (clr Γ vs)) (hs : ∀ i x acc Γ', xs[i]? = some x → Pv i acc Γ' → GC K g .lf (f x) Γ' vs fun Γ2 => TW K tt Γ2 fun b Γ3 => if b = true then EW K te Γ3 fun s2 d2 Γ4 => (s2 = s ∨ s = .lf) ∧ acc.length < 100000 ∧ Pv (i + 1) (acc ++ [d2]) (clr Γ4 vs) else Pv (i + 1) acc (clr Γ3 vs)) (hd : ∀ acc Γ', Pv xs.length acc Γ' → Q (.li s) (.list acc) Γ') : LcB K (xs.map f) g tt te vs Γ Q := by
  refine ⟨s, Pv, h0, fun i d acc Γ' h pv => ?_, by rw [List.length_map]; exact hd⟩
  rw [List.getElem?_map] at h
  obtain ⟨x, hx, rfl⟩ := Option.map_eq_some_iff.mp h
  exact hs i x acc Γ' hx pv
/-- a comprehension that is a map and a filter -/
theorem LcB_mf {α : Type} {xs : List α} {f : α → PyData} (s : Own) (p : α → Bool) (r : α → PyData) (sz : xs.length ≤ 100000)
    (hs : ∀ x ∈ xs, GC K g .lf (f x) (clr Γ vs) vs fun Γ2 => TW K tt Γ2 fun b Γ3 => b = p x ∧ if b = true then EW K te Γ3 fun s2 d2 Γ4 => (s2 = s ∨ s = .lf) ∧ d2 = r x ∧ clr Γ4 vs = clr Γ vs else clr Γ3 vs = clr Γ vs)
    (hd : Q (.li s) (.list ((xs.filter p).map r)) (clr Γ vs)) : LcB K (xs.map f) g tt te vs Γ Q := by
  refine LcB_map s (fun i acc Γ' => acc = ((xs.take i).filter p).map r ∧ Γ' = clr Γ vs) ⟨rfl, rfl⟩ ?_ ?_
  · rintro i x acc Γ' hx ⟨rfl, rfl⟩
    have hi := (List.getElem?_eq_some_iff.mp hx).1
    have ht : xs.take (i + 1) = xs.take i ++ [x] := by rw [List.take_add_one, hx]; rfl
    intro σ H L v G S k
    refine hs x (mem_of_at hx) σ H L v G S fun Γ2 σ' H' q hw S' => k Γ2 σ' H' ?_ hw S'
    intro σ1 H1 L1 G1 S1 k1
    refine q σ1 H1 L1 G1 S1 fun b Γ3 H3 ⟨e, q3⟩ S3 => k1 b Γ3 H3 ?_ S3
    subst e
    have l : (((xs.take i).filter p).map r).length < 100000 := by
      rw [List.length_map]
      have h1 := List.length_filter_le p (xs.take i)
      rw [List.length_take] at h1
      omega
    by_cases c : p x = true
    · rw [if_pos c] at q3 ⊢
      refine q3.mono fun s2 d2 Γ4 ⟨h1, h2, h3⟩ => ⟨h1, l, ?_, h3⟩
      rw [h2, ht, List.filter_append, List.map_append, List.filter_cons_of_pos c]; rfl
    · rw [if_neg c] at q3 ⊢
      refine ⟨?_, q3⟩
      rw [ht, List.filter_append, List.filter_cons_of_neg c]
      simp
  · rintro acc Γ' ⟨rfl, rfl⟩
    rw [List.take_length]
    exact hd
/-- one that is a map -/
theorem LcB_m {α : Type} {xs : List α} {f : α → PyData} (s : Own) (r : α → PyData) (sz : xs.length ≤ 100000)
    (hs : ∀ x ∈ xs, GC K g .lf (f x) (clr Γ vs) vs fun Γ2 => EW K te Γ2 fun s2 d2 Γ4 => (s2 = s ∨ s = .lf) ∧ d2 = r x ∧ clr Γ4 vs = clr Γ vs)
    (hd : Q (.li s) (.list (xs.map r)) (clr Γ vs)) : LcB K (xs.map f) g tYes te vs Γ Q := by
  refine LcB_mf s (fun _ => true) r sz (fun x hx => ?_) (by rw [List.filter_eq_self.mpr (fun _ _ => rfl)]; exact hd)
  intro σ H L v G S k
  exact hs x hx σ H L v G S fun Γ2 σ' H' q hw S' => k Γ2 σ' H' (TW_yes ⟨rfl, by rw [if_pos rfl]; exact q⟩) hw S'
/-! iterators -/
theorem walks_list {a : Addr} {xs : List V} (l : xs.length = ds.length) : Walks K (Itl K a) ds (Sv K a xs ds) := ⟨fun H h => ⟨xs, SqL.of h.1, by omega⟩, fun i d H h hd => by
    have hi := (List.getElem?_eq_some_iff.mp hd).1
    exact ⟨xs, xs[i]'(by omega), SqL.of h.1, List.getElem?_eq_getElem (by omega)⟩,
  fun i d H v H' M hd R hy => by
    obtain ⟨rfl, hy⟩ := hy
    exact R.svAt mem_here (hy xs (SqL.of R.psAt.1)) hd⟩
theorem IW_list {Q : List PyData → Ev → Prop} (q : EW K te Γ fun _ d Γ1 => ∃ ds, d = .list ds ∧ Q ds Γ1) : IW K (iList K te) Γ Q := fun σ H L R S k => q σ H L _ S fun s d Γ1 v H1 ⟨ds, e, q1⟩ S1 => by
  subst e
  obtain ⟨M, R1, back⟩ := S1.lift (A := [.ow s v (.list ds)])
  obtain ⟨a, xs, rfl, l, hs, R2⟩ := R1.fz.sv mem_here
  exact ⟨a, rfl, ⟨xs, SqL.of hs⟩, k ds Γ1 _ _ H1 q1 (walks_list l) (back H1 [.ps (Sv K a xs ds)] (R2.wk (.take .here (.drop .refl))))⟩
theorem walks_tup {a : Addr} {xs : List V} (l : xs.length = ds.length) : Walks K (Itt K a) ds (Tv K a xs ds) := ⟨fun H h => ⟨xs, h.1, by omega⟩, fun i d H h hd => by
    have hi := (List.getElem?_eq_some_iff.mp hd).1
    exact ⟨xs, xs[i]'(by omega), h.1, List.getElem?_eq_getElem (by omega)⟩,
  fun i d H v H' M hd R hy => by
    obtain ⟨rfl, hy⟩ := hy
    exact R.tvAt mem_here (hy xs R.psAt.1) hd⟩
theorem IW_tup {Q : List PyData → Ev → Prop} (q : EW K te Γ fun _ d Γ1 => ∃ ds, d = .tuple ds ∧ Q ds Γ1) : IW K (iTup K te) Γ Q := fun σ H L R S k => q σ H L _ S fun s d Γ1 v H1 ⟨ds, e, q1⟩ S1 => by
  subst e
  obtain ⟨M, R1, back⟩ := S1.lift (A := [.ow s v (.tuple ds)])
  obtain ⟨a, xs, rfl, l, hs, R2⟩ := R1.fz.tv mem_here
  exact ⟨a, rfl, ⟨xs, hs⟩, k ds Γ1 _ _ H1 q1 (walks_tup l) (back H1 [.ps (Tv K a xs ds)] (R2.wk (.take .here (.drop .refl))))⟩
theorem rangeD_at {n i : Nat} {f : Nat → PyData} (h : ((List.range n).map f)[i]? = some d) : i < n ∧ d = f i := by
  rw [List.getElem?_map] at h
  obtain ⟨x, hx, rfl⟩ := Option.map_eq_some_iff.mp h
  obtain ⟨hi, e⟩ := List.getElem?_eq_some_iff.mp hx
  rw [List.getElem_range] at e
  subst e
  exact ⟨by rwa [List.length_range] at hi, rfl⟩
theorem walks_rng {lo : Int} {n : Nat} {f : Nat → PyData} (hf : ∀ i : Nat, f i = .int (lo + i)) : Walks K (Itr lo n) ((List.range n).map f) (fun _ => True) := ⟨fun H _ => by
    rw [List.length_map, List.length_range]; exact Nat.le_refl _, fun i d H _ h => (rangeD_at h).1,
  fun i d H v H' M h R hy => by
    obtain ⟨rfl, rfl⟩ := hy
    rw [(rangeD_at h).2, hf]
    exact R.int _⟩
theorem Stt.ps1 (S : Stt K Γ σ H L) : Stt K Γ σ H (.ps (fun _ => True) :: L) := by
  obtain ⟨I, E, ps, u, r⟩ := S
  obtain ⟨q1, q2, e, u1, u2⟩ := u.split
  have : Rp K H (.ps (fun _ => True) :: (I ++ L)) := ⟨_, .cons (p := [_]) rfl u, r.addps (fun _ _ _ h => h) trivial⟩
  exact ⟨I, E, this.dim⟩
theorem IW_rng1 {Q : List PyData → Ev → Prop} (q : AW K tr Γ fun bs Γ1 => ∃ s j, bs = [(s, .int j)] ∧ (-(2 ^ 62) ≤ j ∧ j < 2 ^ 62) ∧ Q ((List.range j.toNat).map fun i : Nat => .int (i : Int)) Γ1) : IW K (iRng1 tr) Γ Q := fun σ H L R S k => q σ H L _ S fun bs Γ1 vs H1 ⟨s, j, e, h, q1⟩ l S1 => by
  subst e
  match vs, l with
  | [x], _ =>
    have S1 : Stt K Γ1 σ H1 (.ow s x (.int j) :: L) := S1
    obtain rfl := S1.int'
    exact ⟨j, rfl, h.1, h.2, k _ Γ1 _ _ H1 q1 (walks_rng fun i => by rw [Int.zero_add]) S1.tail.ps1⟩
theorem IW_rng2 {Q : List PyData → Ev → Prop} (q : AW K tr Γ fun bs Γ1 => ∃ s s' i j, bs = [(s, .int i), (s', .int j)] ∧ (-(2 ^ 62) ≤ i ∧ i < 2 ^ 62 ∧ -(2 ^ 62) ≤ j ∧ j < 2 ^ 62) ∧ Q ((List.range (j - i).toNat).map fun k : Nat => .int (i + (k : Int))) Γ1) : IW K (iRng2 tr) Γ Q := fun σ H L R S k => q σ H L _ S fun bs Γ1 vs H1 ⟨s, s', i, j, e, h, q1⟩ l S1 => by
  subst e
  match vs, l with
  | [x, y], _ =>
    have S1 : Stt K Γ1 σ H1 (.ow s x (.int i) :: .ow s' y (.int j) :: L) := S1
    obtain rfl := S1.int'
    obtain rfl := S1.tail.int'
    exact ⟨i, j, rfl, h, k _ Γ1 _ _ H1 q1 (walks_rng fun i => rfl) S1.tail.tail.ps1⟩
def Zv (K : PySem.W.Frag) (a b : Addr) (xs ys : List V) (ds es : List PyData) (H : Hp) : Prop := Sv K a xs ds H ∧ Sv K b ys es H
theorem walks_zip {a b : Addr} {xs ys : List V} (l : xs.length = ds.length) (l2 : ys.length = es.length) : Walks K (Itz K a b) (List.zipWith (fun x y => .tuple [x, y]) ds es) (Zv K a b xs ys ds es) := ⟨fun H h => ⟨xs, ys, SqL.of h.1.1, SqL.of h.2.1, by rw [List.length_zipWith]; omega⟩, fun i d H h hd => by
    have hi := (List.getElem?_eq_some_iff.mp hd).1
    rw [List.length_zipWith] at hi
    exact ⟨xs, ys, xs[i]'(by omega), ys[i]'(by omega), SqL.of h.1.1, SqL.of h.2.1, List.getElem?_eq_getElem (by omega), List.getElem?_eq_getElem (by omega)⟩,
  fun i d H v H' M hd R hy => by
    obtain ⟨T, x, y, rfl, nT, rfl, hx, hy⟩ := hy
    have h0 := R.psAt
    rw [List.getElem?_zipWith] at hd
    cases h1 : ds[i]? with
    | none => rw [h1] at hd; cases hd
    | some d1 =>
      cases h2 : es[i]? with
      | none => rw [h1, h2] at hd; cases hd
      | some d2 =>
        rw [h1, h2] at hd
        cases hd
        have R1 : Rp K H (.ps (Sv K a xs ds) :: .ps (Zv K a b xs ys ds es) :: M) := R.imp (fun H h => h.1) sv_mono
        have R2 : Rp K H (.ps (Sv K b ys es) :: .ps (Zv K a b xs ys ds es) :: .ps (Sv K a xs ds) :: M) := R1.flip.imp (fun H h => h.2) sv_mono
        have R3 := (R2.svAt mem_here (hy ys (SqL.of h0.2.1)) h2).svAt (.tail _ (.tail _ (.tail _ mem_here))) (hx xs (SqL.of h0.1.1)) h1
        exact (Rp.mk2 R3 nT).fz.wk (.take .here (.drop (.take .here (.drop .refl))))⟩
theorem IW_zip {Q : List PyData → Ev → Prop} (q : AW K tr Γ fun bs Γ1 => ∃ s s' ds es, bs = [(s, .list ds), (s', .list es)] ∧ Q (List.zipWith (fun x y => .tuple [x, y]) ds es) Γ1) : IW K (iZip K tr) Γ Q := fun σ H L R S k => q σ H L _ S fun bs Γ1 vs H1 ⟨s, s', ds, es, e, q1⟩ l S1 => by
  subst e
  match vs, l with
  | [x, y], _ =>
    have S1 : Stt K Γ1 σ H1 (.ow s x (.list ds) :: .ow s' y (.list es) :: L) := S1
    obtain ⟨M, R1, back⟩ := S1.lift (A := [.ow s x (.list ds), .ow s' y (.list es)])
    have R2 := R1.fz.flip.fz
    obtain ⟨b, ys, rfl, l2, h2, R3⟩ := R2.sv mem_here
    obtain ⟨a, xs, rfl, l1, h1, R4⟩ := R3.sv (.tail _ (.tail _ mem_here))
    have R5 : Rp K H1 (.ps (Sv K a xs ds) :: .ps (Sv K b ys es) :: M) := R4.wk (.take .here (.take .here (.drop (.drop .refl))))
    have R6 : Rp K H1 (.ps (Zv K a b xs ys ds es) :: M) := R5.both
    exact ⟨a, b, xs, ys, rfl, SqL.of h1, SqL.of h2, k _ Γ1 _ _ H1 q1 (walks_zip l1 l2) (back H1 [.ps (Zv K a b xs ys ds es)] R6)⟩
def enumD (ds : List PyData) : List PyData := List.zipWith (fun i d => .tuple [.int ((i : Nat) : Int), d]) (List.range ds.length) ds
theorem enumD_at {i : Nat} (h : (enumD ds)[i]? = some d) : ∃ e, ds[i]? = some e ∧ d = .tuple [.int (i : Int), e] := by
  unfold enumD at h
  rw [List.getElem?_zipWith] at h
  cases h2 : ds[i]? with
  | none => rw [h2] at h; cases q : (List.range ds.length)[i]? <;> rw [q] at h <;> cases h
  | some e =>
    have hi := (List.getElem?_eq_some_iff.mp h2).1
    rw [h2, List.getElem?_eq_getElem (by rw [List.length_range]; exact hi), List.getElem_range] at h
    cases h
    exact ⟨e, rfl, rfl⟩
theorem enumD_len : (enumD ds).length = ds.length := by unfold enumD; rw [List.length_zipWith, List.length_range, Nat.min_self]
theorem walks_enum {a : Addr} {xs : List V} (l : xs.length = ds.length) : Walks K (Ite K a) (enumD ds) (Sv K a xs ds) := ⟨fun H h => ⟨xs, SqL.of h.1, by rw [enumD_len]; omega⟩, fun i d H h hd => by
    have hi := (List.getElem?_eq_some_iff.mp hd).1
    rw [enumD_len] at hi
    exact ⟨xs, xs[i]'(by omega), SqL.of h.1, List.getElem?_eq_getElem (by omega)⟩,
  fun i d H v H' M hd R hy => by
    obtain ⟨T, x, rfl, nT, rfl, hx⟩ := hy
    obtain ⟨e, h1, rfl⟩ := enumD_at hd
    have R1 := R.svAt mem_here (hx xs (SqL.of R.psAt.1)) h1
    exact (Rp.mk2 (R1.int (i : Int)) nT).fz⟩
theorem IW_enum {Q : List PyData → Ev → Prop} (q : AW K tr Γ fun bs Γ1 => ∃ s ds, bs = [(s, .list ds)] ∧ Q (enumD ds) Γ1) : IW K (iEnum K tr) Γ Q := fun σ H L R S k => q σ H L _ S fun bs Γ1 vs H1 ⟨s, ds, e, q1⟩ l S1 => by
  subst e
  match vs, l with
  | [x], _ =>
    have S1 : Stt K Γ1 σ H1 (.ow s x (.list ds) :: L) := S1
    obtain ⟨M, R1, back⟩ := S1.lift (A := [.ow s x (.list ds)])
    obtain ⟨a, xs, rfl, l1, h1, R3⟩ := R1.fz.sv mem_here
    exact ⟨a, xs, rfl, SqL.of h1, k _ Γ1 _ _ H1 q1 (walks_enum l1) (back H1 [.ps (Sv K a xs ds)] (R3.wk (.take .here (.drop .refl))))⟩
/-! changes -/
theorem list_tyV (R : Rp K H (.ow s w (.list ds) :: L)) : ∃ a, w = .ref a ∧ tyV K "list" (.ref a) H := by
  obtain ⟨a, rfl⟩ := sh_lst R
  exact ⟨a, rfl, tyLR R mem_here⟩
def AppB (Γ : Ev) (n : Nat) (s : Own) (d : PyData) (F : Ev → Prop) : Prop := ∃ b s1 ds, Γ[n]? = some b ∧ b.bx = some (.li s1, .list ds) ∧ (s = s1 ∨ s1 = .lf) ∧ ds.length < 100000 ∧ F (Γ.set n (b.to (.li s1) (.list (ds ++ [d]))))
theorem AppB_i {F : Ev → Prop} (h : Γ[n]? = some b) (hb : b.bx = some (.li s1, .list ds)) (hs : s = s1 ∨ s1 = .lf) (z : ds.length < 100000) (q : F (Γ.set n (b.to (.li s1) (.list (ds ++ [d]))))) : AppB Γ n s d F := ⟨b, s1, ds, h, hb, hs, z, q⟩
theorem EW_app {s0 : Own} (h : Γ[n]? = some b0) (hb : b0.bx = some (s0, .list es)) (q : EW K te Γ fun s d Γ1 => AppB Γ1 n s d fun Γ2 => Q .lf .none Γ2) : EW K (tBM K "list" rAppend (tVar n) (tCons te tNil)) Γ Q := fun σ H L G S k => by
  obtain ⟨w, M0, hw, R0, _, _⟩ := S.focus h hb
  obtain ⟨a, rfl, ty⟩ := list_tyV R0
  refine ⟨.ref a, hw, ty, q σ H L _ S fun s d Γ1 y H1 ⟨b, s1, ds, h2, hb2, hs, z, q1⟩ S1 => ?_⟩
  obtain ⟨w2, M, hw2, R, put, _⟩ := S1.focus h2 hb2
  rw [hw] at hw2; cases hw2
  have R1 : Rp K H1 (.ow s1 y d :: .ow (.li s1) (.ref a) (.list ds) :: (M ++ L)) := by
    have R' : Rp K H1 (.ow s y d :: .ow (.li s1) (.ref a) (.list ds) :: (M ++ L)) := (R.perm ((List.perm_middle).cons _)).flip
    rcases hs with rfl | rfl
    · exact R'
    · exact R'.fz
  obtain ⟨acc, e, l, R2⟩ := Rp.app R1
  exact ⟨a, acc, y, rfl, rfl, e, sz_lt (by rw [l]; exact z), k _ _ _ _ _ q1 ((put _ _ _ _ R2).flat .non rfl)⟩
def ExtB (Γ : Ev) (n : Nat) (s : Own) (d : PyData) (F : Ev → Prop) : Prop := ∃ b s1 ds es, Γ[n]? = some b ∧ b.bx = some (.li s1, .list ds) ∧ d = .list es ∧ (s = .li s1 ∨ s1 = .lf) ∧ ds.length + es.length ≤ 100000 ∧ F (Γ.set n (b.to (.li s1) (.list (ds ++ es))))
theorem ExtB_i {F : Ev → Prop} (h : Γ[n]? = some b) (hb : b.bx = some (.li s1, .list ds)) (hs : s = .li s1 ∨ s1 = .lf) (z : ds.length + es.length ≤ 100000) (q : F (Γ.set n (b.to (.li s1) (.list (ds ++ es))))) : ExtB Γ n s (.list es) F := ⟨b, s1, ds, es, h, hb, rfl, hs, z, q⟩
theorem EW_ext {s0 : Own} (h : Γ[n]? = some b0) (hb : b0.bx = some (s0, .list es)) (q : EW K te Γ fun s d Γ1 => ExtB Γ1 n s d fun Γ2 => Q .lf .none Γ2) : EW K (tBM K "list" rExtend (tVar n) (tCons te tNil)) Γ Q := fun σ H L G S k => by
  obtain ⟨w, M0, hw, R0, _, _⟩ := S.focus h hb
  obtain ⟨a, rfl, ty⟩ := list_tyV R0
  refine ⟨.ref a, hw, ty, q σ H L _ S fun s d Γ1 y H1 ⟨b, s1, ds, es, h2, hb2, e, hs, z, q1⟩ S1 => ?_⟩
  subst e
  obtain ⟨w2, M, hw2, R, put, _⟩ := S1.focus h2 hb2
  rw [hw] at hw2; cases hw2
  have R' : Rp K H1 (.ow s y (.list es) :: .ow (.li s1) (.ref a) (.list ds) :: (M ++ L)) := (R.perm ((List.perm_middle).cons _)).flip
  have R1 : ∃ c zs, y = .ref c ∧ zs.length = es.length ∧ H1 c = some (.lst zs) ∧ Rp K H1 (each s1 zs es ++ .ow (.li s1) (.ref a) (.list ds) :: (M ++ L)) := by
    rcases hs with rfl | rfl
    · obtain ⟨c, zs, rfl, l, R2⟩ := R'.take
      exact ⟨c, zs, rfl, l, R2.topAt, R2.tail⟩
    · have R2 := R'.fz
      obtain ⟨c, zs, rfl, l, hc, R3⟩ := R2.shAll mem_here
      exact ⟨c, zs, rfl, l, hc, Rp.perm (A := .sh (.ref c) (.list es) :: (each .lf zs es ++ .ow (.li .lf) (.ref a) (.list ds) :: (M ++ L))) (.refl _) (R3.perm List.perm_middle) |>.tail⟩
  obtain ⟨c, zs, rfl, lz, hc, R2⟩ := R1
  have R3 : Rp K H1 (.ow (.li s1) (.ref a) (.list ds) :: (each s1 zs es ++ (M ++ L))) := R2.mid
  obtain ⟨_, xs, ea, lx, R4⟩ := R3.take
  cases ea
  have R5 : Rp K (upd H1 a (.lst (xs ++ zs))) (.top a (xs ++ zs) :: (each s1 (xs ++ zs) (ds ++ es) ++ (M ++ L))) := by
    have := R4.mut (ys := xs ++ zs)
    rw [each_app lx, List.append_assoc]
    exact this
  have R6 := R5.put (by rw [List.length_append, List.length_append, lx, lz])
  exact ⟨a, c, xs, zs, rfl, rfl, R4.topAt, hc, sz_le (by rw [lx, lz]; exact z), k _ _ _ _ _ q1 ((put _ _ _ _ R6).flat .non rfl)⟩
theorem each_get {xs : List V} {k : Nat} (l : xs.length = (ds ++ [d]).length) : ∃ ys z, xs = ys ++ [z] ∧ ys.length = ds.length := by
  rw [List.length_append] at l
  have hne : xs ≠ [] := fun z => by rw [z] at l; simp at l
  refine ⟨xs.dropLast, xs.getLast hne, (List.dropLast_concat_getLast hne).symm, ?_⟩
  rw [List.length_dropLast]; simp at l; omega
/-- pop() -/
theorem EW_pop (q : AtB Γ n fun s d b => ∃ s1 ds e, s = .li s1 ∧ d = .list (ds ++ [e]) ∧ Q s1 e (Γ.set n (b.to (.li s1) (.list ds)))) : EW K (tBM0 K "list" rPop (tVar n)) Γ Q := fun σ H L G S k => by
  obtain ⟨b, s, d, h, hb, s1, ds, e, rfl, rfl, q⟩ := q
  obtain ⟨w, M, hw, R, put, _⟩ := S.focus h hb
  obtain ⟨a, rfl, ty⟩ := list_tyV R
  obtain ⟨_, xs, ea, lx, R2⟩ := R.take
  cases ea
  obtain ⟨ys, z, rfl, ly⟩ := each_get (k := 0) lx
  refine ⟨.ref a, hw, ty, a, ys ++ [z], z, rfl, rfl, R2.topAt, by simp, ?_⟩
  rw [List.dropLast_concat]
  have R3 := R2.mut (ys := ys)
  rw [each_snoc ly, List.append_assoc] at R3
  have R4 : Rp K (upd H a (.lst ys)) (.top a ys :: (each s1 ys ds ++ (.ow s1 z e :: (M ++ L)))) := R3
  exact k _ _ _ _ _ q (put _ _ _ _ ((R4.put ly).perm (List.Perm.cons _ List.perm_middle.symm)))
theorem EW_clear (q : AtB Γ n fun s d b => ∃ s1 ds, s = .li s1 ∧ d = .list ds ∧ Q .lf .none (Γ.set n (b.to (.li s1) (.list [])))) : EW K (tBM0 K "list" rClear (tVar n)) Γ Q := fun σ H L G S k => by
  obtain ⟨b, s, d, h, hb, s1, ds, rfl, rfl, q⟩ := q
  obtain ⟨w, M, hw, R, put, _⟩ := S.focus h hb
  obtain ⟨a, rfl, ty⟩ := list_tyV R
  obtain ⟨_, xs, ea, lx, R2⟩ := R.take
  cases ea
  refine ⟨.ref a, hw, ty, a, xs, rfl, rfl, R2.topAt, ?_⟩
  have R3 : Rp K (upd H a (.lst [])) (.top a [] :: (M ++ L)) := by
    have := R2.mut (ys := [])
    exact (this.perm (List.perm_middle (l₁ := each s1 xs ds) (a := .top a []) (l₂ := M ++ L)).symm).dropL
  exact k _ _ _ _ _ q ((put _ _ _ _ (Rp.put (xs := []) (ds := []) (s := s1) R3 rfl)).flat .non rfl)
/-- x[i] = .. -/
theorem GW_set {Q : Ev → Prop} {s0 : Own} (h : Γ[n]? = some b0) (hb : b0.bx = some (s0, d')) (q : EW K ti Γ fun _ e Γ2 => ∃ k : Nat, e = .int (k : Int) ∧ AtB Γ2 n fun s2 d2 b => ∃ s1 ds, s2 = .li s1 ∧ d2 = .list ds ∧ k < ds.length ∧ (s = s1 ∨ s1 = .lf) ∧ Q (Γ2.set n (b.to (.li s1) (.list (ds.set k d))))) : GW K (gSub (tVar n) ti rSetL) s d Γ Q := fun σ H L v G S k => by
  obtain ⟨w, M0, hw, R0, _, _⟩ := S.focus h hb
  refine ⟨w, hw, q σ H _ _ S fun s2 e Γ2 y H2 ⟨j, e1, b, s3, d3, h2, hb2, s1, ds, e2, e3, hj, hs, q2⟩ S2 => ?_⟩
  subst e1 e2 e3
  obtain rfl := S2.int'
  have S3 : Stt K Γ2 σ H2 (.ow s v d :: L) := S2.tail
  obtain ⟨w2, M, hw2, R, put, _⟩ := S3.focus h2 hb2
  rw [hw] at hw2; cases hw2
  have R1 : Rp K H2 (.ow (.li s1) w (.list ds) :: .ow s1 v d :: (M ++ L)) := by
    have R' := R.perm ((List.perm_middle).cons _)
    rcases hs with rfl | rfl
    · exact R'
    · exact R'.flip.fz.flip
  obtain ⟨a, rfl⟩ := sh_lst R1
  exact g_setR R1 .here .here rfl hj fun H' R2 => k _ _ _ q2 (put _ _ _ _ R2)
/-! calls -/
theorem EW_call {pre : List PyData → (Own → PyData → Prop) → Prop} {E : XK} (q : AW K tr Γ fun bs Γ1 => pre (bs.map Prod.snd) fun s d => Q s d Γ1) : EW K (tCall (spV K pre) [] E tr) Γ Q := fun σ H L G S k => q σ H L _ S fun bs Γ1 vs H1 q1 l S1 => by
  obtain ⟨M, R, back⟩ := S1.lift (A := zipI vs bs)
  rw [List.append_nil]
  exact ⟨bs.map Prod.snd, M, _, by rw [l, List.length_map], Rp.fzZ l R, q1, fun s d v H' q2 R2 => k _ _ _ _ _ q2 (back H' [.ow s v d] R2)⟩
/-- a call that changes what its first argument, a name, holds -/
theorem EW_callM {pre : Own → PyData → List PyData → (Own → PyData → PyData → Prop) → Prop} {E : XK} {s0 : Own} (h : Γ[n]? = some b0) (hb : b0.bx = some (s0, d')) (q : AW K tr Γ fun bs Γ1 => AtB Γ1 n fun s d b => pre s d (bs.map Prod.snd) fun s2 r d2 => Q s2 r (Γ1.set n (b.to s d2))) : EW K (tCall (spM K pre) [] E (tCons (tVar n) tr)) Γ Q := fun σ H L G S k => by
  obtain ⟨w, M0, hw, R0, _, _⟩ := S.focus h hb
  refine ⟨w, hw, q σ H L _ S fun bs Γ1 vs H1 ⟨b, s, d, h2, hb2, q1⟩ l S1 => ?_⟩
  obtain ⟨w2, M, hw2, R, put, _⟩ := S1.focus h2 hb2
  rw [hw] at hw2; cases hw2
  have R1 : Rp K H1 (zipI vs bs ++ (.ow s w d :: (M ++ L))) := R.perm (by
    refine (List.Perm.cons _ ?_).trans List.perm_middle.symm
    rw [← List.append_assoc, ← List.append_assoc]
    exact List.perm_append_comm.append_right L)
  have R2 := (Rp.fzZ l R1).mid
  rw [List.append_nil]
  exact ⟨w, vs, s, d, bs.map Prod.snd, M ++ L, _, rfl, by rw [l, List.length_map], R2, q1, fun s2 r d2 v H' q2 R3 => k _ _ _ _ _ q2 (put _ _ _ _ (R3.flip.perm (List.Perm.cons _ List.perm_middle.symm)))⟩
/-! names that are read for a while -/
def fzF (fs : Flds) : Flds := fs.map fun f => (f.1, Own.lf, f.2.2)
def Sl.fz : Sl → Sl
  | .ob _ w C fs vs => .ob true w C (fzF fs) vs
  | .un => .un
  | .v _ d => .v .lf d
  | .pin w _ d => .pin w .lf d
  | .fact w F => .fact w F
def fzI : It → It
  | .ow _ v d => .ow .lf v d
  | .ob a o => .ps (fun H => H a = some o)
  | m => m
theorem fits_fz : ∀ (fs : Flds) (vs : List V), (fits fs vs).map fzI = fits (fzF fs) vs
  | [], _ => rfl
  | _ :: _, [] => rfl
  | f :: fs, v :: vs => by
    show fzI _ :: (fits fs vs).map fzI = _ :: fits (fzF fs) vs
    rw [fits_fz fs vs]; rfl
theorem fvals_fz : ∀ (fs : Flds) (vs : List V), fvals (fzF fs) vs = fvals fs vs
  | [], _ => rfl
  | _ :: _, [] => rfl
  | f :: fs, v :: vs => by
    show _ :: fvals (fzF fs) vs = _ :: fvals fs vs
    rw [fvals_fz fs vs]
theorem obI_fz (b : Bool) (a : Addr) (o : HO) : fzI (obI b a o) = obI true a o := by cases b <;> rfl
theorem Rp.obAt {o : HO} {a : Addr} (R : Rp K H (.ob a o :: L)) : H a = some o := by
  obtain ⟨_, _, h, t, r⟩ := R.inv
  cases h
  exact (r.all (.ob a o) List.mem_cons_self).1
theorem Rp.obIAt {b : Bool} {o : HO} {a : Addr} (R : Rp K H (obI b a o :: L)) : H a = some o := by
  cases b with
  | true => exact Rp.psAt (P := fun H => H a = some o) R
  | false => exact Rp.obAt R
theorem EnvR.fz (E : EnvR Γ σ I) : EnvR (Γ.map Sl.fz) σ (I.map fzI) := by
  induction E with
  | nil => exact .nil
  | un _ ih => exact .un ih
  | v _ ih => exact .v ih
  | pin _ ih => exact .pin ih
  | fact _ ih => exact .fact ih
  | @ob b E σ I a dx C vs fs e l ih =>
    have h := EnvR.ob (b := true) (a := a) (dx := dx) (C := C) (vs := vs) (fs := fzF fs) ih (by unfold fzF; rw [List.length_map]; exact l)
    rw [fvals_fz, ← fits_fz, ← obI_fz b, ← List.map_append, ← List.map_cons] at h
    exact h
theorem Rp.psS {F : Hp → Prop} (R : Rp K H L) (n : ∀ ps, UnIs K L ps → ∀ a, ¬ ows ps a) (m : ∀ H H', Same H H' → F H → F H') (h : F H) : Rp K H (.ps F :: L) := by
  obtain ⟨ps, u, r⟩ := R
  exact ⟨_, .cons (p := [_]) rfl u, r.addps m (by show F (wo H (ows ps)); rw [wo_no (n ps u)]; exact h)⟩
theorem Rp.psF {F : Hp → Prop} (R : Rp K H (.ps F :: L)) : (∀ H H', Same H H' → F H → F H') ∧ F H := by
  obtain ⟨_, ps, h1, u, r⟩ := R.inv
  cases h1
  exact ⟨(Rf.psK (P := F) r).1, R.psAt⟩
theorem fits_borrow : ∀ (fs : Flds) (vs : List V) {M X : List It}, Rp K H (fits fs vs ++ M) → Rp K H X → (∀ ps, UnIs K X ps → ∀ a, ¬ ows ps a) → Rp K H ((fits fs vs).map fzI ++ X) ∧ (∀ ps, UnIs K ((fits fs vs).map fzI ++ X) ps → ∀ a, ¬ ows ps a)
  | [], _, _, _, _, R, n => ⟨R, n⟩
  | _ :: _, [], _, _, _, R, n => ⟨R, n⟩
  | f :: fs, v :: vs, M, X, R, RX, n => by
    have R1 : Rp K H (.ow f.2.1 v f.2.2 :: (fits fs vs ++ M)) := R
    obtain ⟨h1, h2⟩ := fits_borrow fs vs (M := M) R1.tail RX n
    exact ⟨Rp.argS h1 h2 R1.dp, no_sh h2⟩
theorem EnvR.borrow (E : EnvR Γ σ I) : ∀ {L : List It}, Rp K H (I ++ L) → Rp K H (I.map fzI ++ [.ps (Same H)]) ∧ (∀ ps, UnIs K (I.map fzI ++ [.ps (Same H)]) ps → ∀ a, ¬ ows ps a) := by
  induction E with
  | nil => exact fun R => ⟨Rp.start, no_ps no_nil⟩
  | un _ ih => exact ih
  | v _ ih =>
    intro L R
    obtain ⟨h1, h2⟩ := ih (L := L) R.tail
    exact ⟨Rp.argS h1 h2 R.dp, no_sh h2⟩
  | pin _ ih =>
    intro L R
    obtain ⟨h1, h2⟩ := ih (L := L) R.tail
    exact ⟨Rp.argS h1 h2 R.dp, no_sh h2⟩
  | fact _ ih =>
    intro L R
    obtain ⟨h1, h2⟩ := ih (L := L) R.tail
    exact ⟨Rp.psS h1 h2 R.psF.1 R.psF.2, no_ps h2⟩
  | @ob b E σ I a dx C vs fs e l ih =>
    intro L R
    have R0 : Rp K H (obI b a (.ins C dx (fvals fs vs)) :: (fits fs vs ++ I ++ L)) := R
    have R1 : Rp K H (fits fs vs ++ (I ++ L)) := by rw [← List.append_assoc]; exact R0.tail
    have R2 : Rp K H (I ++ L) := by
      have : ∀ (A : List It), Rp K H (A ++ (I ++ L)) → Rp K H (I ++ L) := fun A => by
        induction A with
        | nil => exact id
        | cons m A ih => exact fun R => ih R.tail
      exact this _ R1
    obtain ⟨h1, h2⟩ := ih (L := L) R2
    obtain ⟨h3, h4⟩ := fits_borrow fs vs R1 h1 h2
    rw [List.map_cons, obI_fz, List.map_append, List.cons_append, List.append_assoc]
    exact ⟨Rp.psS h3 h4 (fun _ _ s e => s _ _ e) (Rp.obIAt R0), no_ps h4⟩
theorem EW_bor (q : EW K te (Γ.map Sl.fz) fun s d Γ1 => lfree s d ∧ Q s d Γ) : EW K te Γ Q := fun σ H L G ⟨I, E, R⟩ k => by
  obtain ⟨R1, _⟩ := E.borrow R
  refine q σ H [.ps (Same H)] G ⟨_, E.fz, R1⟩ fun s d Γ1 v H' ⟨hl, q1⟩ ⟨I2, E2, R2⟩ => ?_
  have R3 : Rp K H' (.ow s v d :: .ps (Same H) :: I2) := R2.perm (by
    refine List.perm_middle.trans (List.Perm.cons _ ?_)
    exact List.perm_append_comm (l₁ := I2) (l₂ := [.ps (Same H)]))
  obtain ⟨sm, N⟩ := R3.out
  exact k _ _ _ _ _ q1 ⟨I, E, (R.inn sm N hl).dim⟩
theorem TW_bor {Q : Bool → Ev → Prop} (q : TW K tt (Γ.map Sl.fz) fun c _ => Q c Γ) : TW K tt Γ Q := fun σ H L G ⟨I, E, R⟩ k => by
  obtain ⟨R1, _⟩ := E.borrow R
  refine q σ H [.ps (Same H)] G ⟨_, E.fz, R1⟩ fun c Γ1 H' q1 ⟨I2, E2, R2⟩ => ?_
  have R3 : Rp K H' (.sh (.bl c) (.bool c) :: .ps (Same H) :: I2) := Rp.bl (R2.perm (List.perm_append_comm (l₁ := I2) (l₂ := [.ps (Same H)]))) c
  obtain ⟨sm, N⟩ := R3.out
  exact k _ _ _ q1 ⟨I, E, R.same sm⟩
/-! a def -/
theorem EnvR.start : ∀ {vs : List V} {ds : List PyData}, vs.length = ds.length → EnvR (ds.map (Sl.v .lf)) (vs.map some) (each .lf vs ds)
  | [], [], _ => .nil
  | _ :: _, _ :: _, l => .v (EnvR.start (by simpa using l))
theorem EnvR.uns : ∀ {σ' : L2.St} {k : Nat}, EnvR Γ σ I → σ'.length = k → EnvR (Γ ++ List.replicate k .un) (σ ++ σ') I := fun {σ' k} E l => by
  induction E with
  | nil =>
    subst l
    induction σ' with
    | nil => exact .nil
    | cons x σ' ih => exact .un ih
  | un _ ih => exact .un ih
  | v _ ih => exact .v ih
  | pin _ ih => exact .pin ih
  | fact _ ih => exact .fact ih
  | @ob b E σ I a dx C vs fs e l2 ih => exact .ob ih l2
/-! the script -/
theorem EW_callS {pre : List Int → List PyData → (Own → PyData → Prop) → Prop} {E : XK} {a : Addr} {ns : List Int} (h : Γ[n]? = some (.fact (.ref a) fun H => SqL K H a (ns.map V.int))) (q : AW K tr Γ fun bs Γ1 => bs.length ≤ 100000 ∧ Γ1[n]? = some (.fact (.ref a) fun H => SqL K H a (ns.map V.int)) ∧ pre ns (bs.map Prod.snd) fun s d => Q s d Γ1) : EW K (tCall (spS K pre) [] E (tCons (tVar n) tr)) Γ Q := fun σ H L G S k => by
  refine ⟨_, (S.factAt h).1, q σ H L _ S fun bs Γ1 vs H1 ⟨_, h1, q1⟩ l S1 => ?_⟩
  obtain ⟨M, R, back⟩ := (S1.factM h1).lift (A := .ps (fun H => SqL K H a (ns.map V.int)) :: zipI vs bs)
  rw [List.append_nil]
  have R1 : Rp K H1 (zipI vs bs ++ .ps (fun H => SqL K H a (ns.map V.int)) :: M) := Rp.dim R
  exact ⟨a, ns, vs, bs.map Prod.snd, M, _, rfl, by rw [l, List.length_map], (Rp.fzZ l R1).mid, q1, fun s d v H' q2 R2 => k _ _ _ _ _ q2 (back H' [.ow s v d] R2)⟩
theorem EW_lenScr {a : Addr} {ns : List Int} (h : Γ[n]? = some (.fact (.ref a) fun H => SqL K H a (ns.map V.int))) (q : Q .lf (.int (ns.length : Nat)) Γ) : EW K (tCB (rLenSeq K) (tCons (tVar n) tNil)) Γ Q := fun σ H L G S k =>
  ⟨_, (S.factAt h).1, a, _, rfl, .inl (S.factAt h).2, by rw [List.length_map]; exact k _ _ _ _ _ q (S.flat (.int _) rfl)⟩
theorem EW_ixScr {a : Addr} {ns : List Int} (h : Γ[n]? = some (.fact (.ref a) fun H => SqL K H a (ns.map V.int))) (q : EW K ti Γ fun _ e Γ1 => ∃ i, e = .int i ∧ Γ1[n]? = some (.fact (.ref a) fun H => SqL K H a (ns.map V.int)) ∧ 0 ≤ i ∧ i < ns.length ∧ Q .lf (.int (ns.getD i.toNat 0)) Γ1) : EW K (tOp (rIxL K) (tVar n) ti) Γ Q := fun σ H L G S k => by
  refine ⟨_, (S.factAt h).1, q σ H L _ S fun s e Γ1 y H1 ⟨i, e1, h1, i0, i1, q1⟩ S1 => ?_⟩
  subst e1
  obtain rfl := S1.int'
  have S2 := S1.tail
  refine ⟨a, _, i, _, rfl, rfl, (S2.factAt h1).2, ?_, k _ _ _ _ _ q1 (S2.flat (.int _) rfl)⟩
  obtain ⟨j, rfl⟩ : ∃ j : Nat, i = j := ⟨i.toNat, by omega⟩
  refine atI_nat ?_
  rw [List.getElem?_map, Int.toNat_natCast, List.getD_eq_getElem?_getD, List.getElem?_eq_getElem (by omega)]; rfl
theorem EW_slScr {tl th : L2.St → Hp → (Option Int → Hp → Prop) → Prop} {a : Addr} {ns : List Int} {lo hi : Option Int} (h : Γ[n]? = some (.fact (.ref a) fun H => SqL K H a (ns.map V.int))) (h1 : ∀ (σ : L2.St) (H : Hp) (G : Option Int → Hp → Prop), G lo H → tl σ H G) (h2 : ∀ (σ : L2.St) (H : Hp) (G : Option Int → Hp → Prop), G hi H → th σ H G)
    (q : ∀ ms : List Int, ms.length ≤ ns.length → (∀ z ∈ ms, z ∈ ns) → ms.map V.int = cutV (ns.map V.int) lo hi → Q (.li .lf) (IL ms) Γ) : EW K (tSl (rSlL K) (tVar n) tl th) Γ Q := fun σ H L G S k => by
  refine ⟨_, (S.factAt h).1, h1 σ H _ (h2 σ H _ ⟨a, _, rfl, (S.factAt h).2, fun p np => ?_⟩)⟩
  obtain ⟨ms, e, l⟩ := cutV_int ns lo hi
  have hm : ∀ z ∈ ms, z ∈ ns := fun z hz => by
    have : V.int z ∈ cutV (ns.map V.int) lo hi := by rw [e]; exact List.mem_map.mpr ⟨z, hz, rfl⟩
    unfold cutV at this
    have := List.mem_of_mem_drop (List.mem_of_mem_take this)
    obtain ⟨y, hy, e2⟩ := List.mem_map.mp this
    cases e2
    exact hy
  obtain ⟨I, E, R⟩ := S
  rw [e]
  exact k _ _ _ _ _ (q ms l hm e.symm) ⟨I, E, (Rp.mkI R np).dim⟩
end
/-! ### boxes: defs, operations on data -/
section
variable {P : Program} {wd : World} {K : PySem.W.Frag} {mg : Str → Option Value} {base : Heap}
theorem stt_out {K : PySem.W.Frag} {Γ : Ev} {σ : L2.St} {H : Hp} {L : List It} {s : Own} {v : V} {d : PyData} (S : Stt K Γ σ H (.ow s v d :: L)) : Rp K H (.ow s v d :: L) := by
  obtain ⟨I, E, R⟩ := S
  exact R.dropL
/-- a def by boxes -/
theorem okV {pre : List PyData → (Own → PyData → Prop) → Prop} {x qual : Str} {st : Stmt} {f : Addr} {fd : FuncData} {N ps : List Str} {k : Nat} (F : Fun K x qual st f fd) (S : FnScope N ps (defScope st)) (l : ∀ ds Q, pre ds Q → ds.length = ps.length)
    (hb : ∀ (cdv : Value) (A : Around) (outer : List Env) (s : Shared) (H : Hp) (E : XK), Room k (A.deeper (envOfC qual (defScope st) s.heap.objs.size f cdv)) → ∃ t, PSs (cxOf CX0 P wd K mg base N qual (defScope st) f cdv A outer s H E).nox (defBody st) t ∧
      ∀ ds Q, pre ds Q → SW K t (ds.map (Sl.v .lf) ++ List.replicate (N.length - ds.length) .un) { nx := fun _ => Q .lf .none, rt := fun s d _ => Q s d }) : FnOk P wd K mg base CX0 (k + 1) f fd ps (spV K pre) := by
  refine F.ok S (fun vs H G E ⟨ds, L, Q, l1, _, hp, _⟩ => l1.trans (l ds Q hp)) (fun cdv A outer s H vs G E hr ⟨ds, L, Q, l1, R, hp, kk⟩ => ?_)
  obtain ⟨t, h1, h2⟩ := hb cdv A outer s H E hr
  refine ⟨t, h1, h2 ds Q hp (start N vs) H L _ ⟨each .lf vs ds, (EnvR.start l1).uns (by rw [l1, List.length_replicate]), R⟩ ⟨fun Γ' σ' H' q S' => ?_, fun s d Γ' σ' v H' q S' => kk s d v H' q (stt_out S'), fun _ _ _ q => q.elim, fun _ _ _ q => q.elim, fun _ _ => trivial⟩⟩
  exact kk _ _ _ _ q (stt_out (S'.flat .non rfl))
/-- its first argument is changed -/
theorem okM {pre : Own → PyData → List PyData → (Own → PyData → PyData → Prop) → Prop} {x qual : Str} {st : Stmt} {f : Addr} {fd : FuncData} {N ps : List Str} {k : Nat} (F : Fun K x qual st f fd) (S : FnScope N ps (defScope st)) (l : ∀ s d ds Q, pre s d ds Q → ds.length + 1 = ps.length)
    (hb : ∀ (cdv : Value) (A : Around) (outer : List Env) (s : Shared) (H : Hp) (E : XK), Room k (A.deeper (envOfC qual (defScope st) s.heap.objs.size f cdv)) → ∃ t, PSs (cxOf CX0 P wd K mg base N qual (defScope st) f cdv A outer s H E).nox (defBody st) t ∧
      ∀ w s d ds Q, pre s d ds Q → SW K t (.pin w s d :: (ds.map (Sl.v .lf) ++ List.replicate (N.length - (ds.length + 1)) .un)) { nx := fun Γ => ∃ d', Γ[0]? = some (.pin w s d') ∧ Q .lf .none d', rt := fun s2 r Γ => ∃ d', Γ[0]? = some (.pin w s d') ∧ Q s2 r d' }) : FnOk P wd K mg base CX0 (k + 1) f fd ps (spM K pre) := by
  refine F.ok S (fun vs H G E ⟨w, us, s, d, ds, L, Q, e, l1, _, hp, _⟩ => by rw [e, List.length_cons, l1]; exact l s d ds Q hp) (fun cdv A outer s0 H vs G E hr ⟨w, us, s, d, ds, L, Q, e, l1, R, hp, kk⟩ => ?_)
  subst e
  obtain ⟨t, h1, h2⟩ := hb cdv A outer s0 H E hr
  have fin : ∀ {Γ' σ' H' L' s2 r v d'}, Γ'[0]? = some (.pin w s d') → Stt K Γ' σ' H' (.ow s2 v r :: L') → Rp K H' (.ow s2 v r :: .ow s w d' :: L') := fun {Γ' σ' H' L' s2 r v d'} h S' => by
    obtain ⟨I, E, R2⟩ := S'
    cases E with
    | nil => simp at h
    | un E => simp at h
    | v E => simp at h
    | fact E => simp at h
    | ob E l => simp at h
    | pin E =>
      simp at h
      obtain ⟨rfl, rfl, rfl⟩ := h
      exact (R2.perm (List.perm_middle.symm.trans ((List.Perm.swap _ _ _).append_left _))).dropL
  refine ⟨t, h1, h2 w s d ds Q hp (start N (w :: us)) H L _ ⟨.ow s w d :: each .lf us ds, .pin ((EnvR.start l1).uns (by rw [List.length_cons, l1, List.length_replicate])), R⟩ ⟨fun Γ' σ' H' ⟨d', h, q⟩ S' => ?_, fun s2 r Γ' σ' v H' ⟨d', h, q⟩ S' => kk _ _ _ _ _ q (fin h S'), fun _ _ _ q => q.elim, fun _ _ _ q => q.elim, fun _ _ => trivial⟩⟩
  exact kk _ _ _ _ _ q (fin h (S'.flat .non rfl))
/-- its first argument is the script -/
theorem okS {pre : List Int → List PyData → (Own → PyData → Prop) → Prop} {x qual : Str} {st : Stmt} {f : Addr} {fd : FuncData} {N ps : List Str} {k : Nat} (F : Fun K x qual st f fd) (S : FnScope N ps (defScope st)) (l : ∀ ns ds Q, pre ns ds Q → ds.length + 1 = ps.length)
    (hb : ∀ (cdv : Value) (A : Around) (outer : List Env) (s : Shared) (H : Hp) (E : XK), Room k (A.deeper (envOfC qual (defScope st) s.heap.objs.size f cdv)) → ∃ t, PSs (cxOf CX0 P wd K mg base N qual (defScope st) f cdv A outer s H E).nox (defBody st) t ∧
      ∀ a ns ds Q, pre ns ds Q → SW K t (.fact (.ref a) (fun H => SqL K H a (ns.map V.int)) :: (ds.map (Sl.v .lf) ++ List.replicate (N.length - (ds.length + 1)) .un)) { nx := fun _ => Q .lf .none, rt := fun s d _ => Q s d }) : FnOk P wd K mg base CX0 (k + 1) f fd ps (spS K pre) := by
  refine F.ok S (fun vs H G E ⟨a, ns, us, ds, L, Q, e, l1, _, hp, _⟩ => by rw [e, List.length_cons, l1]; exact l ns ds Q hp) (fun cdv A outer s0 H vs G E hr ⟨a, ns, us, ds, L, Q, e, l1, R, hp, kk⟩ => ?_)
  subst e
  obtain ⟨t, h1, h2⟩ := hb cdv A outer s0 H E hr
  refine ⟨t, h1, h2 a ns ds Q hp (start N (.ref a :: us)) H L _ ⟨.ps _ :: each .lf us ds, .fact ((EnvR.start l1).uns (by rw [List.length_cons, l1, List.length_replicate])), R⟩ ⟨fun Γ' σ' H' q S' => ?_, fun s d Γ' σ' v H' q S' => kk s d v H' q (stt_out S'), fun _ _ _ q => q.elim, fun _ _ _ q => q.elim, fun _ _ => trivial⟩⟩
  exact kk _ _ _ _ q (stt_out (S'.flat .non rfl))
/-- the law -/
def spL (K : PySem.W.Frag) : Sp := fun vs H Q _ => ∃ (a : Addr) (ns : List Int), vs = [.ref a] ∧ SqL K H a (ns.map V.int) ∧ ns.length ≤ 63 ∧ ∀ H', Q (.bl true) H'
theorem okL {x qual : Str} {st : Stmt} {f : Addr} {fd : FuncData} {N ps : List Str} {k : Nat} (F : Fun K x qual st f fd) (S : FnScope N ps (defScope st)) (l : 1 = ps.length)
    (hb : ∀ (cdv : Value) (A : Around) (outer : List Env) (s : Shared) (H : Hp) (E : XK), Room k (A.deeper (envOfC qual (defScope st) s.heap.objs.size f cdv)) → ∃ t, PSs (cxOf CX0 P wd K mg base N qual (defScope st) f cdv A outer s H E).nox (defBody st) t ∧
      ∀ a (ns : List Int), ns.length ≤ 63 → SW K t (.fact (.ref a) (fun H => SqL K H a (ns.map V.int)) :: List.replicate (N.length - 1) .un) { nx := fun _ => False, rt := fun _ d _ => d = .bool true }) : FnOk P wd K mg base CX0 (k + 1) f fd ps (spL K) := by
  refine F.ok S (fun vs H G E ⟨a, ns, e, _⟩ => by rw [e]; exact l) (fun cdv A outer s0 H vs G E hr ⟨a, ns, e, hS, l1, kk⟩ => ?_)
  subst e
  obtain ⟨t, h1, h2⟩ := hb cdv A outer s0 H E hr
  refine ⟨t, h1, h2 a ns l1 (start N [.ref a]) H [] _ ⟨[.ps _], .fact (EnvR.uns .nil (by rw [List.length_replicate]; rfl)), Rp.arg0 hS⟩ ⟨fun Γ' σ' H' q S' => q.elim, fun s d Γ' σ' v H' q S' => ?_, fun _ _ _ q => q.elim, fun _ _ _ q => q.elim, fun _ _ => trivial⟩⟩
  subst q
  have R := stt_out S'
  obtain rfl := sh_bl R
  exact kk H'
/-- a def by boxes, its code object known -/
theorem okVc {pre : List PyData → (Own → PyData → Prop) → Prop} {x qual : Str} {st : Stmt} {f : Addr} {fd : FuncData} {N ps : List Str} {k : Nat} (F : Fun K x qual st f fd) (S : FnScope N ps (defScope st)) (l : ∀ ds Q, pre ds Q → ds.length = ps.length)
    (hb : ∀ (cdv : Value), PySem.W.codeIn K cdv qual = true → ∀ (A : Around) (outer : List Env) (s : Shared) (H : Hp) (E : XK), Room k (A.deeper (envOfC qual (defScope st) s.heap.objs.size f cdv)) → ∃ t, PSs (cxOf CX0 P wd K mg base N qual (defScope st) f cdv A outer s H E).nox (defBody st) t ∧
      ∀ ds Q, pre ds Q → SW K t (ds.map (Sl.v .lf) ++ List.replicate (N.length - ds.length) .un) { nx := fun _ => Q .lf .none, rt := fun s d _ => Q s d }) : FnOk P wd K mg base CX0 (k + 1) f fd ps (spV K pre) := by
  have ⟨_, _, _, _, _, _, cdv, _, _, e, lk, hcd⟩ := F.ex
  subst e
  refine fn_of lk hcd S (fun vs H G E ⟨ds, L, Q, l1, _, hp, _⟩ => l1.trans (l ds Q hp)) fun A outer s H vs G E hr ⟨ds, L, Q, l1, R, hp, kk⟩ => ?_
  obtain ⟨t, h1, h2⟩ := hb cdv hcd A outer s H E hr
  refine ⟨t, h1.nox, h2 ds Q hp (start N vs) H L _ ⟨each .lf vs ds, (EnvR.start l1).uns (by rw [l1, List.length_replicate]), R⟩ ⟨fun Γ' σ' H' q S' => ?_, fun s d Γ' σ' v H' q S' => kk s d v H' q (stt_out S'), fun _ _ _ q => q.elim, fun _ _ _ q => q.elim, fun _ _ => trivial⟩⟩
  exact kk _ _ _ _ q (stt_out (S'.flat .non rfl))
end
/-! ### boxes: operations on data -/
section
variable {K : PySem.W.Frag} {Γ Γ1 : Ev} {σ : L2.St} {H H' : Hp} {L L' I : List It} {s s' s1 : Own} {d d' e : PyData} {ds es : List PyData} {w x y v : V} {n m : Nat} {b b0 : Sl} {te ta tb tc ti tj : TE} {tt tu : TT} {tr tr2 : TA} {i j : Int} {Q : Own → PyData → Prop} {QE : Own → PyData → Ev → Prop} {P : Po}
theorem OW_II {g : Int → Int → Int} (q : Q .lf (.int (g i j))) : OW K (rI0 fun i j => .int (g i j)) s (.int i) s' (.int j) Q := fun H L G x y R k => by
  obtain rfl := sh_int R
  obtain rfl := sh_int R.tail
  exact ⟨i, j, rfl, rfl, k _ _ _ _ q (R.tail.tail.int _)⟩
theorem OW_IB {g : Int → Int → Bool} (q : Q .lf (.bool (g i j))) : OW K (rI0 fun i j => .bl (g i j)) s (.int i) s' (.int j) Q := fun H L G x y R k => by
  obtain rfl := sh_int R
  obtain rfl := sh_int R.tail
  exact ⟨i, j, rfl, rfl, k _ _ _ _ q (R.tail.tail.bl _)⟩
theorem OW_CI {C : Int → Int → Prop} {g : Int → Int → Int} (c : C i j) (q : Q .lf (.int (g i j))) : OW K (rI C fun i j => .int (g i j)) s (.int i) s' (.int j) Q := fun H L G x y R k => by
  obtain rfl := sh_int R
  obtain rfl := sh_int R.tail
  exact ⟨i, j, rfl, rfl, c, k _ _ _ _ q (R.tail.tail.int _)⟩
theorem OW_eqI (q : Q .lf (.bool (decide (i = j)))) : OW K rEq s (.int i) s' (.int j) Q := fun H L G x y R k => by
  obtain rfl := sh_int R
  obtain rfl := sh_int R.tail
  exact g_eqI (k _ _ _ _ q (R.tail.tail.bl _))
theorem OW_neI (q : Q .lf (.bool (!decide (i = j)))) : OW K rNe s (.int i) s' (.int j) Q := fun H L G x y R k => by
  obtain rfl := sh_int R
  obtain rfl := sh_int R.tail
  exact g_neI (k _ _ _ _ q (R.tail.tail.bl _))
theorem OW_eqB {a b : Bool} (q : Q .lf (.bool (decide (a = b)))) : OW K rEq s (.bool a) s' (.bool b) Q := fun H L G x y R k => by
  obtain rfl := sh_bl R
  obtain rfl := sh_bl R.tail
  exact g_eqB (k _ _ _ _ q (R.tail.tail.bl _))
theorem OW_neB {a b : Bool} (q : Q .lf (.bool (!decide (a = b)))) : OW K rNe s (.bool a) s' (.bool b) Q := fun H L G x y R k => by
  obtain rfl := sh_bl R
  obtain rfl := sh_bl R.tail
  exact g_neB (k _ _ _ _ q (R.tail.tail.bl _))
theorem OW_eqS {a b : Str} (q : Q .lf (.bool (decide (a = b)))) : OW K rEq s (.str a) s' (.str b) Q := fun H L G x y R k => by
  obtain rfl := sh_str R
  obtain rfl := sh_str R.tail
  exact ⟨rfl, by
    have e : decide (V.str a = V.str b) = decide (a = b) := by simp
    rw [e]; exact k _ _ _ _ q (R.tail.tail.bl _)⟩
theorem OW_neS {a b : Str} (q : Q .lf (.bool (!decide (a = b)))) : OW K rNe s (.str a) s' (.str b) Q := fun H L G x y R k => by
  obtain rfl := sh_str R
  obtain rfl := sh_str R.tail
  exact ⟨rfl, by
    have e : decide (V.str a = V.str b) = decide (a = b) := by simp
    rw [e]; exact k _ _ _ _ q (R.tail.tail.bl _)⟩
theorem OW_addS {a b : Str} (z : a.length + b.length ≤ sizeLine) (q : Q .lf (.str (a ++ b))) : OW K rAddS s (.str a) s' (.str b) Q := fun H L G x y R k => by
  obtain rfl := sh_str R
  obtain rfl := sh_str R.tail
  exact ⟨a, b, rfl, rfl, z, k _ _ _ _ q (R.tail.tail.str _)⟩
/-- is it None -/
class NnC (d : PyData) (b : outParam Bool) : Prop where pf : ∀ (K : PySem.W.Frag) (H : Hp) (x : V), Dq K H x d → decide (x = .non) = b
instance : NnC .none true := ⟨fun K H x h => by cases h; rfl⟩
instance : NnC (.int i) false := ⟨fun K H x h => by cases h; rfl⟩
instance {c : Bool} : NnC (.bool c) false := ⟨fun K H x h => by cases h; rfl⟩
instance {z : Str} : NnC (.str z) false := ⟨fun K H x h => by cases h; rfl⟩
instance : NnC (.list ds) false := ⟨fun K H x h => by cases h; rfl⟩
instance : NnC (.tuple ds) false := ⟨fun K H x h => by cases h; rfl⟩
theorem OM_isN {b : Bool} [h : NnC d b] (q : Q .lf (.bool b)) : OM K rIsN d .none Q := fun H L G x y s s' R m1 m2 k => by
  have h2 := R.dpOf m2
  cases h2
  exact ⟨rfl, by rw [h.pf K H x (R.dpOf m1)]; exact k _ _ _ _ q (R.bl _)⟩
theorem OM_notN {b : Bool} [h : NnC d b] (q : Q .lf (.bool (!b))) : OM K rNotN d .none Q := fun H L G x y s s' R m1 m2 k => by
  have h2 := R.dpOf m2
  cases h2
  exact ⟨rfl, by rw [h.pf K H x (R.dpOf m1)]; exact k _ _ _ _ q (R.bl _)⟩
/-! comparing data -/
class EqF {α : Type} [DecidableEq α] (f : α → PyData) : Prop where
  sh : ∀ x, Sh 20 (f x)
  eq : ∀ x y, PyData.eqv (f x) (f y) = decide (x = y)
instance : EqF PyData.int := ⟨fun _ => Sh.int, fun x y => by
  show (decide (x = y)) = decide (x = y)
  rfl⟩
instance : EqF FD := ⟨fun _ => Sh.fd.mono (by decide), FD_eqv⟩
instance : EqF IL := ⟨fun _ => Sh.il.mono (by decide), IL_eqv⟩
instance : EqF CD := ⟨fun _ => Sh.cd.mono (by decide), CD_eqv⟩
class EqC (d e : PyData) (b : outParam Bool) : Prop where
  s1 : SeqAt.shaped d = true
  s2 : SeqAt.shaped e = true
  eq : PyData.eqv d e = b
instance (priority := 900) {x y : Rat} : EqC (FD x) (FD y) (decide (x = y)) := ⟨Sh.fd.ok, Sh.fd.ok, FD_eqv x y⟩
theorem sh_of {α : Type} [DecidableEq α] {f : α → PyData} [h : EqF f] (xs : List α) : SeqAt.shaped (.list (xs.map f)) = true := Sh.ok (n := 21) (Sh.lst fun d hd => by
  obtain ⟨x, _, rfl⟩ := List.mem_map.mp hd
  exact h.sh x)
instance (priority := 800) {α : Type} [DecidableEq α] {f : α → PyData} [h : EqF f] {xs ys : List α} : EqC (.list (xs.map f)) (.list (ys.map f)) (decide (xs = ys)) := ⟨sh_of xs, sh_of ys, LM_eqv f h.eq xs ys⟩
instance (priority := 900) {α : Type} [DecidableEq α] {f : α → PyData} [h : EqF f] {xs : List α} : EqC (.list (xs.map f)) (.list []) (decide (xs = [])) := ⟨sh_of xs, rfl, LM_eqv f h.eq xs []⟩
theorem eqv_FL (x y : List Rat) : PyData.eqv (FL x) (FL y) = decide (x = y) := LM_eqv FD FD_eqv x y
instance : EqF FL := ⟨fun _ => Sh.fl.mono (by decide), eqv_FL⟩
theorem eqv_LD (x y : List (List Int)) : PyData.eqv (LD x) (LD y) = decide (x = y) := LM_eqv IL IL_eqv x y
instance : EqF LD := ⟨fun _ => Sh.ld.mono (by decide), eqv_LD⟩
theorem eqv_TD (x y : List (List Rat)) : PyData.eqv (TD x) (TD y) = decide (x = y) := LM_eqv FL eqv_FL x y
instance (priority := 950) {x y : List (List Rat)} : EqC (TD x) (TD y) (decide (x = y)) := ⟨Sh.td.ok, Sh.td.ok, eqv_TD x y⟩
instance (priority := 950) {x y : List (List Int × Rat)} : EqC (WD x) (WD y) (decide (x = y)) := ⟨Sh.wd.ok, Sh.wd.ok, LM_eqv CD CD_eqv x y⟩
instance (priority := 950) {x y : List (List Int)} : EqC (LD x) (LD y) (decide (x = y)) := ⟨Sh.ld.ok, Sh.ld.ok, eqv_LD x y⟩
instance (priority := 950) {x y : List Int} : EqC (IL x) (IL y) (decide (x = y)) := ⟨Sh.il.ok, Sh.il.ok, IL_eqv x y⟩
instance (priority := 850) {a b c d : Int} : EqC (.tuple [.int a, .int b]) (.tuple [.int c, .int d]) (decide (a = c ∧ b = d)) := ⟨rfl, rfl, by
  show (decide (a = c) && (decide (b = d) && true)) = decide (a = c ∧ b = d)
  by_cases h1 : a = c <;> by_cases h2 : b = d <;> simp [h1, h2]⟩
theorem OM_eqD {b : Bool} [h : EqC d e b] (q : Q .lf (.bool b)) : OM K (rEqD K) d e Q := fun H L G x y s s' R m1 m2 k => g_eqR R m1 m2 h.s1 h.s2 (by rw [h.eq]; exact k _ _ _ _ q (R.bl _))
theorem OM_neD {b : Bool} [h : EqC d e b] (q : Q .lf (.bool (!b))) : OM K (rNeD K) d e Q := fun H L G x y s s' R m1 m2 k => g_neR R m1 m2 h.s1 h.s2 (by rw [h.eq]; exact k _ _ _ _ q (R.bl _))
theorem OM_eqX {b : Bool} (h1 : SeqAt.shaped d = true) (h2 : SeqAt.shaped e = true) (h : PyData.eqv d e = b) (q : Q .lf (.bool b)) : OM K (rEqD K) d e Q := fun H L G x y s s' R m1 m2 k => g_eqR R m1 m2 h1 h2 (by rw [h]; exact k _ _ _ _ q (R.bl _))
theorem OM_neX {b : Bool} (h1 : SeqAt.shaped d = true) (h2 : SeqAt.shaped e = true) (h : PyData.eqv d e = b) (q : Q .lf (.bool (!b))) : OM K (rNeD K) d e Q := fun H L G x y s s' R m1 m2 k => g_neR R m1 m2 h1 h2 (by rw [h]; exact k _ _ _ _ q (R.bl _))
/-! membership -/
theorem OM_in {ns : List Int} (q : Q .lf (.bool (decide (i ∈ ns)))) : OM K (rIn K false) (.int i) (IL ns) Q := fun H L G x y s s' R m1 m2 k => by
  have h1 := R.dpOf m1
  cases h1
  have h2 := R.dpOf m2
  obtain ⟨a, xs, rfl, _, _⟩ := h2.lstI
  exact g_inR R m2 (k _ _ _ _ q (R.bl _))
theorem OM_ni {ns : List Int} (q : Q .lf (.bool (!decide (i ∈ ns)))) : OM K (rIn K true) (.int i) (IL ns) Q := fun H L G x y s s' R m1 m2 k => by
  have h1 := R.dpOf m1
  cases h1
  have h2 := R.dpOf m2
  obtain ⟨a, xs, rfl, _, _⟩ := h2.lstI
  exact g_niR R m2 (k _ _ _ _ q (R.bl _))
theorem dq_ints {xs : List V} : ∀ {ns : List Int}, DqAll K H xs (ns.map PyData.int) → xs = ns.map V.int := fun {ns} h => by
  induction ns generalizing xs with
  | nil => cases h; rfl
  | cons i ns ih =>
    cases h with
    | cons h1 h2 =>
      cases h1
      rw [ih h2]; rfl
theorem OM_inT {ns : List Int} (q : Q .lf (.bool (decide (i ∈ ns)))) : OM K (rIn K false) (.int i) (.tuple (ns.map PyData.int)) Q := fun H L G x y s s' R m1 m2 k => by
  have h1 := R.dpOf m1
  cases h1
  obtain ⟨a, xs, rfl, h3, h4⟩ := (R.dpOf m2).tupI
  rw [dq_ints h4] at h3
  exact ⟨a, _, rfl, .inr h3, rfl, flat_ints, by rw [inV_int]; exact k _ _ _ _ q (R.bl _)⟩
theorem OM_niT {ns : List Int} (q : Q .lf (.bool (!decide (i ∈ ns)))) : OM K (rIn K true) (.int i) (.tuple (ns.map PyData.int)) Q := fun H L G x y s s' R m1 m2 k => by
  have h1 := R.dpOf m1
  cases h1
  obtain ⟨a, xs, rfl, h3, h4⟩ := (R.dpOf m2).tupI
  rw [dq_ints h4] at h3
  exact ⟨a, _, rfl, .inr h3, rfl, flat_ints, by rw [inV_int]; exact k _ _ _ _ q (R.bl _)⟩
theorem OM_inD {α : Type} [DecidableEq α] {f : α → PyData} [h : EqF f] {c : α} {cs : List α} {dec : Decidable (c ∈ cs)} (q : Q .lf (.bool (@decide (c ∈ cs) dec))) : OM K (rInD K) (f c) (.list (cs.map f)) Q := fun H L G x y s s' R m1 m2 k => g_inDR R m1 m2 ((h.sh c).ok (by decide)) (sh_of cs) (by rw [show ((cs.map f).any fun z => PyData.eqv z (f c)) = @decide (c ∈ cs) dec from (any_map_eqv f h.eq cs c).trans (decide_eq_decide.mpr Iff.rfl)]; exact k _ _ _ _ q (R.bl _))
theorem OM_niD {α : Type} [DecidableEq α] {f : α → PyData} [h : EqF f] {c : α} {cs : List α} {dec : Decidable (c ∈ cs)} (q : Q .lf (.bool (!@decide (c ∈ cs) dec))) : OM K (rNotInD K) (f c) (.list (cs.map f)) Q := fun H L G x y s s' R m1 m2 k => g_niDR R m1 m2 ((h.sh c).ok (by decide)) (sh_of cs) (by rw [show ((cs.map f).any fun z => PyData.eqv z (f c)) = @decide (c ∈ cs) dec from (any_map_eqv f h.eq cs c).trans (decide_eq_decide.mpr Iff.rfl)]; exact k _ _ _ _ q (R.bl _))
/-! places -/
theorem atI_len {xs : List V} {i : Int} (l : xs.length = ds.length) (h : atI ds i = some d) : ∃ (k : Nat) (v : V), atI xs i = some v ∧ xs[k]? = some v ∧ ds[k]? = some d := by
  unfold atI at h ⊢
  rw [l]
  cases e : ixN ds.length i with
  | none => rw [e] at h; cases h
  | some k =>
    rw [e] at h
    have h : ds[k]? = some d := h
    have hk := (List.getElem?_eq_some_iff.mp h).1
    exact ⟨k, xs[k]'(by omega), List.getElem?_eq_getElem (by omega), List.getElem?_eq_getElem (by omega), h⟩
theorem OW_ixL (h : atI ds i = some d) (q : Q .lf d) : OW K (rIxL K) s (.list ds) s' (.int i) Q := fun H L G x y R k => by
  obtain rfl := sh_int R.tail
  obtain ⟨a, xs, rfl, l, hs, R2⟩ := R.fz.sv mem_here
  obtain ⟨m, v, h1, h2, h3⟩ := atI_len l h
  exact ⟨a, xs, i, v, rfl, rfl, SqL.of hs, h1, k _ _ _ _ q ((R2.svAt mem_here h2 h3).wk (.take .here (.drop (.drop (.drop .refl)))))⟩
theorem OW_ixT (h : atI ds i = some d) (q : Q .lf d) : OW K (rIxT K) s (.tuple ds) s' (.int i) Q := fun H L G x y R k => by
  obtain rfl := sh_int R.tail
  obtain ⟨a, xs, rfl, l, hs, R2⟩ := R.fz.tv mem_here
  obtain ⟨m, v, h1, h2, h3⟩ := atI_len l h
  exact ⟨a, xs, i, v, rfl, rfl, hs, h1, k _ _ _ _ q ((R2.tvAt mem_here h2 h3).wk (.take .here (.drop (.drop (.drop .refl)))))⟩
/-- what stands at a place of a name's list, where its things are shared -/
theorem EW_ixO {s0 : Own} {d0 : PyData} (h : Γ[n]? = some b0) (hb : b0.bx = some (s0, d0)) (q : EW K ti Γ fun _ e Γ2 => AtB Γ2 n fun s d _ => ∃ ds i d', d = .list ds ∧ e = .int i ∧ atI ds i = some d' ∧ (s = .lf ∨ s = .li .lf) ∧ QE .lf d' Γ2) : EW K (tOp (rIxL K) (tVar n) ti) Γ QE := fun σ H L G S k => by
  obtain ⟨w, M0, hw, R0, _, _⟩ := S.focus h hb
  refine ⟨w, hw, q σ H L _ S fun s' e Γ2 y H2 ⟨b, s, d, h2, hb2, ds, i, d', e1, e2, e3, e4, q1⟩ S2 => ?_⟩
  subst e1 e2
  obtain rfl := S2.int'
  have S2 := S2.tail
  obtain ⟨w2, M, hw2, R, put, _⟩ := S2.focus h2 hb2
  rw [hw] at hw2; cases hw2
  rcases e4 with rfl | rfl
  · obtain ⟨a, xs, rfl, l, hs, R2⟩ := R.sv mem_here
    obtain ⟨m, v, h1, h2', h3⟩ := atI_len l e3
    refine ⟨a, xs, i, v, rfl, rfl, SqL.of hs, h1, k _ _ _ _ _ q1 (Stt.keep h2 hb2 put _ _ ?_)⟩
    exact ((R2.svAt mem_here h2' h3).wk (.take .here (.drop .refl))).swq
  · obtain ⟨a, xs, rfl, l, R1⟩ := R.take
    have ea := R1.topAt
    obtain ⟨m, v, h1, h2', h3⟩ := atI_len l e3
    obtain ⟨_, _, x, ev, e5, _, e6, R3⟩ := R.owAt mem_here h3
    cases ev
    rw [ea] at e5
    cases e5
    rw [h2'] at e6
    cases e6
    exact ⟨a, xs, i, v, rfl, rfl, SqL.of ea, h1, k _ _ _ _ _ q1 (Stt.keep h2 hb2 put _ _ R3.swq)⟩
/-- lists told by a place: what is asked, what stands there -/
class IxC (ds : List PyData) (i : Int) (c : outParam Prop) (r : outParam PyData) : Prop where pf : c → atI ds i = some r
theorem atI_toNat (h0 : 0 ≤ i) (h : ds[i.toNat]? = some d) : atI ds i = some d := by
  have := atI_nat h
  rwa [Int.toNat_of_nonneg h0] at this
def rowG {α : Type} (n : Nat) (f : Nat → α) : List α := (List.range n).map f
theorem rowG_len {α : Type} {n : Nat} {f : Nat → α} : (rowG n f).length = n := by unfold rowG; rw [List.length_map, List.length_range]
theorem rowG_at {α : Type} {n k : Nat} {f : Nat → α} (h : k < n) : (rowG n f)[k]? = some (f k) := by unfold rowG; rw [List.getElem?_map, List.getElem?_range h]; rfl
theorem tabG_at {α : Type} {n k : Nat} {g : Nat → Nat → α} (h : k < n) : (tabG n g)[k]? = some (rowG n (g k)) := by unfold tabG rowG; rw [List.getElem?_map, List.getElem?_range h]; rfl
instance (priority := 900) {α : Type} {g : Nat → Nat → α} {k : Nat} {F : List α → PyData} : IxC ((tabG n g).map F) ((k : Nat) : Int) (k < n) (F (rowG n (g k))) := ⟨fun h => atI_nat (by rw [List.getElem?_map, tabG_at h]; rfl)⟩
instance (priority := 850) {α : Type} {g : Nat → Nat → α} {F : List α → PyData} : IxC ((tabG n g).map F) i (0 ≤ i ∧ i.toNat < n) (F (rowG n (g i.toNat))) := ⟨fun h => atI_toNat h.1 (by rw [List.getElem?_map, tabG_at h.2]; rfl)⟩
instance (priority := 900) {α : Type} {f : Nat → α} {k : Nat} {F : α → PyData} : IxC ((rowG n f).map F) ((k : Nat) : Int) (k < n) (F (f k)) := ⟨fun h => atI_nat (by rw [List.getElem?_map, rowG_at h]; rfl)⟩
instance (priority := 850) {α : Type} {f : Nat → α} {F : α → PyData} : IxC ((rowG n f).map F) i (0 ≤ i ∧ i.toNat < n) (F (f i.toNat)) := ⟨fun h => atI_toNat h.1 (by rw [List.getElem?_map, rowG_at h.2]; rfl)⟩
theorem getD_at {α : Type} {xs : List α} {k : Nat} {x : α} (h : k < xs.length) : xs[k]? = some (xs.getD k x) := by rw [List.getD_eq_getElem?_getD, List.getElem?_eq_getElem h]; rfl
instance (priority := 700) {α : Type} [Inhabited α] {xs : List α} {k : Nat} {F : α → PyData} : IxC (xs.map F) ((k : Nat) : Int) (k < xs.length) (F (xs.getD k default)) := ⟨fun h => atI_nat (by rw [List.getElem?_map, getD_at h]; rfl)⟩
instance (priority := 650) {α : Type} [Inhabited α] {xs : List α} {F : α → PyData} : IxC (xs.map F) i (0 ≤ i ∧ i.toNat < xs.length) (F (xs.getD i.toNat default)) := ⟨fun h => atI_toNat h.1 (by rw [List.getElem?_map, getD_at h.2]; rfl)⟩
instance (priority := 720) {xs : List Int} {k : Nat} : IxC (xs.map PyData.int) ((k : Nat) : Int) (k < xs.length) (.int (xs.getD k 0)) := ⟨fun h => atI_nat (by rw [List.getElem?_map, getD_at (x := 0) h]; rfl)⟩
instance (priority := 670) {xs : List Int} : IxC (xs.map PyData.int) i (0 ≤ i ∧ i.toNat < xs.length) (.int (xs.getD i.toNat 0)) := ⟨fun h => atI_toNat h.1 (by rw [List.getElem?_map, getD_at (x := 0) h.2]; rfl)⟩
instance (priority := 720) {xs : List Rat} {k : Nat} : IxC (xs.map FD) ((k : Nat) : Int) (k < xs.length) (FD (xs.getD k 0)) := ⟨fun h => atI_nat (by rw [List.getElem?_map, getD_at (x := 0) h]; rfl)⟩
instance (priority := 670) {xs : List Rat} : IxC (xs.map FD) i (0 ≤ i ∧ i.toNat < xs.length) (FD (xs.getD i.toNat 0)) := ⟨fun h => atI_toNat h.1 (by rw [List.getElem?_map, getD_at (x := 0) h.2]; rfl)⟩
theorem OW_ixC {c : Prop} [h : IxC ds i c d] (hc : c) (q : Q .lf d) : OW K (rIxL K) s (.list ds) s' (.int i) Q := OW_ixL (h.pf hc) q
theorem ixO_i {F : PyData → Prop} (h : atI ds i = some d') (hs : s = .lf ∨ s = .li .lf) (q : F d') : ∃ ds' i' d', PyData.list ds = .list ds' ∧ PyData.int i = .int i' ∧ atI ds' i' = some d' ∧ (s = .lf ∨ s = .li .lf) ∧ F d' := ⟨ds, i, d', rfl, rfl, h, hs, q⟩
theorem ixO_c {c : Prop} [h : IxC ds i c d'] {F : PyData → Prop} (hc : c) (hs : s = .lf ∨ s = .li .lf) (q : F d') : ∃ ds' i' d', PyData.list ds = .list ds' ∧ PyData.int i = .int i' ∧ atI ds' i' = some d' ∧ (s = .lf ∨ s = .li .lf) ∧ F d' := ⟨ds, i, d', rfl, rfl, h.pf hc, hs, q⟩
/-! lists and tuples put together -/
theorem OW_cat (z : ds.length + es.length ≤ 100000) (q : Q (.li .lf) (.list (ds ++ es))) : OW K rCat s (.list ds) s' (.list es) Q := fun H L G x y R k => by
  have R := R.fz.flip.fz.flip
  obtain ⟨a, rfl⟩ := sh_lst R
  obtain ⟨b, rfl⟩ := sh_lst R.tail
  exact g_catS R mem_here (.tail _ mem_here) z fun c H' R2 => k _ _ _ _ q (R2.wk (.take .here (.drop (.drop .refl))))
theorem OW_catO (z : ds.length + es.length ≤ 100000) (q : Q (.li s) (.list (ds ++ es))) : OW K rCat (.li s) (.list ds) (.li s) (.list es) Q := fun H L G x y R k => by
  obtain ⟨a, rfl⟩ := sh_lst R
  obtain ⟨b, rfl⟩ := sh_lst R.tail
  exact g_catR R .here .here z fun c H' R2 => k _ _ _ _ q R2
theorem dqAll_app {xs ys : List V} : ∀ {ds : List PyData}, DqAll K H xs ds → DqAll K H ys es → DqAll K H (xs ++ ys) (ds ++ es)
  | _, .nil, h => h
  | _, .cons h1 h2, h => .cons h1 (dqAll_app h2 h)
theorem tvPut {a : Addr} {xs : List V} (R : Rp K H (.ps (Tv K a xs ds) :: L)) : Rp K H (.sh (.ref a) (.tuple ds) :: L) := ((R.imp (P' := fun H => Dq K H (.ref a) (.tuple ds)) (fun H h => .tup h.1 h.2) mono_dp).wk (.take .here (.drop .refl))).toSh
theorem OW_catA (z : ds.length + es.length ≤ 100000) (q : Q .lf (.tuple (ds ++ es))) : OW K (rCatA K) s (.tuple ds) s' (.tuple es) Q := fun H L G x y R k => by
  have R := R.fz.flip.fz.flip
  obtain ⟨a, xs, rfl, l1, h1, R1⟩ := R.tv mem_here
  obtain ⟨b, ys, rfl, l2, h2, R2⟩ := R1.tv (.tail _ (.tail _ mem_here))
  have R2 : Rp K H (.ps (Tv K b ys es) :: .ps (Tv K a xs ds) :: L) := R2.wk (.take .here (.take .here (.drop (.drop .refl))))
  refine ⟨a, b, xs, ys, rfl, rfl, h1, h2, sz_le (by omega), fun e => ?_, fun _ e => ?_, fun _ _ p np => ?_⟩
  · obtain rfl : ds = [] := List.eq_nil_of_length_eq_zero (by rw [← l1, e]; rfl)
    exact k _ _ _ _ q ((tvPut R2).wk (.take .here (.drop .refl)))
  · obtain rfl : es = [] := List.eq_nil_of_length_eq_zero (by rw [← l2, e]; rfl)
    rw [List.append_nil] at q
    exact k _ _ _ _ q (tvPut R2.tail)
  · have R3 := R2.both.imp (P' := fun H => DqAll K H (xs ++ ys) (ds ++ es)) (fun H h => dqAll_app h.2.2 h.1.2) (fun H H' sm h => dqAll_same sm _ _ h)
    have R4 := (R3.tup (xs := xs ++ ys) np).both.imp (P' := fun H => Dq K H (.ref p) (.tuple (ds ++ es))) (fun H h => .tup h.1 h.2) mono_dp
    exact k _ _ _ _ q (R4.toSh.wk (.take .here (.drop (.drop .refl))))
theorem dqAll_rep {xs : List V} (h : DqAll K H xs ds) : ∀ k : Nat, DqAll K H (List.replicate k xs).flatten (List.replicate k ds).flatten
  | 0 => .nil
  | k + 1 => by
    rw [List.replicate_succ, List.replicate_succ, List.flatten_cons, List.flatten_cons]
    exact dqAll_app h (dqAll_rep h k)
theorem Rp.svAll {a : Addr} {xs : List V} (R : Rp K H (.ps (fun H => DqAll K H xs ds) :: L)) : Rp K H (each .lf xs ds ++ L) := by
  obtain ⟨_, ps, h1, u, r⟩ := R.inv
  cases h1
  have k := Rf.psK (P := fun H => DqAll K H xs ds) r
  obtain ⟨qs, u2, r2, _⟩ := un_sh (K := K) (ps := ps) r.tail k.2
  exact ⟨_, u2.app u, r2⟩
theorem flatRep_len {α : Type} (xs : List α) (k : Nat) : (List.replicate k xs).flatten.length = xs.length * k := by
  induction k with
  | zero => simp
  | succ k ih => rw [List.replicate_succ, List.flatten_cons, List.length_append, ih, Nat.mul_succ]; omega
theorem OW_rep (h0 : -(2 ^ 63) ≤ i) (h1 : i < 2 ^ 63) (z : ds.length * i.toNat ≤ 100000) (q : Q (.li .lf) (.list (List.replicate i.toNat ds).flatten)) : OW K rRep s (.list ds) s' (.int i) Q := fun H L G x y R k => by
  obtain rfl := sh_int R.tail
  obtain ⟨a, xs, rfl, l, hs, R2⟩ := R.fz.sv mem_here
  have R3 : Rp K H (.ps (Sv K a xs ds) :: L) := R2.wk (.take .here (.drop (.drop .refl)))
  have R4 := R3.imp (P' := fun H => DqAll K H (List.replicate i.toNat xs).flatten (List.replicate i.toNat ds).flatten) (fun H h => dqAll_rep h.2 _) (fun H H' sm h => dqAll_same sm _ _ h)
  have R5 := (Rp.svAll (a := a) R4).perm List.perm_middle |>.tail
  exact ⟨a, i, xs, rfl, rfl, hs, h0, h1, sz_le (by rw [l]; exact z), fun p np => k _ _ _ _ q (Rp.mkL R5 (by rw [flatRep_len, flatRep_len, l]) np)⟩
/-! built-in calls -/
theorem CM_len (q : Q .lf (.int (ds.length : Nat))) : CM K (rLenSeq K) (.list ds) Q := fun H L G x s R m k => by
  obtain ⟨a, xs, rfl, _, _⟩ := (R.dpOf m).lstI
  exact g_lenS R m (k _ _ _ _ q (R.int _))
theorem CM_lenT (q : Q .lf (.int (ds.length : Nat))) : CM K (rLenSeq K) (.tuple ds) Q := fun H L G x s R m k => by
  obtain ⟨a, xs, rfl, _, _⟩ := (R.dpOf m).tupI
  exact g_lenTS R m (k _ _ _ _ q (R.int _))
theorem CM_lenS {z : Str} (h : z.length ≤ sizeLine) (q : Q .lf (.int z.length)) : CM K rLenStr (.str z) Q := fun H L G x s R m k => by
  have h1 := R.dpOf m
  cases h1
  exact ⟨z, rfl, h, k _ _ _ _ q (R.int _)⟩
theorem CM_abs (q : Q .lf (.int (if i < 0 then -i else i))) : CM K rAbs (.int i) Q := fun H L G x s R m k => by
  have h1 := R.dpOf m
  cases h1
  exact ⟨i, rfl, k _ _ _ _ q (R.int _)⟩
theorem CM_intI (q : Q .lf (.int i)) : CM K rInt1 (.int i) Q := fun H L G x s R m k => by
  have h1 := R.dpOf m
  cases h1
  exact g_intI (k _ _ _ _ q (R.int _))
theorem CM_intB {c : Bool} (q : Q .lf (.int (if c then 1 else 0))) : CM K rInt1 (.bool c) Q := fun H L G x s R m k => by
  have h1 := R.dpOf m
  cases h1
  exact g_intB (k _ _ _ _ q (R.int _))
theorem two_ints {vs : List V} (l : vs.length = 2) (R : Rp K H (zipI vs [(s, .int i), (s', .int j)] ++ L)) : vs = [.int i, .int j] ∧ Rp K H L := by
  match vs, l with
  | [x, y], _ =>
    have R : Rp K H (.ow s x (.int i) :: .ow s' y (.int j) :: L) := R
    obtain rfl := sh_int R
    obtain rfl := sh_int R.tail
    exact ⟨rfl, R.tail.tail⟩
theorem CW_max2 (q : Q .lf (.int (if j > i then j else i))) : CW K rMax2 [(s, .int i), (s', .int j)] Q := fun H L G vs l R k => by
  obtain ⟨e, R2⟩ := two_ints l R
  subst e
  clear R
  have R := R2
  exact g_max2 (k _ _ _ _ q (R.int _))
theorem CW_min2 (q : Q .lf (.int (if j < i then j else i))) : CW K rMin2 [(s, .int i), (s', .int j)] Q := fun H L G vs l R k => by
  obtain ⟨e, R2⟩ := two_ints l R
  subst e
  clear R
  have R := R2
  exact g_min2 (k _ _ _ _ q (R.int _))
theorem CW_max3 {s3 : Own} {m : Int} (q : Q .lf (.int (max (max i j) m))) : CW K rMax3 [(s, .int i), (s', .int j), (s3, .int m)] Q := fun H L G vs l R k => by
  match vs, l with
  | [x, y, z], _ =>
    have R : Rp K H (.ow s x (.int i) :: .ow s' y (.int j) :: .ow s3 z (.int m) :: L) := R
    obtain rfl := sh_int R
    obtain rfl := sh_int R.tail
    obtain rfl := sh_int R.tail.tail
    exact g_max3 (k _ _ _ _ q (R.tail.tail.tail.int _))
theorem CM_sum {ns : List Int} (q : Q .lf (.int ns.sum)) : CM K (rSum K) (IL ns) Q := fun H L G x s R m k => by
  obtain ⟨a, xs, rfl, _, _⟩ := (R.dpOf m).lstI
  exact ⟨a, ns, rfl, R.ilS m, k _ _ _ _ q (R.int _)⟩
theorem CM_min {ns : List Int} (h : 0 < ns.length) (q : ∀ z, z ∈ ns → (∀ y ∈ ns, z ≤ y) → Q .lf (.int z)) : CM K (rMin K) (IL ns) Q := fun H L G x s R m k => by
  obtain ⟨a, xs, rfl, _, _⟩ := (R.dpOf m).lstI
  exact ⟨a, ns, rfl, R.ilS m, h, fun z h1 h2 => k _ _ _ _ (q z h1 h2) (R.int _)⟩
theorem CM_max {ns : List Int} (h : 0 < ns.length) (q : ∀ z, z ∈ ns → (∀ y ∈ ns, y ≤ z) → Q .lf (.int z)) : CM K (rMax K) (IL ns) Q := fun H L G x s R m k => by
  obtain ⟨a, xs, rfl, _, _⟩ := (R.dpOf m).lstI
  exact ⟨a, ns, rfl, R.ilS m, h, fun z h1 h2 => k _ _ _ _ (q z h1 h2) (R.int _)⟩
theorem dq_bools {xs : List V} : ∀ {bs : List Bool}, DqAll K H xs (bs.map PyData.bool) → xs = bs.map V.bl := fun {bs} h => by
  induction bs generalizing xs with
  | nil => cases h; rfl
  | cons c bs ih =>
    cases h with
    | cons h1 h2 =>
      cases h1
      rw [ih h2]; rfl
theorem CM_all {bs : List Bool} (q : Q .lf (.bool (bs.all id))) : CM K (rAll K) (.list (bs.map PyData.bool)) Q := fun H L G x s R m k => by
  obtain ⟨a, xs, rfl, h1, h2⟩ := (R.dpOf m).lstI
  rw [dq_bools h2] at h1
  exact ⟨a, bs, rfl, SqL.of h1, k _ _ _ _ q (R.bl _)⟩
theorem CM_any {bs : List Bool} (q : Q .lf (.bool (bs.any id))) : CM K (rAny K) (.list (bs.map PyData.bool)) Q := fun H L G x s R m k => by
  obtain ⟨a, xs, rfl, h1, h2⟩ := (R.dpOf m).lstI
  rw [dq_bools h2] at h1
  exact ⟨a, bs, rfl, SqL.of h1, k _ _ _ _ q (R.bl _)⟩
theorem CM_sortI {ns : List Int} (q : ∀ ns', ns'.Perm ns → ns'.Pairwise (· ≤ ·) → Q (.li .lf) (IL ns')) : CM K (rSortedI K) (IL ns) Q := fun H L G x s R m k => by
  obtain ⟨a, xs, rfl, _, _⟩ := (R.dpOf m).lstI
  exact g_sortI R m fun c H' ns' h1 h2 R2 => k _ _ _ _ (q ns' h1 h2) R2
theorem CW_sortD (hal : PySem.W.AllAlike ds) (hs : PySem.W.Sortable ds) (hd : ∀ d ∈ ds, d.depth ≤ 50) (q : ∀ ds', ds'.Perm ds → ds'.Pairwise (fun a b => PySem.W.dataLe false id a b = true) → Q (.li .lf) (.list ds')) : CW K (rSortedD K) [(s, .list ds)] Q := fun H L G vs l R k => by
  match vs, l with
  | [x], _ =>
    have R : Rp K H (.ow s x (.list ds) :: L) := R
    have R := R.fz
    obtain ⟨a, rfl⟩ := sh_lst R
    exact g_sortS R mem_here hal hs hd fun c H' ds' h1 h2 R2 => k _ _ _ _ (q ds' h1 h2) (R2.wk (.take .here (.drop .refl)))
theorem CW_list (q : Q (.li .lf) (.list ds)) : CW K (rListOf K) [(s, .list ds)] Q := fun H L G vs l R k => by
  match vs, l with
  | [x], _ =>
    have R : Rp K H (.ow s x (.list ds) :: L) := R
    have R := R.fz
    obtain ⟨a, rfl⟩ := sh_lst R
    exact g_listS R mem_here fun c H' R2 => k _ _ _ _ q (R2.wk (.take .here (.drop .refl)))
theorem CW_listT (q : Q (.li .lf) (.list ds)) : CW K (rListOf K) [(s, .tuple ds)] Q := fun H L G vs l R k => by
  match vs, l with
  | [x], _ =>
    have R : Rp K H (.ow s x (.tuple ds) :: L) := R
    obtain ⟨a, xs, rfl, l1, h1, R1⟩ := R.fz.tv mem_here
    have R3 : Rp K H (.ps (Tv K a xs ds) :: L) := R1.wk (.take .here (.drop .refl))
    have R4 := R3.imp (P' := fun H => DqAll K H xs ds) (fun H h => h.2) (fun H H' sm h => dqAll_same sm _ _ h)
    have R5 := (Rp.svAll (a := a) R4).perm List.perm_middle |>.tail
    exact ⟨a, xs, rfl, .inr h1, fun p np => k _ _ _ _ q (Rp.mkL R5 l1 np)⟩
/-! isinstance -/
class IsiC (d : PyData) (T : String) (b : outParam Bool) : Prop where pf : ∀ (K : PySem.W.Frag) (H : Hp) (x : V), Dq K H x d → ∃ t, TyX K H x t ∧ PySem.W.kitOne K t (.type T) = some b
theorem EW_isi {T : String} (q : EW K te Γ fun _ d Γ1 => ∃ b, IsiC d T b ∧ QE .lf (.bool b) Γ1) : EW K (tCB (rIsi K) (tCons te (tCons (tC (.ty T)) tNil))) Γ QE := fun σ H L G S k => q σ H L _ S fun s d Γ1 v H1 ⟨b, hb, q1⟩ S1 => by
  obtain ⟨I, E, R⟩ := S1
  obtain ⟨t, h1, h2⟩ := hb.pf K H1 v R.mid.dp
  exact g_isi (.ty _) h1 h2 (k _ _ _ _ _ q1 (Stt.flat ⟨I, E, Rp.dim R.mid |>.perm (List.perm_middle) |>.tail⟩ (.bl _) rfl))
theorem isi_i {F : Bool → Prop} {T : String} {b : Bool} [h : IsiC d T b] (q : F b) : ∃ b, IsiC d T b ∧ F b := ⟨b, h, q⟩
instance : IsiC (.int i) "int" true := ⟨fun K H x hx => by cases hx; exact ⟨_, .base (.int _), kit_ty (by decide +kernel)⟩⟩
instance : IsiC (.int i) "bool" false := ⟨fun K H x hx => by cases hx; exact ⟨_, .base (.int _), kit_ty (by decide +kernel)⟩⟩
instance : IsiC (.int i) "str" false := ⟨fun K H x hx => by cases hx; exact ⟨_, .base (.int _), kit_ty (by decide +kernel)⟩⟩
instance : IsiC (.int i) "list" false := ⟨fun K H x hx => by cases hx; exact ⟨_, .base (.int _), kit_ty (by decide +kernel)⟩⟩
instance : IsiC (.int i) "tuple" false := ⟨fun K H x hx => by cases hx; exact ⟨_, .base (.int _), kit_ty (by decide +kernel)⟩⟩
instance {c : Bool} : IsiC (.bool c) "int" true := ⟨fun K H x hx => by cases hx; exact ⟨_, .base (.bl _), kit_ty (by decide +kernel)⟩⟩
instance {c : Bool} : IsiC (.bool c) "bool" true := ⟨fun K H x hx => by cases hx; exact ⟨_, .base (.bl _), kit_ty (by decide +kernel)⟩⟩
instance {c : Bool} : IsiC (.bool c) "str" false := ⟨fun K H x hx => by cases hx; exact ⟨_, .base (.bl _), kit_ty (by decide +kernel)⟩⟩
instance {c : Bool} : IsiC (.bool c) "list" false := ⟨fun K H x hx => by cases hx; exact ⟨_, .base (.bl _), kit_ty (by decide +kernel)⟩⟩
instance {c : Bool} : IsiC (.bool c) "tuple" false := ⟨fun K H x hx => by cases hx; exact ⟨_, .base (.bl _), kit_ty (by decide +kernel)⟩⟩
instance {z : Str} : IsiC (.str z) "int" false := ⟨fun K H x hx => by cases hx; exact ⟨_, .base (.str _), kit_ty (by decide +kernel)⟩⟩
instance {z : Str} : IsiC (.str z) "bool" false := ⟨fun K H x hx => by cases hx; exact ⟨_, .base (.str _), kit_ty (by decide +kernel)⟩⟩
instance {z : Str} : IsiC (.str z) "str" true := ⟨fun K H x hx => by cases hx; exact ⟨_, .base (.str _), kit_ty (by decide +kernel)⟩⟩
instance {z : Str} : IsiC (.str z) "list" false := ⟨fun K H x hx => by cases hx; exact ⟨_, .base (.str _), kit_ty (by decide +kernel)⟩⟩
instance {z : Str} : IsiC (.str z) "tuple" false := ⟨fun K H x hx => by cases hx; exact ⟨_, .base (.str _), kit_ty (by decide +kernel)⟩⟩
instance : IsiC (.list ds) "int" false := ⟨fun K H x hx => by obtain ⟨a, xs, rfl, h1, _⟩ := hx.lstI; exact ⟨_, tyX_lst (SqL.of h1), kit_ty (by decide +kernel)⟩⟩
instance : IsiC (.list ds) "bool" false := ⟨fun K H x hx => by obtain ⟨a, xs, rfl, h1, _⟩ := hx.lstI; exact ⟨_, tyX_lst (SqL.of h1), kit_ty (by decide +kernel)⟩⟩
instance : IsiC (.list ds) "str" false := ⟨fun K H x hx => by obtain ⟨a, xs, rfl, h1, _⟩ := hx.lstI; exact ⟨_, tyX_lst (SqL.of h1), kit_ty (by decide +kernel)⟩⟩
instance : IsiC (.list ds) "list" true := ⟨fun K H x hx => by obtain ⟨a, xs, rfl, h1, _⟩ := hx.lstI; exact ⟨_, tyX_lst (SqL.of h1), kit_ty (by decide +kernel)⟩⟩
instance : IsiC (.list ds) "tuple" false := ⟨fun K H x hx => by obtain ⟨a, xs, rfl, h1, _⟩ := hx.lstI; exact ⟨_, tyX_lst (SqL.of h1), kit_ty (by decide +kernel)⟩⟩
instance : IsiC (.tuple ds) "int" false := ⟨fun K H x hx => by obtain ⟨a, xs, rfl, h1, _⟩ := hx.tupI; exact ⟨_, tyX_tup h1, kit_ty (by decide +kernel)⟩⟩
instance : IsiC (.tuple ds) "bool" false := ⟨fun K H x hx => by obtain ⟨a, xs, rfl, h1, _⟩ := hx.tupI; exact ⟨_, tyX_tup h1, kit_ty (by decide +kernel)⟩⟩
instance : IsiC (.tuple ds) "str" false := ⟨fun K H x hx => by obtain ⟨a, xs, rfl, h1, _⟩ := hx.tupI; exact ⟨_, tyX_tup h1, kit_ty (by decide +kernel)⟩⟩
instance : IsiC (.tuple ds) "list" false := ⟨fun K H x hx => by obtain ⟨a, xs, rfl, h1, _⟩ := hx.tupI; exact ⟨_, tyX_tup h1, kit_ty (by decide +kernel)⟩⟩
instance : IsiC (.tuple ds) "tuple" true := ⟨fun K H x hx => by obtain ⟨a, xs, rfl, h1, _⟩ := hx.tupI; exact ⟨_, tyX_tup h1, kit_ty (by decide +kernel)⟩⟩
end
/-! ### boxes: steps -/
section
variable {K : PySem.W.Frag} {Γ Γ1 : Ev} {s s' s1 s2 s3 : Own} {d d' e d1 d2 d3 d4 d5 d6 : PyData} {ds es : List PyData} {n m : Nat} {te ta tb tc ti tj : TE} {tt tu : TT} {tr tr2 : TA} {i j : Int} {Q : Own → PyData → Prop} {QE : Own → PyData → Ev → Prop} {QT : Bool → Ev → Prop} {QA : List (Own × PyData) → Ev → Prop} {P : Po} {t u : L2.TS} {g : TG} {wi : TI} {r r' : R2} {rc : List V → Hp → VK → Prop} {vs : List Nat} {bs : List (Own × PyData)} {b : Bool}
def SndB (bs : List (Own × PyData)) (F : List PyData → Prop) : Prop := bs.length ≤ 100000 ∧ F (bs.map Prod.snd)
class SndC (bs : List (Own × PyData)) (ds : outParam (List PyData)) : Prop where
  e : bs.map Prod.snd = ds
  l : bs.length ≤ 100000
instance : SndC [] [] := ⟨rfl, by decide⟩
instance : SndC [(s, d)] [d] := ⟨rfl, by show 1 ≤ 100000; decide⟩
instance : SndC [(s1, d1), (s2, d2)] [d1, d2] := ⟨rfl, by show 2 ≤ 100000; decide⟩
instance : SndC [(s1, d1), (s2, d2), (s3, d3)] [d1, d2, d3] := ⟨rfl, by show 3 ≤ 100000; decide⟩
instance {s4 : Own} : SndC [(s1, d1), (s2, d2), (s3, d3), (s4, d4)] [d1, d2, d3, d4] := ⟨rfl, by show 4 ≤ 100000; decide⟩
instance {s4 s5 : Own} : SndC [(s1, d1), (s2, d2), (s3, d3), (s4, d4), (s5, d5)] [d1, d2, d3, d4, d5] := ⟨rfl, by show 5 ≤ 100000; decide⟩
instance {s4 s5 s6 : Own} : SndC [(s1, d1), (s2, d2), (s3, d3), (s4, d4), (s5, d5), (s6, d6)] [d1, d2, d3, d4, d5, d6] := ⟨rfl, by show 6 ≤ 100000; decide⟩
theorem SndB_i {F : List PyData → Prop} [h : SndC bs ds] (q : F ds) : SndB bs F := ⟨h.l, by rw [h.e]; exact q⟩
instance {F : List PyData → Prop} [h : SndC bs ds] : St1 (SndB bs F) (F ds) := ⟨SndB_i⟩
/-- a tuple display's shape -/
def TupB (bs : List (Own × PyData)) (F : Own → PyData → Prop) : Prop := ∃ s d, F s d ∧ ((s = .lf ∧ d = .tuple (bs.map Prod.snd) ∧ bs.length ≤ 100000) ∨ (∃ s1 s2 d1 d2, bs = [(s1, d1), (s2, d2)] ∧ s = .t2 s1 s2 ∧ d = .tuple [d1, d2]) ∨ ∃ s1 s2 s3 d1 d2 d3, bs = [(s1, d1), (s2, d2), (s3, d3)] ∧ s = .t3 s1 s2 s3 ∧ d = .tuple [d1, d2, d3])
theorem EW_tupB (q : AW K tr Γ fun bs Γ1 => TupB bs fun s d => QE s d Γ1) : EW K (tTup tr) Γ QE := fun σ H L G S k => q σ H L _ S fun bs Γ1 vs H1 ⟨s, d, q1, h⟩ l S1 => by
  rcases h with ⟨rfl, rfl, z⟩ | ⟨s1, s2, d1, d2, rfl, rfl, rfl⟩ | ⟨s1, s2, s3, d1, d2, d3, rfl, rfl, rfl⟩
  · refine ⟨sz_le (by rw [l]; exact z), fun p np => ?_⟩
    obtain ⟨M, R, back⟩ := S1.lift (A := zipI vs bs)
    exact k _ _ _ _ _ q1 (back _ [.sh (.ref p) _] (Rp.tupL (Rp.fzZ l R) (by rw [l, List.length_map]) np))
  · match vs, l with
    | [x, y], _ =>
    obtain ⟨M, R, back⟩ := S1.lift (A := zipI [x, y] [(s1, d1), (s2, d2)])
    exact ⟨two_le, fun p np => k _ _ _ _ _ q1 (back _ [.ow (.t2 s1 s2) (.ref p) _] (Rp.mk2 R np))⟩
  · match vs, l with
    | [x, y, z], _ =>
    obtain ⟨M, R, back⟩ := S1.lift (A := zipI [x, y, z] [(s1, d1), (s2, d2), (s3, d3)])
    exact ⟨sz_le (by show 3 ≤ 100000; decide), fun p np => k _ _ _ _ _ q1 (back _ [.ow (.t3 s1 s2 s3) (.ref p) _] (Rp.mk3 R np))⟩
theorem TupB_f {F : Own → PyData → Prop} [h : SndC bs ds] (q : F .lf (.tuple ds)) : TupB bs F := ⟨.lf, _, q, .inl ⟨rfl, by rw [h.e], h.l⟩⟩
theorem TupB_2 {F : Own → PyData → Prop} (q : F (.t2 s1 s2) (.tuple [d1, d2])) : TupB [(s1, d1), (s2, d2)] F := ⟨_, _, q, .inr (.inl ⟨_, _, _, _, rfl, rfl, rfl⟩)⟩
theorem TupB_3 {F : Own → PyData → Prop} (q : F (.t3 s1 s2 s3) (.tuple [d1, d2, d3])) : TupB [(s1, d1), (s2, d2), (s3, d3)] F := ⟨_, _, q, .inr (.inr ⟨_, _, _, _, _, _, rfl, rfl, rfl⟩)⟩
instance (priority := 500) {F : Own → PyData → Prop} [h : SndC bs ds] : St1 (TupB bs F) (F .lf (.tuple ds)) := ⟨TupB_f⟩
instance (priority := 600) {F : Own → PyData → Prop} : St1 (TupB [(s1, d1), (s2, d2)] F) (F (.t2 s1 s2) (.tuple [d1, d2])) := ⟨TupB_2⟩
instance (priority := 700) {F : Own → PyData → Prop} : St1 (TupB [(.lf, d1), (.lf, d2)] F) (F .lf (.tuple [d1, d2])) := ⟨TupB_f⟩
instance (priority := 600) {F : Own → PyData → Prop} : St1 (TupB [(s1, d1), (s2, d2), (s3, d3)] F) (F (.t3 s1 s2 s3) (.tuple [d1, d2, d3])) := ⟨TupB_3⟩
instance (priority := 700) {F : Own → PyData → Prop} : St1 (TupB [(.lf, d1), (.lf, d2), (.lf, d3)] F) (F .lf (.tuple [d1, d2, d3])) := ⟨TupB_f⟩
/-- a list display's shape -/
def LstB (bs : List (Own × PyData)) (F : Own → PyData → Prop) : Prop := ∃ s, bs.length ≤ 100000 ∧ ((∀ b ∈ bs, b.1 = s) ∨ s = .lf) ∧ F (.li s) (.list (bs.map Prod.snd))
theorem EW_lstB (q : AW K tr Γ fun bs Γ1 => LstB bs fun s d => QE s d Γ1) : EW K (tLst tr) Γ QE := fun σ H L G S k => q σ H L _ S fun bs Γ1 vs H1 ⟨s, z, hs, q1⟩ l S1 => ⟨sz_le (by rw [l]; exact z), fun p np => by
  obtain ⟨M, R, back⟩ := S1.lift (A := zipI vs bs)
  rcases hs with hs | rfl
  · rw [zipI_each l hs] at R
    exact k _ _ _ _ _ q1 (back _ [.ow (.li s) (.ref p) _] (Rp.mkL R (by rw [l, List.length_map]) np))
  · exact k _ _ _ _ _ q1 (back _ [.ow (.li .lf) (.ref p) _] (Rp.mkL (Rp.fzZ l R) (by rw [l, List.length_map]) np))⟩
theorem LstB_f {F : Own → PyData → Prop} [h : SndC bs ds] (q : F (.li .lf) (.list ds)) : LstB bs F := ⟨.lf, h.l, .inr rfl, by rw [h.e]; exact q⟩
theorem LstB_1 {F : Own → PyData → Prop} (q : F (.li s) (.list [d])) : LstB [(s, d)] F := ⟨s, by show 1 ≤ 100000; decide, .inl (fun b hb => by cases List.mem_singleton.mp hb; rfl), q⟩
theorem LstB_0 {F : Own → PyData → Prop} (s : Own) (q : F (.li s) (.list [])) : LstB [] F := ⟨s, by decide, .inl (fun b hb => by cases hb), q⟩
instance (priority := 500) {F : Own → PyData → Prop} [h : SndC bs ds] : St1 (LstB bs F) (F (.li .lf) (.list ds)) := ⟨LstB_f⟩
instance (priority := 700) {F : Own → PyData → Prop} : St1 (LstB [(s, d)] F) (F (.li s) (.list [d])) := ⟨LstB_1⟩
/-! what stands at a place -/
def IxB (s : Own) (d e : PyData) (F : PyData → Prop) : Prop := ∃ ds i d', d = .list ds ∧ e = .int i ∧ atI ds i = some d' ∧ (s = .lf ∨ s = .li .lf) ∧ F d'
theorem IxB_r {F : PyData → Prop} (h : atI ds i = some d') (hs : s = .lf ∨ s = .li .lf) (q : F d') : IxB s (.list ds) (.int i) F := ⟨ds, i, d', rfl, rfl, h, hs, q⟩
theorem IxB_c {c : Prop} [h : IxC ds i c d'] {F : PyData → Prop} (hc : c) (hs : s = .lf ∨ s = .li .lf) (q : F d') : IxB s (.list ds) (.int i) F := ⟨ds, i, d', rfl, rfl, h.pf hc, hs, q⟩
theorem OW_ixB (q : IxB .lf d e fun d' => Q .lf d') : OW K (rIxL K) s d s' e Q := by
  obtain ⟨ds, i, d', rfl, rfl, h, _, q⟩ := q
  exact OW_ixL h q
def IxTB (d e : PyData) (F : PyData → Prop) : Prop := ∃ ds i d', d = .tuple ds ∧ e = .int i ∧ atI ds i = some d' ∧ F d'
theorem IxTB_r {F : PyData → Prop} (h : atI ds i = some d') (q : F d') : IxTB (.tuple ds) (.int i) F := ⟨ds, i, d', rfl, rfl, h, q⟩
theorem IxTB_c {c : Prop} [h : IxC ds i c d'] {F : PyData → Prop} (hc : c) (q : F d') : IxTB (.tuple ds) (.int i) F := ⟨ds, i, d', rfl, rfl, h.pf hc, q⟩
theorem OW_ixTB (q : IxTB d e fun d' => Q .lf d') : OW K (rIxT K) s d s' e Q := by
  obtain ⟨ds, i, d', rfl, rfl, h, q⟩ := q
  exact OW_ixT h q
theorem EW_ixOB (q : AtB Γ n fun _ _ _ => EW K ti Γ fun _ e Γ2 => AtB Γ2 n fun s d _ => IxB s d e fun d' => QE .lf d' Γ2) : EW K (tOp (rIxL K) (tVar n) ti) Γ QE := by
  obtain ⟨b, s, d, h, hb, q⟩ := q
  exact EW_ixO h hb q
theorem EW_opVB (q : AtB Γ n fun _ _ _ => EW K tb Γ fun s' e Γ2 => AtB Γ2 n fun s d _ => OM K r d e fun s2 d2 => QE s2 d2 Γ2) : EW K (tOp r (tVar n) tb) Γ QE := by
  obtain ⟨b, s, d, h, hb, q⟩ := q
  exact EW_opV h hb q
theorem EW_appB (q : AtB Γ n fun _ d _ => ∃ es, d = .list es ∧ EW K te Γ fun s d Γ1 => AppB Γ1 n s d fun Γ2 => QE .lf .none Γ2) : EW K (tBM K "list" rAppend (tVar n) (tCons te tNil)) Γ QE := by
  obtain ⟨b, s, d, h, hb, es, rfl, q⟩ := q
  exact EW_app h hb q
theorem EW_extB (q : AtB Γ n fun _ d _ => ∃ es, d = .list es ∧ EW K te Γ fun s d Γ1 => ExtB Γ1 n s d fun Γ2 => QE .lf .none Γ2) : EW K (tBM K "list" rExtend (tVar n) (tCons te tNil)) Γ QE := by
  obtain ⟨b, s, d, h, hb, es, rfl, q⟩ := q
  exact EW_ext h hb q
theorem EW_callB {pre : List PyData → (Own → PyData → Prop) → Prop} {E : XK} (q : AW K tr Γ fun bs Γ1 => SndB bs fun ds => pre ds fun s d => QE s d Γ1) : EW K (tCall (spV K pre) [] E tr) Γ QE := EW_call fun σ H L G S k => q σ H L G S fun bs Γ' vs H' q' => k bs Γ' vs H' q'.2
theorem EW_callMB {pre : Own → PyData → List PyData → (Own → PyData → PyData → Prop) → Prop} {E : XK} (q : AtB Γ n fun _ _ _ => AW K tr Γ fun bs Γ1 => SndB bs fun ds => AtB Γ1 n fun s d b => pre s d ds fun s2 r d2 => QE s2 r (Γ1.set n (b.to s d2))) : EW K (tCall (spM K pre) [] E (tCons (tVar n) tr)) Γ QE := by
  obtain ⟨b, s, d, h, hb, q⟩ := q
  exact EW_callM h hb fun σ H L G S k => q σ H L G S fun bs Γ' vs H' q' => k bs Γ' vs H' q'.2
theorem SW_par (q : AW K tr Γ fun bs Γ1 => ∃ s1 d1 s2 d2, bs = [(s1, d1), (s2, d2)] ∧ P.nx ((Γ1.set n (.v s1 d1)).set m (.v s2 d2))) : SW K (tPar n m tr) Γ P := fun σ H L D S k => q σ H L _ S fun bs Γ1 vs H1 ⟨s1, d1, s2, d2, e, q1⟩ l S1 => by
  subst e
  match vs, l with
  | [x, y], _ =>
    have S1 : Stt K Γ1 σ H1 (.ow s1 x d1 :: .ow s2 y d2 :: L) := S1
    exact ⟨x, y, rfl, k.nx _ _ _ q1 ((S1.bind n).bind m)⟩
theorem SW_augI {gf : Int → Int → Int} (q : AtB Γ n fun _ d _ => ∃ i, d = .int i ∧ EW K te Γ fun _ e Γ1 => ∃ j, e = .int j ∧ P.nx (Γ1.set n (.v .lf (.int (gf i j))))) : SW K (tAug n te (ipI gf)) Γ P := fun σ H L D S k => by
  obtain ⟨b, s, d, h, hb, i, rfl, q⟩ := q
  obtain ⟨w, M, hw, R, put, _⟩ := S.focus h hb
  obtain rfl := sh_int R
  refine ⟨.int i, hw, q σ H L _ S fun s' e Γ1 y H1 ⟨j, e1, q1⟩ S1 => ?_⟩
  subst e1
  obtain rfl := S1.int'
  exact ⟨i, j, rfl, rfl, k.nx _ _ _ q1 ((S1.tail.flat (.int _) rfl).bind n)⟩
/-! targets of several names -/
theorem GW_tup {n : Nat} {gs : TGs} {QV : Ev → Prop} (h : d = .tuple ds) (l : ds.length = n) (q : ∀ (σ : L2.St) (H : Hp) (L : List It) (us : List V) (G : L2.St → Hp → Prop), us.length = ds.length → Stt K Γ σ H (each .lf us ds ++ L) → (∀ Γ' σ' H', QV Γ' → Stt K Γ' σ' H' L → G σ' H') → gs us σ H G) : GW K (gTup K n gs) s d Γ QV := fun σ H L v G S k => by
  subst h
  obtain ⟨M, R, back⟩ := S.lift (A := [.ow s v (.tuple ds)])
  obtain ⟨a, xs, rfl, l1, h1, R1⟩ := R.fz.tv mem_here
  have R3 : Rp K H (.ps (Tv K a xs ds) :: M) := R1.wk (.take .here (.drop .refl))
  have R4 := R3.imp (P' := fun H => DqAll K H xs ds) (fun H h => h.2) (fun H H' sm h => dqAll_same sm _ _ h)
  have R5 := (Rp.svAll (a := a) R4).perm List.perm_middle |>.tail
  exact ⟨a, xs, rfl, h1, by rw [l1]; exact l, q σ H L xs G l1 (back H _ R5) k⟩
/-- names for a tuple's things -/
def GsB (K : PySem.W.Frag) (gs : TGs) (ds : List PyData) (Γ : Ev) (QV : Ev → Prop) : Prop := ∀ (σ : L2.St) (H : Hp) (L : List It) (us : List V) (G : L2.St → Hp → Prop), us.length = ds.length → Stt K Γ σ H (each .lf us ds ++ L) → (∀ Γ' σ' H', QV Γ' → Stt K Γ' σ' H' L → G σ' H') → gs us σ H G
theorem GsB_nil {QV : Ev → Prop} (q : QV Γ) : GsB K gNil [] Γ QV := fun σ H L us G l S k => by
  match us, l with
  | [], _ => exact ⟨rfl, k _ _ _ q S⟩
theorem GsB_cons {gs : TGs} {QV : Ev → Prop} (q : GW K g .lf d Γ fun Γ1 => GsB K gs ds Γ1 QV) : GsB K (gCons g gs) (d :: ds) Γ QV := fun σ H L us G l S k => by
  match us, l with
  | x :: us, l =>
    have S : Stt K Γ σ H (.sh x d :: (each .lf us ds ++ L)) := S
    exact ⟨x, us, rfl, q σ H (each .lf us ds ++ L) x _ S fun Γ' σ' H' q1 S1 => q1 σ' H' L us G (by simpa using l) S1 k⟩
theorem GW_tupB {n : Nat} {gs : TGs} {QV : Ev → Prop} (l : ds.length = n) (q : GsB K gs ds Γ QV) : GW K (gTup K n gs) s (.tuple ds) Γ QV := GW_tup rfl l q
theorem GW_unlB {n : Nat} {gs : TGs} {QV : Ev → Prop} (l : ds.length = n) (q : GsB K gs ds Γ QV) : GW K (gUnl K n gs) s (.list ds) Γ QV := fun σ H L v G S k => by
  obtain ⟨M, R, back⟩ := S.lift (A := [.ow s v (.list ds)])
  obtain ⟨a, xs, rfl, l1, h1, R1⟩ := R.fz.sv mem_here
  have R3 : Rp K H (.ps (Sv K a xs ds) :: M) := R1.wk (.take .here (.drop .refl))
  have R4 := R3.imp (P' := fun H => DqAll K H xs ds) (fun H h => h.2) (fun H H' sm h => dqAll_same sm _ _ h)
  have R5 := (Rp.svAll (a := a) R4).perm List.perm_middle |>.tail
  exact ⟨a, xs, rfl, SqL.of h1, by rw [l1]; exact l, q σ H L xs G l1 (back H _ R5) k⟩
/-- the same within a comprehension -/
def GsC (K : PySem.W.Frag) (gs : TGs) (ds : List PyData) (Γ : Ev) (vs : List Nat) (QV : Ev → Prop) : Prop := ∀ (σ : L2.St) (H : Hp) (L : List It) (us : List V) (G : L2.St → Hp → Prop), us.length = ds.length → Stt K Γ σ H (each .lf us ds ++ L) → (∀ Γ' σ' H', QV Γ' → wipe σ' vs = wipe σ vs → Stt K Γ' σ' H' L → G σ' H') → gs us σ H G
theorem GsC_nil {QV : Ev → Prop} (q : QV Γ) : GsC K gNil [] Γ vs QV := fun σ H L us G l S k => by
  match us, l with
  | [], _ => exact ⟨rfl, k _ _ _ q rfl S⟩
theorem GsC_cons {gs : TGs} {QV : Ev → Prop} (q : GC K g .lf d Γ vs fun Γ1 => GsC K gs ds Γ1 vs QV) : GsC K (gCons g gs) (d :: ds) Γ vs QV := fun σ H L us G l S k => by
  match us, l with
  | x :: us, l =>
    have S : Stt K Γ σ H (.sh x d :: (each .lf us ds ++ L)) := S
    exact ⟨x, us, rfl, q σ H (each .lf us ds ++ L) x _ S fun Γ' σ' H' q1 hw S1 => q1 σ' H' L us G (by simpa using l) S1 fun Γ2 σ2 H2 q2 hw2 S2 => k Γ2 σ2 H2 q2 (hw2.trans hw) S2⟩
theorem GC_tupB {n : Nat} {gs : TGs} {QV : Ev → Prop} (l : ds.length = n) (q : GsC K gs ds Γ vs QV) : GC K (gTup K n gs) s (.tuple ds) Γ vs QV := fun σ H L v G S k => by
  obtain ⟨M, R, back⟩ := S.lift (A := [.ow s v (.tuple ds)])
  obtain ⟨a, xs, rfl, l1, h1, R1⟩ := R.fz.tv mem_here
  have R3 : Rp K H (.ps (Tv K a xs ds) :: M) := R1.wk (.take .here (.drop .refl))
  have R4 := R3.imp (P' := fun H => DqAll K H xs ds) (fun H h => h.2) (fun H H' sm h => dqAll_same sm _ _ h)
  have R5 := (Rp.svAll (a := a) R4).perm List.perm_middle |>.tail
  exact ⟨a, xs, rfl, h1, by rw [l1]; exact l, q σ H L xs G l1 (back H _ R5) k⟩
/-! slices -/
def PW' (K : PySem.W.Frag) (to : L2.St → Hp → (Option Int → Hp → Prop) → Prop) (Γ : Ev) (Q : Option Int → Ev → Prop) : Prop := ∀ (σ : L2.St) (H : Hp) (L : List It) (G : Option Int → Hp → Prop), Stt K Γ σ H L → (∀ o Γ' H', Q o Γ' → Stt K Γ' σ H' L → G o H') → to σ H G
theorem PW'_no {QO : Option Int → Ev → Prop} (q : QO none Γ) : PW' K tNoPart Γ QO := fun σ H L G S k => k _ _ _ q S
theorem PW'_some {QO : Option Int → Ev → Prop} (q : EW K te Γ fun _ d Γ1 => ∃ i, d = .int i ∧ QO (some i) Γ1) : PW' K (tPart te) Γ QO := fun σ H L G S k => q σ H L _ S fun s d Γ1 v H1 ⟨i, e, q1⟩ S1 => by
  subst e
  obtain rfl := S1.int'
  exact ⟨i, rfl, k _ _ _ q1 S1.tail⟩
def cutG {α : Type} (xs : List α) (lo hi : Option Int) : List α := (xs.drop (HT.sIx xs.length 0 lo)).take (HT.sIx xs.length xs.length hi - HT.sIx xs.length 0 lo)
theorem cutG_map {α β : Type} (f : α → β) (xs : List α) (lo hi : Option Int) : cutG (xs.map f) lo hi = (cutG xs lo hi).map f := by
  unfold cutG
  rw [List.length_map, List.map_take, List.map_drop]
theorem cutG_no {α : Type} (xs : List α) : cutG xs none none = xs := by
  unfold cutG
  rw [HT.sIx_none, HT.sIx_none]
  simp
theorem cutG_to {α : Type} (xs : List α) (k : Nat) : cutG xs none (some (k : Int)) = xs.take k := by
  unfold cutG
  rw [HT.sIx_none, HT.sIx_nat, List.drop_zero, Nat.sub_zero]
  by_cases h : k ≤ xs.length
  · rw [Nat.min_eq_left h]
  · rw [Nat.min_eq_right (by omega), List.take_length, List.take_of_length_le (by omega)]
theorem cutG_from {α : Type} (xs : List α) (k : Nat) : cutG xs (some (k : Int)) none = xs.drop k := by
  unfold cutG
  rw [HT.sIx_none, HT.sIx_nat]
  by_cases h : k ≤ xs.length
  · rw [Nat.min_eq_left h, List.take_of_length_le (by rw [List.length_drop]; exact Nat.le_refl _)]
  · rw [Nat.min_eq_right (by omega), List.drop_of_length_le (Nat.le_refl _), List.drop_of_length_le (by omega), List.take_nil]
theorem cutG_both {α : Type} (xs : List α) (a b : Nat) : cutG xs (some (a : Int)) (some (b : Int)) = (xs.take b).drop a := by
  unfold cutG
  rw [HT.sIx_nat, HT.sIx_nat]
  by_cases h : a ≤ xs.length
  · rw [Nat.min_eq_left h, List.drop_take]
    by_cases h2 : b ≤ xs.length
    · rw [Nat.min_eq_left h2]
    · rw [Nat.min_eq_right (by omega), List.take_of_length_le (by rw [List.length_drop]; exact Nat.le_refl _), List.take_of_length_le (by rw [List.length_drop]; omega)]
  · rw [Nat.min_eq_right (show xs.length ≤ a by omega), List.drop_of_length_le (Nat.le_refl _), List.take_nil, List.drop_of_length_le (by rw [List.length_take]; omega)]
theorem EW_slL {tl th : L2.St → Hp → (Option Int → Hp → Prop) → Prop} (q : EW K te Γ fun _ d Γ1 => PW' K tl Γ1 fun l Γ2 => PW' K th Γ2 fun u Γ3 => ∃ ds, d = .list ds ∧ QE (.li .lf) (.list (cutG ds l u)) Γ3) : EW K (tSl (rSlL K) te tl th) Γ QE := fun σ H L G S k => q σ H L _ S fun s d Γ1 x H1 q1 S1 => q1 σ H1 _ _ S1 fun l Γ2 H2 q2 S2 => q2 σ H2 _ _ S2 fun u Γ3 H3 ⟨ds, e, q3⟩ S3 => by
  subst e
  obtain ⟨M, R, back⟩ := S3.lift (A := [.ow s x (.list ds)])
  obtain ⟨a, xs, rfl, l1, h1, R1⟩ := R.fz.sv mem_here
  have R3 : Rp K H3 (.ps (Sv K a xs ds) :: M) := R1.wk (.take .here (.drop .refl))
  have cut : ∀ {xs : List V} {ds : List PyData} {k j : Nat}, DqAll K H3 xs ds → DqAll K H3 xs ds := fun h => h
  have R4 := R3.imp (P' := fun H => DqAll K H (cutV xs l u) (cutG ds l u)) (fun H h => ?_) (fun H H' sm h => dqAll_same sm _ _ h)
  · have R5 := (Rp.svAll (a := a) R4).perm List.perm_middle |>.tail
    exact ⟨a, xs, rfl, SqL.of h1, fun p np => k _ _ _ _ _ q3 (back _ [.ow (.li .lf) (.ref p) _] (Rp.mkL R5 (by unfold cutV cutG; rw [List.length_take, List.length_take, List.length_drop, List.length_drop, l1]) np))⟩
  · have key1 : ∀ {xs : List V} {ds : List PyData} (k : Nat), DqAll K H xs ds → DqAll K H (xs.drop k) (ds.drop k) := fun {xs ds} k h => by
      induction k generalizing xs ds with
      | zero => exact h
      | succ k ih =>
        cases h with
        | nil => exact .nil
        | cons _ h2 => exact ih h2
    have key2 : ∀ {xs : List V} {ds : List PyData} (k : Nat), DqAll K H xs ds → DqAll K H (xs.take k) (ds.take k) := fun {xs ds} k h => by
      induction k generalizing xs ds with
      | zero => exact .nil
      | succ k ih =>
        cases h with
        | nil => exact .nil
        | cons h1 h2 => exact .cons h1 (ih h2)
    unfold cutV cutG
    rw [l1]
    exact key2 _ (key1 _ h.2)
/-! sets of ints, list(range(..)) -/
theorem EW_lenSet (q : EW K te Γ fun _ d Γ1 => ∃ ns : List Int, d = IL ns ∧ ns.length < 2000 ∧ QE .lf (.int ((nub ns).length : Nat)) Γ1) : EW K (tLenSet K te) Γ QE := fun σ H L G S k => q σ H L _ S fun s d Γ1 v H1 ⟨ns, e, z, q1⟩ S1 => by
  subst e
  obtain ⟨M, R, back⟩ := S1.lift (A := [.ow s v (IL ns)])
  obtain ⟨a, rfl⟩ := sh_lst R
  exact ⟨a, ns, rfl, R.ilS mem_here, z, k _ _ _ _ _ q1 (S1.tail.flat (.int _) rfl)⟩
theorem EW_sortSet (q : EW K te Γ fun _ d Γ1 => ∃ ns : List Int, d = IL ns ∧ ns.length < 64 ∧ QE (.li .lf) (IL (sortN ns)) Γ1) : EW K (tSortSet K te) Γ QE := fun σ H L G S k => q σ H L _ S fun s d Γ1 v H1 ⟨ns, e, z, q1⟩ S1 => by
  subst e
  obtain ⟨M, R, back⟩ := S1.lift (A := [.ow s v (IL ns)])
  obtain ⟨a, rfl⟩ := sh_lst R
  exact ⟨a, ns, rfl, R.ilS mem_here, z, fun p np => k _ _ _ _ _ q1 (back _ [.ow (.li .lf) (.ref p) _] (Rp.mkI R.tail np))⟩
theorem EW_len3 {k : Nat} (q : AtB Γ n fun _ d1 _ => AtB Γ m fun _ d2 _ => AtB Γ k fun _ d3 _ => ∃ x y z, d1 = .int x ∧ d2 = .int y ∧ d3 = .int z ∧ QE .lf (.int ((nub [x, y, z]).length : Nat)) Γ) : EW K (tLen3 n m k) Γ QE := fun σ H L G S kk => by
  obtain ⟨b, s, d, h, hb, b1, s1, d1, h1, hb1, b2, s2, d2, h2, hb2, x, y, z, rfl, rfl, rfl, q⟩ := q
  obtain ⟨w, M, hw, R, _, _⟩ := S.focus h hb
  obtain ⟨w1, M1, hw1, R1, _, _⟩ := S.focus h1 hb1
  obtain ⟨w2, M2, hw2, R2, _, _⟩ := S.focus h2 hb2
  obtain rfl := sh_int R
  obtain rfl := sh_int R1
  obtain rfl := sh_int R2
  exact ⟨x, y, z, hw, hw1, hw2, kk _ _ _ _ _ q (S.flat (.int _) rfl)⟩
/-- list(range(..)) -/
def RgW (K : PySem.W.Frag) (tg : L2.St → Hp → (Int → Int → Hp → Prop) → Prop) (Γ : Ev) (Q : Int → Int → Ev → Prop) : Prop := ∀ (σ : L2.St) (H : Hp) (L : List It) (G : Int → Int → Hp → Prop), Stt K Γ σ H L → (∀ i j Γ' H', Q i j Γ' → Stt K Γ' σ H' L → G i j H') → tg σ H G
theorem RgW_1 {QR : Int → Int → Ev → Prop} (q : EW K te Γ fun _ d Γ1 => ∃ j, d = .int j ∧ QR 0 j Γ1) : RgW K (tRg1 te) Γ QR := fun σ H L G S k => q σ H L _ S fun s d Γ1 v H1 ⟨i, e, q1⟩ S1 => by
  subst e
  obtain rfl := S1.int'
  exact ⟨i, rfl, k _ _ _ _ q1 S1.tail⟩
theorem RgW_2 {QR : Int → Int → Ev → Prop} (q : EW K ta Γ fun _ d Γ1 => EW K tb Γ1 fun _ e Γ2 => ∃ i j, d = .int i ∧ e = .int j ∧ QR i j Γ2) : RgW K (tRg2 ta tb) Γ QR := fun σ H L G S k => q σ H L _ S fun s d Γ1 v H1 q1 S1 => q1 σ H1 _ _ S1 fun s' e Γ2 u H2 ⟨i, j, e1, e2, q2⟩ S2 => by
  subst e1 e2
  obtain rfl := S2.int'
  obtain rfl := S2.tail.int'
  exact ⟨i, j, rfl, rfl, k _ _ _ _ q2 S2.tail.tail⟩
theorem EW_lstRg {tg : L2.St → Hp → (Int → Int → Hp → Prop) → Prop} (q : RgW K tg Γ fun i j Γ1 => (0 ≤ i ∧ i ≤ 16777216 ∧ 0 ≤ j ∧ j ≤ 16777216) ∧ QE (.li .lf) (IL (rg i (j - i).toNat)) Γ1) : EW K (tLstRg tg) Γ QE := fun σ H L G S k => q σ H L _ S fun i j Γ1 H1 ⟨h, q1⟩ S1 => by
  obtain ⟨I, E, R⟩ := S1
  exact g_lstRg R h fun c hc R2 => k _ _ _ _ _ q1 ⟨I, E, R2.dim⟩
end
/-! ### boxes: the steps as instances -/
section
variable {K : PySem.W.Frag} {Γ Γ1 : Ev} {s s' s1 s2 s3 : Own} {d d' e d1 d2 d3 : PyData} {ds es : List PyData} {n m k : Nat} {te ta tb tc ti tj : TE} {tt tu : TT} {tr tr2 : TA} {i j : Int} {Q : Own → PyData → Prop} {QE : Own → PyData → Ev → Prop} {QT : Bool → Ev → Prop} {QA : List (Own × PyData) → Ev → Prop} {QV : Ev → Prop} {QL : List PyData → Ev → Prop} {P : Po} {t u : L2.TS} {g : TG} {gs : TGs} {wi : TI} {r r' : R2} {rc : List V → Hp → VK → Prop} {vs : List Nat} {bs : List (Own × PyData)} {b c : Bool} {z : Str}
-- statements
instance : St1 (SW K (tSeq t u) Γ P) (SW K t Γ { P with nx := fun Γ1 => SW K u Γ1 P }) := ⟨SW_seq⟩
instance : St1 (SW K tNext Γ P) (P.nx Γ) := ⟨SW_next⟩
instance : St1 (SW K tBreak Γ P) (P.bk Γ) := ⟨SW_break⟩
instance : St1 (SW K tCont Γ P) (P.ct Γ) := ⟨SW_cont⟩
instance : St1 (SW K (tIfS tt t u) Γ P) (TW K tt Γ fun c Γ1 => if c = true then SW K t Γ1 P else SW K u Γ1 P) := ⟨SW_if⟩
instance (priority := 900) : St1 (SW K (tRet te) Γ P) (EW K te Γ P.rt) := ⟨SW_ret⟩
instance : St1 (SW K (tRet (tVar n)) Γ P) (AtB Γ n fun s d _ => P.rt s d (Γ.set n .un)) := ⟨fun ⟨_, _, _, h, hb, q⟩ => SW_retV h hb q⟩
instance : St1 (SW K tRetN Γ P) (P.rt .lf .none Γ) := ⟨SW_retN⟩
instance : St1 (SW K (tDrop te) Γ P) (EW K te Γ fun _ _ Γ1 => P.nx Γ1) := ⟨SW_drop⟩
instance : St1 (SW K (tAsg te g) Γ P) (EW K te Γ fun s d Γ1 => GW K g s d Γ1 P.nx) := ⟨SW_asg⟩
instance : St1 (SW K (tFor wi g t) Γ P) (IW K wi Γ fun ds Γ1 => ForB K ds g t Γ1 P) := ⟨SW_for⟩
instance : St1 (SW K (tPar n m tr) Γ P) (AW K tr Γ fun bs Γ1 => ∃ s1 d1 s2 d2, bs = [(s1, d1), (s2, d2)] ∧ P.nx ((Γ1.set n (.v s1 d1)).set m (.v s2 d2))) := ⟨SW_par⟩
instance {f : Own → PyData → Own → PyData → Prop} : St1 (∃ a b c d, [(s1, d1), (s2, d2)] = [(a, b), (c, d)] ∧ f a b c d) (f s1 d1 s2 d2) := ⟨fun q => ⟨_, _, _, _, rfl, q⟩⟩
instance {gf : Int → Int → Int} : St1 (SW K (tAug n te (ipI gf)) Γ P) (AtB Γ n fun _ d _ => ∃ i, d = .int i ∧ EW K te Γ fun _ e Γ1 => ∃ j, e = .int j ∧ P.nx (Γ1.set n (.v .lf (.int (gf i j))))) := ⟨SW_augI⟩
-- targets
instance : St1 (GW K (gName n) s d Γ QV) (QV (Γ.set n (.v s d))) := ⟨GW_name⟩
instance : St1 (GsB K gNil [] Γ QV) (QV Γ) := ⟨GsB_nil⟩
instance : St1 (GsB K (gCons g gs) (d :: ds) Γ QV) (GW K g .lf d Γ fun Γ1 => GsB K gs ds Γ1 QV) := ⟨GsB_cons⟩
instance : St1 (GsC K gNil [] Γ vs QV) (QV Γ) := ⟨GsC_nil⟩
instance : St1 (GsC K (gCons g gs) (d :: ds) Γ vs QV) (GC K g .lf d Γ vs fun Γ1 => GsC K gs ds Γ1 vs QV) := ⟨GsC_cons⟩
instance : St1 (GW K (gTup K 2 gs) s (.tuple [d1, d2]) Γ QV) (GsB K gs [d1, d2] Γ QV) := ⟨GW_tupB rfl⟩
instance : St1 (GW K (gTup K 3 gs) s (.tuple [d1, d2, d3]) Γ QV) (GsB K gs [d1, d2, d3] Γ QV) := ⟨GW_tupB rfl⟩
instance {d4 : PyData} : St1 (GW K (gTup K 4 gs) s (.tuple [d1, d2, d3, d4]) Γ QV) (GsB K gs [d1, d2, d3, d4] Γ QV) := ⟨GW_tupB rfl⟩
instance : St1 (GC K (gTup K 2 gs) s (.tuple [d1, d2]) Γ vs QV) (GsC K gs [d1, d2] Γ vs QV) := ⟨GC_tupB rfl⟩
instance : St1 (GC K (gTup K 3 gs) s (.tuple [d1, d2, d3]) Γ vs QV) (GsC K gs [d1, d2, d3] Γ vs QV) := ⟨GC_tupB rfl⟩
-- constants
instance : St1 (EW K (tC (.int i)) Γ QE) (QE .lf (.int i) Γ) := ⟨EW_int⟩
instance : St1 (EW K (tC (.bl b)) Γ QE) (QE .lf (.bool b) Γ) := ⟨EW_bl⟩
instance : St1 (EW K (tC (.str z)) Γ QE) (QE .lf (.str z) Γ) := ⟨EW_str⟩
instance : St1 (EW K (tC .non) Γ QE) (QE .lf .none Γ) := ⟨EW_non⟩
-- operations
instance (priority := 500) : St1 (EW K (tOp r ta tb) Γ QE) (EW K ta Γ fun s d Γ1 => EW K tb Γ1 fun s' e Γ2 => OW K r s d s' e fun s2 d2 => QE s2 d2 Γ2) := ⟨EW_op⟩
class RdC (r : R2) : Prop where
instance : RdC (rEqD K) := ⟨⟩
instance : RdC (rNeD K) := ⟨⟩
instance : RdC (rInD K) := ⟨⟩
instance : RdC (rNotInD K) := ⟨⟩
instance : RdC (rIn K b) := ⟨⟩
instance : RdC rIsN := ⟨⟩
instance : RdC rNotN := ⟨⟩
instance (priority := 700) [RdC r] : St1 (EW K (tOp r (tVar n) tb) Γ QE) (AtB Γ n fun _ _ _ => EW K tb Γ fun s' e Γ2 => AtB Γ2 n fun s d _ => OM K r d e fun s2 d2 => QE s2 d2 Γ2) := ⟨EW_opVB⟩
instance (priority := 600) [RdC r] : St1 (EW K (tOp r ta (tVar n)) Γ QE) (EW K ta Γ fun s d Γ1 => AtB Γ1 n fun s' e _ => OM K r d e fun s2 d2 => QE s2 d2 Γ1) := ⟨EW_opW⟩
instance (priority := 700) : St1 (EW K (tOp (rIxL K) (tVar n) ti) Γ QE) (AtB Γ n fun _ _ _ => EW K ti Γ fun _ e Γ2 => AtB Γ2 n fun s d _ => IxB s d e fun d' => QE .lf d' Γ2) := ⟨EW_ixOB⟩
instance : St1 (OW K (rIxL K) s d s' e Q) (IxB .lf d e fun d' => Q .lf d') := ⟨OW_ixB⟩
instance : St1 (OW K (rIxT K) s d s' e Q) (IxTB d e fun d' => Q .lf d') := ⟨OW_ixTB⟩
instance : St1 (OW K (rEqD K) s d s' e Q) (OM K (rEqD K) d e Q) := ⟨OM.ow⟩
instance : St1 (OW K (rNeD K) s d s' e Q) (OM K (rNeD K) d e Q) := ⟨OM.ow⟩
instance : St1 (OW K (rInD K) s d s' e Q) (OM K (rInD K) d e Q) := ⟨OM.ow⟩
instance : St1 (OW K (rNotInD K) s d s' e Q) (OM K (rNotInD K) d e Q) := ⟨OM.ow⟩
instance : St1 (OW K (rIn K b) s d s' e Q) (OM K (rIn K b) d e Q) := ⟨OM.ow⟩
instance : St1 (OW K rIsN s d s' e Q) (OM K rIsN d e Q) := ⟨OM.ow⟩
instance : St1 (OW K rNotN s d s' e Q) (OM K rNotN d e Q) := ⟨OM.ow⟩
instance [EqC d e b] : St1 (OM K (rEqD K) d e Q) (Q .lf (.bool b)) := ⟨OM_eqD⟩
instance [EqC d e b] : St1 (OM K (rNeD K) d e Q) (Q .lf (.bool (!b))) := ⟨OM_neD⟩
instance [NnC d b] : St1 (OM K rIsN d .none Q) (Q .lf (.bool b)) := ⟨OM_isN⟩
instance [NnC d b] : St1 (OM K rNotN d .none Q) (Q .lf (.bool (!b))) := ⟨OM_notN⟩
instance {ns : List Int} : St1 (OM K (rIn K false) (.int i) (IL ns) Q) (Q .lf (.bool (decide (i ∈ ns)))) := ⟨OM_in⟩
instance {ns : List Int} : St1 (OM K (rIn K true) (.int i) (IL ns) Q) (Q .lf (.bool (!decide (i ∈ ns)))) := ⟨OM_ni⟩
instance {ns : List Int} : St1 (OM K (rIn K false) (.int i) (.tuple (ns.map PyData.int)) Q) (Q .lf (.bool (decide (i ∈ ns)))) := ⟨OM_inT⟩
instance {ns : List Int} {cs : List (List Int)} : St1 (OM K (rInD K) (IL ns) (LD cs) Q) (Q .lf (.bool (decide (ns ∈ cs)))) := ⟨OM_inD (f := IL)⟩
instance {ns : List Int} {cs : List (List Int)} : St1 (OM K (rNotInD K) (IL ns) (LD cs) Q) (Q .lf (.bool (!decide (ns ∈ cs)))) := ⟨OM_niD (f := IL)⟩
instance {x : Rat} {xs : List Rat} : St1 (OM K (rInD K) (FD x) (FL xs) Q) (Q .lf (.bool (decide (x ∈ xs)))) := ⟨OM_inD (f := FD)⟩
instance {x : Rat} {xs : List Rat} : St1 (OM K (rNotInD K) (FD x) (FL xs) Q) (Q .lf (.bool (!decide (x ∈ xs)))) := ⟨OM_niD (f := FD)⟩
instance {gf : Int → Int → Int} : St1 (OW K (rI0 fun i j => .int (gf i j)) s (.int i) s' (.int j) Q) (Q .lf (.int (gf i j))) := ⟨OW_II⟩
instance {gf : Int → Int → Bool} : St1 (OW K (rI0 fun i j => .bl (gf i j)) s (.int i) s' (.int j) Q) (Q .lf (.bool (gf i j))) := ⟨OW_IB⟩
instance : St1 (OW K rEq s (.int i) s' (.int j) Q) (Q .lf (.bool (decide (i = j)))) := ⟨OW_eqI⟩
instance : St1 (OW K rNe s (.int i) s' (.int j) Q) (Q .lf (.bool (!decide (i = j)))) := ⟨OW_neI⟩
instance {a b : Bool} : St1 (OW K rEq s (.bool a) s' (.bool b) Q) (Q .lf (.bool (decide (a = b)))) := ⟨OW_eqB⟩
instance {a b : Bool} : St1 (OW K rNe s (.bool a) s' (.bool b) Q) (Q .lf (.bool (!decide (a = b)))) := ⟨OW_neB⟩
instance {a b : Str} : St1 (OW K rEq s (.str a) s' (.str b) Q) (Q .lf (.bool (decide (a = b)))) := ⟨OW_eqS⟩
instance {a b : Str} : St1 (OW K rNe s (.str a) s' (.str b) Q) (Q .lf (.bool (!decide (a = b)))) := ⟨OW_neS⟩
instance : St1 (EW K (tUn (rU fun i => .int (-i)) ta) Γ QE) (EW K ta Γ fun s d Γ1 => ∃ i, d = .int i ∧ QE .lf (.int (-i)) Γ1) := ⟨EW_neg⟩
-- arguments, displays
instance : St1 (AW K tNil Γ QA) (QA [] Γ) := ⟨AW_nil⟩
instance : St1 (AW K (tCons te tr) Γ QA) (EW K te Γ fun s d Γ1 => AW K tr Γ1 fun bs Γ2 => QA ((s, d) :: bs) Γ2) := ⟨AW_cons⟩
instance : St1 (EW K (tTup tr) Γ QE) (AW K tr Γ fun bs Γ1 => TupB bs fun s d => QE s d Γ1) := ⟨EW_tupB⟩
instance : St1 (EW K (tLst tr) Γ QE) (AW K tr Γ fun bs Γ1 => LstB bs fun s d => QE s d Γ1) := ⟨EW_lstB⟩
-- tests
instance : St1 (TW K (tTest te) Γ QT) (EW K te Γ fun _ d Γ1 => ∃ c, d = .bool c ∧ QT c Γ1) := ⟨TW_test⟩
instance : St1 (TW K (tB te) Γ QT) (EW K te Γ fun _ d Γ1 => ∃ c, d = .bool c ∧ QT c Γ1) := ⟨TW_tB⟩
instance : St1 (TW K (tNot tt) Γ QT) (TW K tt Γ fun c Γ1 => QT (!c) Γ1) := ⟨TW_not⟩
instance : St1 (TW K (tAnd tt tu) Γ QT) (TW K tt Γ fun c Γ1 => if c = true then TW K tu Γ1 QT else QT false Γ1) := ⟨TW_and⟩
instance : St1 (TW K (tOr tt tu) Γ QT) (TW K tt Γ fun c Γ1 => if c = true then QT true Γ1 else TW K tu Γ1 QT) := ⟨TW_or⟩
instance : St1 (TW K tYes Γ QT) (QT true Γ) := ⟨TW_yes⟩
instance : St1 (EW K (tAndV ta tb) Γ QE) (EW K ta Γ fun s d Γ1 => ∃ c, d = .bool c ∧ if c = true then EW K tb Γ1 QE else QE .lf (.bool false) Γ1) := ⟨EW_andV⟩
instance : St1 (EW K (tOrV ta tb) Γ QE) (EW K ta Γ fun s d Γ1 => ∃ c, d = .bool c ∧ if c = true then QE .lf (.bool true) Γ1 else EW K tb Γ1 QE) := ⟨EW_orV⟩
instance : St1 (EW K (tNotV ta) Γ QE) (EW K ta Γ fun s d Γ1 => ∃ c, d = .bool c ∧ QE .lf (.bool (!c)) Γ1) := ⟨EW_notV⟩
instance : St1 (EW K (tIf tt ta tb) Γ QE) (TW K tt Γ fun c Γ1 => if c = true then EW K ta Γ1 QE else EW K tb Γ1 QE) := ⟨EW_if⟩
instance : St1 (EW K (tChain r r' ta tb tc) Γ QE) (EW K ta Γ fun _ d Γ1 => EW K tb Γ1 fun _ e Γ2 => ∃ i j, d = .int i ∧ e = .int j ∧ OW K r .lf (.int i) .lf (.int j) fun _ d2 => ∃ c, d2 = .bool c ∧ if c = true then EW K tc Γ2 fun s3 f Γ3 => OW K r' .lf (.int j) s3 f fun s4 d4 => QE s4 d4 Γ3 else QE .lf (.bool false) Γ2) := ⟨EW_chain⟩
instance {F : Bool → Prop} : St1 (∃ c, PyData.bool b = .bool c ∧ F c) (F b) := ⟨fun q => ⟨_, rfl, q⟩⟩
instance {F : Int → Prop} : St1 (∃ c, PyData.int i = .int c ∧ F c) (F i) := ⟨fun q => ⟨_, rfl, q⟩⟩
instance {F : List PyData → Prop} : St1 (∃ c, PyData.list ds = .list c ∧ F c) (F ds) := ⟨fun q => ⟨_, rfl, q⟩⟩
instance {F : List PyData → Prop} : St1 (∃ c, PyData.tuple ds = .tuple c ∧ F c) (F ds) := ⟨fun q => ⟨_, rfl, q⟩⟩
instance {F : Int → Int → Prop} : St1 (∃ a b, PyData.int i = .int a ∧ PyData.int j = .int b ∧ F a b) (F i j) := ⟨fun q => ⟨_, _, rfl, rfl, q⟩⟩
instance {F : List Int → Prop} {ns : List Int} : St1 (∃ c, IL ns = IL c ∧ F c) (F ns) := ⟨fun q => ⟨_, rfl, q⟩⟩
instance {F : Int → Int → Int → Prop} {x y w : Int} : St1 (∃ a b c, PyData.int x = .int a ∧ PyData.int y = .int b ∧ PyData.int w = .int c ∧ F a b c) (F x y w) := ⟨fun q => ⟨_, _, _, rfl, rfl, rfl, q⟩⟩
-- iterators
instance : St1 (IW K (iList K te) Γ QL) (EW K te Γ fun _ d Γ1 => ∃ ds, d = .list ds ∧ QL ds Γ1) := ⟨IW_list⟩
instance : St1 (IW K (iTup K te) Γ QL) (EW K te Γ fun _ d Γ1 => ∃ ds, d = .tuple ds ∧ QL ds Γ1) := ⟨IW_tup⟩
instance : St1 (IW K (iZip K tr) Γ QL) (AW K tr Γ fun bs Γ1 => ∃ s s' ds es, bs = [(s, .list ds), (s', .list es)] ∧ QL (List.zipWith (fun x y => .tuple [x, y]) ds es) Γ1) := ⟨IW_zip⟩
instance {F : List PyData → List PyData → Prop} : St1 (∃ (a a' : Own) (c c' : List PyData), [(s, PyData.list ds), (s', PyData.list es)] = [(a, .list c), (a', .list c')] ∧ F c c') (F ds es) := ⟨fun q => ⟨_, _, _, _, rfl, q⟩⟩
instance : St1 (IW K (iEnum K tr) Γ QL) (AW K tr Γ fun bs Γ1 => ∃ s ds, bs = [(s, .list ds)] ∧ QL (enumD ds) Γ1) := ⟨IW_enum⟩
instance {F : List PyData → Prop} : St1 (∃ (a : Own) (c : List PyData), [(s, PyData.list ds)] = [(a, .list c)] ∧ F c) (F ds) := ⟨fun q => ⟨_, _, rfl, q⟩⟩
def Rg1B (i : Int) (F : Prop) : Prop := (-(2 ^ 62) ≤ i ∧ i < 2 ^ 62) ∧ F
def Rg2B (i j : Int) (F : Prop) : Prop := (-(2 ^ 62) ≤ i ∧ i < 2 ^ 62 ∧ -(2 ^ 62) ≤ j ∧ j < 2 ^ 62) ∧ F
def Rg1C (i : Int) (F : Nat → Prop) : Prop := (-(2 ^ 62) ≤ i ∧ i < 2 ^ 62) ∧ F i.toNat
theorem Rg1C_i {F : Nat → Prop} (h : -(2 ^ 62) ≤ i ∧ i < 2 ^ 62) (q : F i.toNat) : Rg1C i F := ⟨h, q⟩
theorem Rg1C_n {F : Nat → Prop} (h : n < 2 ^ 62) (q : F n) : Rg1C ((n : Nat) : Int) F := ⟨by omega, q⟩
theorem Rg1C_s {F : Nat → Prop} (h : n < 2 ^ 61) (q : F (n + 1)) : Rg1C (((n : Nat) : Int) + 1) F := ⟨by omega, q⟩
theorem IW_rng1C (q : AW K tr Γ fun bs Γ1 => ∃ s j, bs = [(s, .int j)] ∧ Rg1C j fun m => QL ((List.range m).map fun i : Nat => .int (i : Int)) Γ1) : IW K (iRng1 tr) Γ QL := IW_rng1 q
def Rg2C (i j : Int) (F : List PyData → Prop) : Prop := (-(2 ^ 62) ≤ i ∧ i < 2 ^ 62 ∧ -(2 ^ 62) ≤ j ∧ j < 2 ^ 62) ∧ F ((List.range (j - i).toNat).map fun k : Nat => .int (i + (k : Int)))
theorem Rg2C_i {F : List PyData → Prop} (h : -(2 ^ 62) ≤ i ∧ i < 2 ^ 62 ∧ -(2 ^ 62) ≤ j ∧ j < 2 ^ 62) (q : F ((List.range (j - i).toNat).map fun k : Nat => .int (i + (k : Int)))) : Rg2C i j F := ⟨h, q⟩
theorem Rg2C_of {F : List PyData → Prop} (a c : Nat) (e1 : i = (a : Int)) (e2 : j = (c : Int)) (h1 : a < 2 ^ 62) (h2 : c < 2 ^ 62) (q : F ((List.range (c - a)).map fun k : Nat => .int ((a + k : Nat) : Int))) : Rg2C i j F := by
  subst e1 e2
  refine ⟨by omega, ?_⟩
  rw [show ((c : Int) - (a : Int)).toNat = c - a by omega, show (fun k : Nat => PyData.int ((a : Int) + (k : Int))) = fun k : Nat => .int ((a + k : Nat) : Int) from funext fun k => by rw [Int.natCast_add]]
  exact q
theorem Rg2C_n {a : Nat} {F : List PyData → Prop} (h1 : a < 2 ^ 61) (h2 : n < 2 ^ 61) (q : F ((List.range (n - (a + 1))).map fun k : Nat => .int ((a + 1 + k : Nat) : Int))) : Rg2C ((a : Nat) + 1) ((n : Nat) : Int) F := Rg2C_of (a + 1) n (by omega) rfl (by omega) (by omega) q
theorem Rg2C_1 {F : List PyData → Prop} (h2 : n < 2 ^ 61) (q : F ((List.range (n - 1)).map fun k : Nat => .int ((1 + k : Nat) : Int))) : Rg2C 1 ((n : Nat) : Int) F := Rg2C_of 1 n (by omega) rfl (by omega) (by omega) q
theorem IW_rng2C (q : AW K tr Γ fun bs Γ1 => ∃ s s' i j, bs = [(s, .int i), (s', .int j)] ∧ Rg2C i j fun ds => QL ds Γ1) : IW K (iRng2 tr) Γ QL := IW_rng2 q
theorem IW_rng1B (q : AW K tr Γ fun bs Γ1 => ∃ s j, bs = [(s, .int j)] ∧ Rg1B j (QL ((List.range j.toNat).map fun i : Nat => .int (i : Int)) Γ1)) : IW K (iRng1 tr) Γ QL := IW_rng1 q
theorem IW_rng2B (q : AW K tr Γ fun bs Γ1 => ∃ s s' i j, bs = [(s, .int i), (s', .int j)] ∧ Rg2B i j (QL ((List.range (j - i).toNat).map fun k : Nat => .int (i + (k : Int))) Γ1)) : IW K (iRng2 tr) Γ QL := IW_rng2 q
instance : St1 (IW K (iRng1 tr) Γ QL) (AW K tr Γ fun bs Γ1 => ∃ s j, bs = [(s, .int j)] ∧ Rg1C j fun m => QL ((List.range m).map fun i : Nat => .int (i : Int)) Γ1) := ⟨IW_rng1C⟩
instance : St1 (IW K (iRng2 tr) Γ QL) (AW K tr Γ fun bs Γ1 => ∃ s s' i j, bs = [(s, .int i), (s', .int j)] ∧ Rg2C i j fun ds => QL ds Γ1) := ⟨IW_rng2C⟩
instance {F : Int → Prop} : St1 (∃ (a : Own) (c : Int), [(s, PyData.int i)] = [(a, .int c)] ∧ F c) (F i) := ⟨fun q => ⟨_, _, rfl, q⟩⟩
instance {F : Int → Int → Prop} : St1 (∃ (a a' : Own) (c c' : Int), [(s, PyData.int i), (s', .int j)] = [(a, .int c), (a', .int c')] ∧ F c c') (F i j) := ⟨fun q => ⟨_, _, _, _, rfl, q⟩⟩
-- comprehensions
instance : St1 (EW K (tLc wi g tt te vs) Γ QE) (IW K wi Γ fun ds Γ1 => LcB K ds g tt te vs Γ1 QE) := ⟨EW_lc⟩
-- changes
instance : St1 (EW K (tBM K "list" rAppend (tVar n) (tCons te tNil)) Γ QE) (AtB Γ n fun _ d _ => ∃ es, d = .list es ∧ EW K te Γ fun s d Γ1 => AppB Γ1 n s d fun Γ2 => QE .lf .none Γ2) := ⟨EW_appB⟩
instance : St1 (EW K (tBM K "list" rExtend (tVar n) (tCons te tNil)) Γ QE) (AtB Γ n fun _ d _ => ∃ es, d = .list es ∧ EW K te Γ fun s d Γ1 => ExtB Γ1 n s d fun Γ2 => QE .lf .none Γ2) := ⟨EW_extB⟩
instance : St1 (EW K (tBM0 K "list" rPop (tVar n)) Γ QE) (AtB Γ n fun s d b => ∃ s1 ds e, s = .li s1 ∧ d = .list (ds ++ [e]) ∧ QE s1 e (Γ.set n (b.to (.li s1) (.list ds)))) := ⟨EW_pop⟩
-- calls
instance {pre : List PyData → (Own → PyData → Prop) → Prop} {E : XK} : St1 (EW K (tCall (spV K pre) [] E tr) Γ QE) (AW K tr Γ fun bs Γ1 => SndB bs fun ds => pre ds fun s d => QE s d Γ1) := ⟨EW_callB⟩
instance {pre : Own → PyData → List PyData → (Own → PyData → PyData → Prop) → Prop} {E : XK} : St1 (EW K (tCall (spM K pre) [] E (tCons (tVar n) tr)) Γ QE) (AtB Γ n fun _ _ _ => AW K tr Γ fun bs Γ1 => SndB bs fun ds => AtB Γ1 n fun s d b => pre s d ds fun s2 r d2 => QE s2 r (Γ1.set n (b.to s d2))) := ⟨EW_callMB⟩
-- built-in calls
instance (priority := 500) : St1 (EW K (tCB rc tr) Γ QE) (AW K tr Γ fun bs Γ1 => CW K rc bs fun s d => QE s d Γ1) := ⟨EW_cb⟩
class RcC (rc : List V → Hp → VK → Prop) : Prop where
instance : RcC (rLenSeq K) := ⟨⟩
instance : RcC rLenStr := ⟨⟩
instance : RcC rAbs := ⟨⟩
instance : RcC rInt1 := ⟨⟩
instance : RcC (rSum K) := ⟨⟩
instance : RcC (rMin K) := ⟨⟩
instance : RcC (rMax K) := ⟨⟩
instance : RcC (rAll K) := ⟨⟩
instance : RcC (rAny K) := ⟨⟩
instance : RcC (rSortedI K) := ⟨⟩
instance (priority := 700) [RcC rc] : St1 (EW K (tCB rc (tCons (tVar n) tNil)) Γ QE) (AtB Γ n fun s d _ => CM K rc d fun s2 d2 => QE s2 d2 Γ) := ⟨EW_cbV⟩
instance (priority := 600) [RcC rc] : St1 (CW K rc [(s, d)] Q) (CM K rc d Q) := ⟨CM.cw⟩
instance (priority := 500) : St1 (CM K (rLenSeq K) (.list ds) Q) (Q .lf (.int (ds.length : Nat))) := ⟨CM_len⟩
instance (priority := 500) : St1 (CM K (rLenSeq K) (.tuple ds) Q) (Q .lf (.int (ds.length : Nat))) := ⟨CM_lenT⟩
instance (priority := 600) {α : Type} {f : α → PyData} {xs : List α} : St1 (CM K (rLenSeq K) (.list (xs.map f)) Q) (Q .lf (.int (xs.length : Nat))) := ⟨fun q => CM_len (by rw [List.length_map]; exact q)⟩
instance (priority := 700) {α : Type} {f : List α → PyData} {gg : Nat → Nat → α} : St1 (CM K (rLenSeq K) (.list ((tabG n gg).map f)) Q) (Q .lf (.int (n : Nat))) := ⟨fun q => CM_len (by rw [List.length_map, tabG_len]; exact q)⟩
instance (priority := 700) {α : Type} {f : α → PyData} {gg : Nat → α} : St1 (CM K (rLenSeq K) (.list ((rowG n gg).map f)) Q) (Q .lf (.int (n : Nat))) := ⟨fun q => CM_len (by rw [List.length_map, rowG_len]; exact q)⟩
instance : St1 (CM K rAbs (.int i) Q) (Q .lf (.int (if i < 0 then -i else i))) := ⟨CM_abs⟩
instance : St1 (CM K rInt1 (.int i) Q) (Q .lf (.int i)) := ⟨CM_intI⟩
instance : St1 (CM K rInt1 (.bool b) Q) (Q .lf (.int (if b then 1 else 0))) := ⟨CM_intB⟩
instance {ns : List Int} : St1 (CM K (rSum K) (IL ns) Q) (Q .lf (.int ns.sum)) := ⟨CM_sum⟩
instance : St1 (CW K rMax2 [(s, .int i), (s', .int j)] Q) (Q .lf (.int (if j > i then j else i))) := ⟨CW_max2⟩
instance : St1 (CW K rMin2 [(s, .int i), (s', .int j)] Q) (Q .lf (.int (if j < i then j else i))) := ⟨CW_min2⟩
instance {m : Int} {s3 : Own} : St1 (CW K rMax3 [(s, .int i), (s', .int j), (s3, .int m)] Q) (Q .lf (.int (max (max i j) m))) := ⟨CW_max3⟩
instance {xs : List Bool} : St1 (CM K (rAll K) (.list (xs.map PyData.bool)) Q) (Q .lf (.bool (xs.all id))) := ⟨CM_all⟩
instance {xs : List Bool} : St1 (CM K (rAny K) (.list (xs.map PyData.bool)) Q) (Q .lf (.bool (xs.any id))) := ⟨CM_any⟩
instance : St1 (CW K (rListOf K) [(s, .list ds)] Q) (Q (.li .lf) (.list ds)) := ⟨CW_list⟩
instance : St1 (CW K (rListOf K) [(s, .tuple ds)] Q) (Q (.li .lf) (.list ds)) := ⟨CW_listT⟩
instance {F : Bool → Prop} {T : String} [IsiC d T b] : St1 (∃ b, IsiC d T b ∧ F b) (F b) := ⟨isi_i⟩
instance (priority := 800) {T : String} : St1 (EW K (tCB (rIsi K) (tCons te (tCons (tC (.ty T)) tNil))) Γ QE) (EW K te Γ fun _ d Γ1 => ∃ b, IsiC d T b ∧ QE .lf (.bool b) Γ1) := ⟨EW_isi⟩
-- slices, sets
instance {QO : Option Int → Ev → Prop} : St1 (PW' K tNoPart Γ QO) (QO none Γ) := ⟨PW'_no⟩
instance {QO : Option Int → Ev → Prop} : St1 (PW' K (tPart te) Γ QO) (EW K te Γ fun _ d Γ1 => ∃ i, d = .int i ∧ QO (some i) Γ1) := ⟨PW'_some⟩
instance {tl th : L2.St → Hp → (Option Int → Hp → Prop) → Prop} : St1 (EW K (tSl (rSlL K) te tl th) Γ QE) (EW K te Γ fun _ d Γ1 => PW' K tl Γ1 fun l Γ2 => PW' K th Γ2 fun u Γ3 => ∃ ds, d = .list ds ∧ QE (.li .lf) (.list (cutG ds l u)) Γ3) := ⟨EW_slL⟩
instance : St1 (EW K (tLenSet K te) Γ QE) (EW K te Γ fun _ d Γ1 => ∃ ns : List Int, d = IL ns ∧ ns.length < 2000 ∧ QE .lf (.int ((nub ns).length : Nat)) Γ1) := ⟨EW_lenSet⟩
instance : St1 (EW K (tSortSet K te) Γ QE) (EW K te Γ fun _ d Γ1 => ∃ ns : List Int, d = IL ns ∧ ns.length < 64 ∧ QE (.li .lf) (IL (sortN ns)) Γ1) := ⟨EW_sortSet⟩
instance : St1 (EW K (tLen3 n m k) Γ QE) (AtB Γ n fun _ d1 _ => AtB Γ m fun _ d2 _ => AtB Γ k fun _ d3 _ => ∃ x y z, d1 = .int x ∧ d2 = .int y ∧ d3 = .int z ∧ QE .lf (.int ((nub [x, y, z]).length : Nat)) Γ) := ⟨EW_len3⟩
instance {tg : L2.St → Hp → (Int → Int → Hp → Prop) → Prop} : St1 (EW K (tLstRg tg) Γ QE) (RgW K tg Γ fun i j Γ1 => (0 ≤ i ∧ i ≤ 16777216 ∧ 0 ≤ j ∧ j ≤ 16777216) ∧ QE (.li .lf) (IL (rg i (j - i).toNat)) Γ1) := ⟨EW_lstRg⟩
instance {QR : Int → Int → Ev → Prop} : St1 (RgW K (tRg1 te) Γ QR) (EW K te Γ fun _ d Γ1 => ∃ j, d = .int j ∧ QR 0 j Γ1) := ⟨RgW_1⟩
instance {QR : Int → Int → Ev → Prop} : St1 (RgW K (tRg2 ta tb) Γ QR) (EW K ta Γ fun _ d Γ1 => EW K tb Γ1 fun _ e Γ2 => ∃ i j, d = .int i ∧ e = .int j ∧ QR i j Γ2) := ⟨RgW_2⟩
end
/-! ### boxes: steps with side conditions -/
section
variable {K : PySem.W.Frag} {Γ Γ1 : Ev} {s s' s1 s2 s3 : Own} {d d' e d1 d2 d3 : PyData} {ds es fs : List PyData} {n m k : Nat} {te ta tb tc ti tj : TE} {i j : Int} {Q : Own → PyData → Prop} {QE : Own → PyData → Ev → Prop} {b b0 : Sl}
theorem Rg1B_i {F : Prop} (h : -(2 ^ 62) ≤ i ∧ i < 2 ^ 62) (q : F) : Rg1B i F := ⟨h, q⟩
theorem Rg2B_i {F : Prop} (h : -(2 ^ 62) ≤ i ∧ i < 2 ^ 62 ∧ -(2 ^ 62) ≤ j ∧ j < 2 ^ 62) (q : F) : Rg2B i j F := ⟨h, q⟩
/-- two lists put together -/
class CatC (ds es : List PyData) (fs : outParam (List PyData)) : Prop where pf : ds ++ es = fs
instance (priority := 500) : CatC ds es (ds ++ es) := ⟨rfl⟩
instance (priority := 900) {α : Type} {f : α → PyData} {xs ys : List α} : CatC (xs.map f) (ys.map f) ((xs ++ ys).map f) := ⟨List.map_append.symm⟩
instance (priority := 950) {α : Type} {f : α → PyData} {xs : List α} {x : α} : CatC (xs.map f) [f x] ((xs ++ [x]).map f) := ⟨by rw [List.map_append]; rfl⟩
instance (priority := 940) {α : Type} {f : α → PyData} {xs : List α} {x : α} : CatC [f x] (xs.map f) ((x :: xs).map f) := ⟨rfl⟩
theorem AppB_c {F : Ev → Prop} (h : Γ[n]? = some b) (hb : b.bx = some (.li s1, .list ds)) (c : CatC ds [d] fs) (hs : s = s1 ∨ s1 = .lf) (z : ds.length < 100000) (q : F (Γ.set n (b.to (.li s1) (.list fs)))) : AppB Γ n s d F := AppB_i h hb hs z (by rw [c.pf]; exact q)
theorem ExtB_c {F : Ev → Prop} (h : Γ[n]? = some b) (hb : b.bx = some (.li s1, .list ds)) (c : CatC ds es fs) (hs : s = .li s1 ∨ s1 = .lf) (z : ds.length + es.length ≤ 100000) (q : F (Γ.set n (b.to (.li s1) (.list fs)))) : ExtB Γ n s (.list es) F := ExtB_i h hb hs z (by rw [c.pf]; exact q)
theorem OW_catC [c : CatC ds es fs] (z : ds.length + es.length ≤ 100000) (q : Q (.li .lf) (.list fs)) : OW K rCat s (.list ds) s' (.list es) Q := OW_cat z (by rw [c.pf]; exact q)
theorem OW_catAC [c : CatC ds es fs] (z : ds.length + es.length ≤ 100000) (q : Q .lf (.tuple fs)) : OW K (rCatA K) s (.tuple ds) s' (.tuple es) Q := OW_catA z (by rw [c.pf]; exact q)
theorem OW_mul (c : CMulW i j) (q : Q .lf (.int (i * j))) : OW K (rI CMulW fun i j => .int (i * j)) s (.int i) s' (.int j) Q := OW_CI c q
theorem OW_mulA (c : CMulA i j) (q : Q .lf (.int (i * j))) : OW K (rI CMulA fun i j => .int (i * j)) s (.int i) s' (.int j) Q := OW_CI c q
theorem OW_div (c : CDivW i j) (q : Q .lf (.int (i / j))) : OW K (rI CDivW fun i j => .int (i / j)) s (.int i) s' (.int j) Q := OW_CI c q
theorem OW_divV (c : CDivV i j) (q : Q .lf (.int (i.fdiv j))) : OW K (rI CDivV fun i j => .int (i.fdiv j)) s (.int i) s' (.int j) Q := OW_CI c q
theorem OW_mod (c : 0 < j) (q : Q .lf (.int (i % j))) : OW K (rI (fun _ j => 0 < j) fun i j => .int (i % j)) s (.int i) s' (.int j) Q := OW_CI c q
theorem OW_modN (c : j ≠ 0) (q : Q .lf (.int (i.fmod j))) : OW K (rI (fun _ j => j ≠ 0) fun i j => .int (i.fmod j)) s (.int i) s' (.int j) Q := OW_CI c q
theorem OW_pow {z : Int} (c : CPow i j) (e : i ^ j.toNat = z) (q : Q .lf (.int z)) : OW K (rI CPow fun i j => .int (i ^ j.toNat)) s (.int i) s' (.int j) Q := OW_CI (g := fun i j => i ^ j.toNat) c (by show Q .lf (.int (i ^ j.toNat)); rw [e]; exact q)
theorem OW_shl (c : CPow i j) (q : Q .lf (.int (i * 2 ^ j.toNat))) : OW K (rI CPow fun i j => .int (i * 2 ^ j.toNat)) s (.int i) s' (.int j) Q := OW_CI (g := fun i j => i * 2 ^ j.toNat) c q
theorem OW_shr (c : 0 ≤ j) (q : Q .lf (.int (i / 2 ^ j.toNat))) : OW K (rI (fun _ j => 0 ≤ j) fun i j => .int (i / 2 ^ j.toNat)) s (.int i) s' (.int j) Q := OW_CI (C := fun _ j => 0 ≤ j) (g := fun i j => i / 2 ^ j.toNat) c q
theorem CDivW.lit (h0 : 0 < j) (h : j < 2 ^ 1000) : CDivW i j := wide_div (b := 1001) h0 (by
  have : j.natAbs = j.toNat := by omega
  have h2 : (j.toNat : Int) = j := Int.toNat_of_nonneg (by omega)
  have : (j.natAbs : Int) < 2 ^ 1001 := by
    rw [this, h2]
    exact Int.lt_trans h (by decide +kernel)
  exact_mod_cast this) (by decide) (by decide)
/-! the script -/
def SameS (K : PySem.W.Frag) (Γ : Ev) (n : Nat) (a : Addr) (ns : List Int) (B : Prop) : Prop := Γ[n]? = some (.fact (.ref a) fun H => SqL K H a (ns.map V.int)) ∧ B
theorem SameS_i {a : Addr} {ns : List Int} {B : Prop} (h : Γ[n]? = some (.fact (.ref a) fun H => SqL K H a (ns.map V.int))) (q : B) : SameS K Γ n a ns B := ⟨h, q⟩
theorem EW_callSB {pre : List Int → List PyData → (Own → PyData → Prop) → Prop} {E : XK} {tr : TA} {a : Addr} {ns : List Int} (h : Γ[n]? = some (.fact (.ref a) fun H => SqL K H a (ns.map V.int))) (q : AW K tr Γ fun bs Γ1 => SndB bs fun ds => SameS K Γ1 n a ns (pre ns ds fun s d => QE s d Γ1)) : EW K (tCall (spS K pre) [] E (tCons (tVar n) tr)) Γ QE := EW_callS h fun σ H L G S k => q σ H L G S fun bs Γ' vs H' q' => k bs Γ' vs H' ⟨q'.1, q'.2.1, q'.2.2⟩
def IxSB (K : PySem.W.Frag) (Γ : Ev) (n : Nat) (a : Addr) (ns : List Int) (e : PyData) (F : PyData → Prop) : Prop := ∃ i, e = .int i ∧ Γ[n]? = some (.fact (.ref a) fun H => SqL K H a (ns.map V.int)) ∧ 0 ≤ i ∧ i < ns.length ∧ F (.int (ns.getD i.toNat 0))
theorem IxSB_i {a : Addr} {ns : List Int} {F : PyData → Prop} (h : Γ[n]? = some (.fact (.ref a) fun H => SqL K H a (ns.map V.int))) (c : 0 ≤ i ∧ i < ns.length) (q : F (.int (ns.getD i.toNat 0))) : IxSB K Γ n a ns (.int i) F := ⟨i, rfl, h, c.1, c.2, q⟩
theorem EW_ixScrB {a : Addr} {ns : List Int} (h : Γ[n]? = some (.fact (.ref a) fun H => SqL K H a (ns.map V.int))) (q : EW K ti Γ fun _ e Γ1 => IxSB K Γ1 n a ns e fun d => QE .lf d Γ1) : EW K (tOp (rIxL K) (tVar n) ti) Γ QE := EW_ixScr h q
end
/-! ### boxes: cells of tables, pops, displays indexed -/
section
variable {K : PySem.W.Frag} {Γ Γ1 : Ev} {σ : L2.St} {H H' : Hp} {L : List It} {s s' s1 s2 s3 : Own} {d d' e d1 d2 d3 : PyData} {ds es fs : List PyData} {n m k : Nat} {te ta tb tc ti tj : TE} {i j : Int} {Q : Own → PyData → Prop} {QE : Own → PyData → Ev → Prop} {b b0 : Sl} {w v x y : V}
theorem IxB_any {F : PyData → Prop} (h0 : 0 ≤ i) (h1 : i < ds.length) (hp : ∀ d ∈ ds, F d) (hs : s = .lf ∨ s = .li .lf) : IxB s (.list ds) (.int i) F := by
  have hk : i.toNat < ds.length := by omega
  exact ⟨ds, i, ds[i.toNat], rfl, rfl, atI_toNat h0 (List.getElem?_eq_getElem hk), hs, hp _ (List.getElem_mem hk)⟩
def NoLB (s : Own) (d : PyData) (B : Prop) : Prop := lfree s d ∧ B
theorem NoLB_i {B : Prop} (h : lfree s d) (q : B) : NoLB s d B := ⟨h, q⟩
theorem EW_borB (q : EW K te (Γ.map Sl.fz) fun s d _ => NoLB s d (QE s d Γ)) : EW K te Γ QE := EW_bor (q.mono fun _ _ _ h => h)
/-- a cell of a name's table of one's own -/
theorem EW_ix2B (h : Γ[n]? = some b) (hb : b.bx = some (.li (.li s1), d)) (q : EW K (tOp (rIxL K) (tOp (rIxL K) (tVar n) ti) tj) (Γ.map Sl.fz) fun s d _ => NoLB s d (QE s d Γ)) : EW K (tOp (rIxL K) (tOp (rIxL K) (tVar n) ti) tj) Γ QE := EW_borB q
/-- an expression that tells an int and does nothing else -/
def Pu (K : PySem.W.Frag) (te : TE) (Γ : Ev) (i : Int) : Prop := ∀ (σ : L2.St) (H : Hp) (L : List It) (G : VK), Stt K Γ σ H L → G (.int i) H → te σ H G
theorem Pu_var (h : Γ[n]? = some b) (hb : b.bx = some (s, .int i)) : Pu K (tVar n) Γ i := fun σ H L G S k => by
  obtain ⟨w, M, hw, R, _, _⟩ := S.focus h hb
  obtain rfl := sh_int R
  exact ⟨_, hw, k⟩
theorem Pu_c : Pu K (tC (.int i)) Γ i := fun σ H L G S k => k
theorem Pu_op {g : Int → Int → Int} (h1 : Pu K ta Γ i) (h2 : Pu K tb Γ j) : Pu K (tOp (rI0 fun i j => .int (g i j)) ta tb) Γ (g i j) := fun σ H L G S k => h1 σ H L _ S (h2 σ H L _ S ⟨i, j, rfl, rfl, k⟩)
/-- x[i][j] = .. -/
theorem GW_set2 {QV : Ev → Prop} (h : Γ[n]? = some b) (hb : b.bx = some (.li (.li .lf), .list ds)) (p1 : Pu K ti Γ (k : Int)) (p2 : Pu K tj Γ (m : Int)) (h1 : ds[k]? = some (.list es)) (h2 : m < es.length) (q : QV (Γ.set n (b.to (.li (.li .lf)) (.list (ds.set k (.list (es.set m d))))))) : GW K (gSub (tOp (rIxL K) (tVar n) ti) tj rSetL) s d Γ QV := fun σ H L v G S kk => by
  obtain ⟨w, M, hw, R, put, _⟩ := S.focus h hb
  obtain ⟨a, rfl⟩ := sh_lst R
  obtain ⟨_, xs, ea, l, R1⟩ := R.take
  cases ea
  have hk := (List.getElem?_eq_some_iff.mp h1).1
  have hx : xs[k]? = some xs[k] := List.getElem?_eq_getElem (by omega)
  obtain ⟨C, R2, back⟩ := R1.focus2 hx h1
  have hat : H a = some (.lst xs) := R1.topAt
  obtain ⟨r, er⟩ := sh_lst R2
  have R3 : Rp K H (.ow (.li .lf) (.ref r) (.list es) :: .sh v d :: .top a xs :: (C ++ (M ++ L))) := by
    rw [er] at R2
    have R2' : Rp K H (.ow s v d :: .ow (.li .lf) (.ref r) (.list es) :: .top a xs :: (C ++ (M ++ L))) := R2.perm (by
      refine List.Perm.trans ?_ (List.Perm.refl _)
      rw [show (.ow (.li .lf) (.ref r) (.list es) :: .top a xs :: (C ++ (M ++ .ow s v d :: L)) : List It) = (.ow (.li .lf) (.ref r) (.list es) :: .top a xs :: (C ++ M)) ++ .ow s v d :: L by simp]
      refine List.perm_middle.trans ?_
      simp)
    exact R2'.fz.flip
  obtain ⟨ys, er2, ly, R4⟩ := R3.setOw (k := m) h2
  refine ⟨.ref a, hw, p1 σ H _ _ S ⟨a, xs, (k : Int), .ref r, rfl, rfl, SqL.of hat, by rw [← er]; exact atI_nat hx, p2 σ H _ _ S ⟨r, ys, m, m, rfl, rfl, er2, ?_, kk _ _ _ q (put _ _ _ _ ?_)⟩⟩⟩
  · unfold ixN
    rw [if_pos (by omega), if_pos (by omega)]; rfl
  · have R5 := back _ xs (.ref r) _ _ R4
    have e2 : xs.set k (.ref r) = xs := by rw [← er]; exact set_self hx
    rw [e2] at R5
    exact R5.put (by rw [List.length_set]; exact l)
theorem GW_set2T {α : Type} {F : α → PyData} {z : α} {N : Nat} {g : Nat → Nat → α} {QV : Ev → Prop} (h : Γ[n]? = some b) (hb : b.bx = some (.li (.li .lf), .list ((tabG N g).map fun r => .list (r.map F)))) (p1 : Pu K ti Γ (k : Int)) (p2 : Pu K tj Γ (m : Int)) (h1 : k < N) (h2 : m < N) (q : QV (Γ.set n (b.to (.li (.li .lf)) (.list ((tabG N fun a b => if a = k ∧ b = m then z else g a b).map fun r => .list (r.map F)))))) : GW K (gSub (tOp (rIxL K) (tVar n) ti) tj rSetL) s (F z) Γ QV := by
  refine GW_set2 h hb p1 p2 (es := (rowG N (g k)).map F) (by rw [List.getElem?_map, tabG_at h1]; rfl) (by rw [List.length_map, rowG_len]; exact h2) ?_
  have e := tabG_set (g := g) h1 h2 z
  rw [← e, List.map_set, List.map_set, tabG_row h1] at q
  exact q
/-- pop(i) -/
theorem EW_popAt (h : Γ[n]? = some b0) (hb : b0.bx = some (s', d')) (q : EW K ti Γ fun _ e Γ2 => ∃ k : Nat, e = .int (k : Int) ∧ AtB Γ2 n fun s d b => ∃ s1 ds z, s = .li s1 ∧ d = .list ds ∧ ds[k]? = some z ∧ ds.length ≤ 100000 ∧ QE s1 z (Γ2.set n (b.to (.li s1) (.list (ds.eraseIdx k))))) (hd : ∃ ds, d' = .list ds) : EW K (tBM K "list" rPopAt (tVar n) (tCons ti tNil)) Γ QE := fun σ H L G S kk => by
  obtain ⟨w, M0, hw, R0, _, _⟩ := S.focus h hb
  obtain ⟨ds0, rfl⟩ := hd
  obtain ⟨a, rfl, ty⟩ := list_tyV R0
  refine ⟨.ref a, hw, ty, q σ H L _ S fun s2 e Γ2 y H2 ⟨k, e1, b, s3, d3, h2, hb2, s1, ds, z, e2, e3, hz, sz, q2⟩ S2 => ?_⟩
  subst e1 e2 e3
  obtain rfl := S2.int'
  obtain ⟨w2, M, hw2, R, put, _⟩ := S2.tail.focus h2 hb2
  rw [hw] at hw2; cases hw2
  obtain ⟨_, xs, ea, l, R1⟩ := R.take
  cases ea
  have hk := (List.getElem?_eq_some_iff.mp hz).1
  obtain ⟨x0, hx⟩ : ∃ x0, xs[k]? = some x0 := ⟨_, List.getElem?_eq_getElem (by omega)⟩
  have hkx : k < xs.length := by omega
  have e1 : each s1 xs ds = each s1 (xs.take k) (ds.take k) ++ .ow s1 x0 z :: each s1 (xs.drop (k + 1)) (ds.drop (k + 1)) := by
    have ex0 : xs = xs.take k ++ x0 :: xs.drop (k + 1) := by
      have := (List.getElem?_eq_some_iff.mp hx).2
      rw [← this, ← List.drop_eq_getElem_cons hkx, List.take_append_drop]
    have ed0 : ds = ds.take k ++ z :: ds.drop (k + 1) := by
      have := (List.getElem?_eq_some_iff.mp hz).2
      rw [← this, ← List.drop_eq_getElem_cons hk, List.take_append_drop]
    have e0 := each_app (s := s1) (xs := xs.take k) (ds := ds.take k) (ys := x0 :: xs.drop (k + 1)) (es := z :: ds.drop (k + 1)) (by rw [List.length_take, List.length_take]; omega)
    rw [← ex0, ← ed0] at e0
    rw [e0]; rfl
  have e2 : each s1 (xs.eraseIdx k) (ds.eraseIdx k) = each s1 (xs.take k) (ds.take k) ++ each s1 (xs.drop (k + 1)) (ds.drop (k + 1)) := by
    rw [List.eraseIdx_eq_take_drop_succ, List.eraseIdx_eq_take_drop_succ, each_app (by rw [List.length_take, List.length_take]; omega)]
  have R2 := R1.mut (ys := xs.eraseIdx k)
  rw [e1] at R2
  have R3 : Rp K (upd H2 a (.lst (xs.eraseIdx k))) (.top a (xs.eraseIdx k) :: (each s1 (xs.eraseIdx k) (ds.eraseIdx k) ++ (.ow s1 x0 z :: (M ++ L)))) := by
    rw [e2]
    refine R2.perm (List.Perm.cons _ ?_)
    rw [List.append_assoc, List.append_assoc]
    refine List.Perm.append_left _ ?_
    simp only [List.cons_append]
    exact List.perm_middle.symm
  have R4 := R3.put (by rw [List.length_eraseIdx_of_lt (by omega), List.length_eraseIdx_of_lt hk, l])
  refine ⟨a, xs, (k : Int), k, x0, rfl, rfl, R1.topAt, by omega, ?_, ?_, hx, kk _ _ _ _ _ q2 (put _ _ _ _ (R4.perm (List.Perm.cons _ List.perm_middle.symm)))⟩
  · have : ds.length ≤ 100000 := sz
    omega
  · have hki : (k : Int) < (xs.length : Int) := by omega
    unfold seqIndex?
    simp only [show ¬ ((k : Int) < 0) by omega, if_false, show decide ((0 : Int) ≤ (k : Int)) = true from decide_eq_true (by omega), show decide ((k : Int) < (xs.length : Int)) = true from decide_eq_true hki, Bool.and_true, if_true, Int.toNat_natCast]
/-! so many times -/
class RepC (ds : List PyData) (k : Nat) (fs : outParam (List PyData)) : Prop where
  pf : (List.replicate k ds).flatten = fs
instance (priority := 500) : RepC ds k (List.replicate k ds).flatten := ⟨rfl⟩
theorem flat_one {α : Type} (x : α) (k : Nat) : (List.replicate k [x]).flatten = List.replicate k x := by
  induction k with
  | zero => rfl
  | succ k ih => rw [List.replicate_succ, List.flatten_cons, ih, List.replicate_succ]; rfl
instance (priority := 600) : RepC [d] k (List.replicate k d) := ⟨flat_one d k⟩
theorem rep_rowG {α : Type} (F : α → PyData) (x : α) (k : Nat) : List.replicate k (F x) = (rowG k fun _ => x).map F := by
  unfold rowG
  rw [List.map_map]
  induction k with
  | zero => rfl
  | succ k ih => rw [List.range_succ, List.map_append, List.replicate_succ', ih]; rfl
instance (priority := 700) {z : Int} : RepC [.int z] k ((rowG k fun _ => z).map PyData.int) := ⟨(flat_one _ _).trans (rep_rowG PyData.int z k)⟩
instance (priority := 700) {z : Rat} : RepC [FD z] k ((rowG k fun _ => z).map FD) := ⟨(flat_one _ _).trans (rep_rowG FD z k)⟩
theorem OW_repC [c : RepC ds k fs] (h1 : k < 2 ^ 63) (z : ds.length * k ≤ 100000) (q : Q (.li .lf) (.list fs)) : OW K rRep s (.list ds) s' (.int ((k : Nat) : Int)) Q := OW_rep (by omega) (by omega) (by rw [Int.toNat_natCast]; exact z) (by rw [Int.toNat_natCast, c.pf]; exact q)
/-- what a name holds is forgotten -/
theorem SW_un {t : L2.TS} {P : Po} (n : Nat) (q : SW K t (Γ.set n .un) P) : SW K t Γ P := fun σ H L D ⟨I, E, R⟩ k => by
  obtain ⟨I', h1, h2⟩ := E.drop n
  exact q σ H L D ⟨I', h1, h2 _ _ _ R⟩ k
theorem EW_un' (n : Nat) (q : EW K te (Γ.set n .un) QE) : EW K te Γ QE := fun σ H L D ⟨I, E, R⟩ k => by
  obtain ⟨I', h1, h2⟩ := E.drop n
  exact q σ H L D ⟨I', h1, h2 _ _ _ R⟩ k
theorem perm2 {α : Type} {x y a b : α} (h : [x, y].Perm [a, b]) : x = a ∧ y = b ∨ x = b ∧ y = a := by
  have hx : x ∈ [a, b] := h.mem_iff.mp List.mem_cons_self
  simp only [List.mem_cons, List.not_mem_nil, or_false] at hx
  rcases hx with rfl | rfl
  · have := h.cons_inv
    rw [List.perm_singleton] at this
    exact .inl ⟨rfl, (List.cons.inj this).1⟩
  · have := (h.trans (List.Perm.swap _ _ _)).cons_inv
    rw [List.perm_singleton] at this
    exact .inr ⟨rfl, (List.cons.inj this).1⟩
theorem perm3 {α : Type} {x y z a b c : α} (h : [x, y, z].Perm [a, b, c]) : x = a ∧ (y = b ∧ z = c ∨ y = c ∧ z = b) ∨ x = b ∧ (y = a ∧ z = c ∨ y = c ∧ z = a) ∨ x = c ∧ (y = a ∧ z = b ∨ y = b ∧ z = a) := by
  have hx : x ∈ [a, b, c] := h.mem_iff.mp List.mem_cons_self
  simp only [List.mem_cons, List.not_mem_nil, or_false] at hx
  rcases hx with rfl | rfl | rfl
  · exact .inl ⟨rfl, perm2 h.cons_inv⟩
  · exact .inr (.inl ⟨rfl, perm2 (h.trans (List.Perm.swap _ _ _)).cons_inv⟩)
  · exact .inr (.inr ⟨rfl, perm2 (h.trans (((List.Perm.swap _ _ _).cons _).trans (List.Perm.swap _ _ _))).cons_inv⟩)
theorem Rp.dupE : ∀ {vs : List V} {ds : List PyData} {L : List It}, Rp K H (each .lf vs ds ++ L) → Rp K H (each .lf vs ds ++ (each .lf vs ds ++ L))
  | [], _, _, R => by cases ‹List PyData› <;> exact R
  | _ :: _, [], _, R => R
  | v :: vs, d :: ds, L, R => by
    have R1 : Rp K H (.sh v d :: (each .lf vs ds ++ L)) := R
    have R2 : Rp K H (each .lf vs ds ++ .sh v d :: .sh v d :: L) := (R1.dup.perm ((List.perm_middle.symm.cons _).trans List.perm_middle.symm))
    have R3 := Rp.dupE R2
    refine R3.perm ?_
    show (each .lf vs ds ++ (each .lf vs ds ++ .sh v d :: .sh v d :: L)).Perm (.sh v d :: (each .lf vs ds ++ (.sh v d :: (each .lf vs ds ++ L))))
    refine (List.Perm.append_left _ (List.perm_middle.trans (List.perm_middle.cons _))).trans ?_
    exact List.perm_middle
/-- list(x) of a list of shared things -/
theorem EW_listO (h : Γ[n]? = some b) (hb : b.bx = some (.li .lf, .list ds)) (q : QE (.li .lf) (.list ds) Γ) : EW K (tCB (rListOf K) (tCons (tVar n) tNil)) Γ QE := fun σ H L G S k => by
  obtain ⟨w, M, hw, R, put, _⟩ := S.focus h hb
  obtain ⟨a, xs, rfl, l, R1⟩ := R.take
  have ea := R1.topAt
  have R2 : Rp K H (each .lf xs ds ++ (.top a xs :: (M ++ L))) := R1.perm List.perm_middle.symm
  have R3 := Rp.dupE R2
  refine ⟨.ref a, hw, a, xs, rfl, .inl (SqL.of ea), fun p np => ?_⟩
  have R4 : Rp K (upd H p (.lst xs)) (.ow (.li .lf) (.ref p) (.list ds) :: (each .lf xs ds ++ (.top a xs :: (M ++ L)))) := Rp.mkL R3 l np
  have R5 : Rp K (upd H p (.lst xs)) (.top a xs :: (each .lf xs ds ++ (.ow (.li .lf) (.ref p) (.list ds) :: (M ++ L)))) := R4.perm (by
    refine (List.Perm.cons _ List.perm_middle).trans ((List.Perm.swap _ _ _).trans (List.Perm.cons _ List.perm_middle.symm))
    )
  exact k _ _ _ _ _ q (Stt.keep h hb put _ _ ((R5.put l).perm (List.Perm.cons _ List.perm_middle.symm)))
theorem atI_last {α : Type} {xs : List α} {x : α} : atI (xs ++ [x]) (-1) = some x := by
  unfold atI ixN
  rw [if_neg (by omega), if_pos (by rw [List.length_append]; simp only [List.length_cons, List.length_nil]; omega)]
  show (xs ++ [x])[((-1 : Int) + ((xs ++ [x]).length : Nat)).toNat]? = some x
  rw [List.length_append, show ((-1 : Int) + ((xs.length + [x].length : Nat) : Int)).toNat = xs.length by simp only [List.length_cons, List.length_nil]; omega]
  simp
instance {α : Type} {F : α → PyData} {xs : List α} {x : α} : IxC ((xs ++ [x]).map F) (-1) True (F x) := ⟨fun _ => by rw [List.map_append]; exact atI_last⟩
end
/-! ### boxes: zip of lists and of tuples -/
section
variable {X : Cx} {K : PySem.W.Frag}
theorem k_zipA {e e2 : Expr} {ta : TA} {p pos tpos : Pos} {elts : List Expr} {kk : Nat} (hg : Gl X "zip") (hm : X.mg "zip" = none) (ha : PA X [e, e2] ta)
    (hs : starEach [e, e2] X.env = (false, eval e X.env) :: starEach [e2] X.env := by rfl) (hpl : (backTo pos (starEach [e2] X.env)).any (·.1) = false := by rfl) (h : X.K = K := by rfl) :
    PI X (.Tuple elts kk tpos) (.Call (.Name "zip" p) [e, e2] [] pos) (RZ.iZipA K ta) := by subst h; exact RZ.pi_zipA hg hm ha hs hpl
end
section
variable {K : PySem.W.Frag} {Γ : Ev} {tr : TA} {QL : List PyData → Ev → Prop} {ds es : List PyData} {s s' : Own}
def Zt (K : PySem.W.Frag) (a b : Addr) (xs ys : List V) (ds es : List PyData) (H : Hp) : Prop := Tv K a xs ds H ∧ Tv K b ys es H
theorem walks_zipT {a b : Addr} {xs ys : List V} (l : xs.length = ds.length) (l2 : ys.length = es.length) : Walks K (RZ.ItzT K a b) (List.zipWith (fun x y => .tuple [x, y]) ds es) (Zt K a b xs ys ds es) := ⟨fun H h => ⟨xs, ys, h.1.1, h.2.1, by rw [List.length_zipWith]; omega⟩, fun i d H h hd => by
    have hi := (List.getElem?_eq_some_iff.mp hd).1
    rw [List.length_zipWith] at hi
    exact ⟨xs, ys, xs[i]'(by omega), ys[i]'(by omega), h.1.1, h.2.1, List.getElem?_eq_getElem (by omega), List.getElem?_eq_getElem (by omega)⟩,
  fun i d H v H' M hd R hy => by
    obtain ⟨T, x, y, rfl, nT, rfl, hx, hy⟩ := hy
    have h0 := R.psAt
    rw [List.getElem?_zipWith] at hd
    cases h1 : ds[i]? with
    | none => rw [h1] at hd; cases hd
    | some d1 =>
      cases h2 : es[i]? with
      | none => rw [h1, h2] at hd; cases hd
      | some d2 =>
        rw [h1, h2] at hd
        cases hd
        have R1 : Rp K H (.ps (Tv K a xs ds) :: .ps (Zt K a b xs ys ds es) :: M) := R.imp (fun H h => h.1) tv_mono
        have R2 : Rp K H (.ps (Tv K b ys es) :: .ps (Zt K a b xs ys ds es) :: .ps (Tv K a xs ds) :: M) := R1.flip.imp (fun H h => h.2) tv_mono
        have R3 := (R2.tvAt mem_here (hy ys h0.2.1) h2).tvAt (.tail _ (.tail _ (.tail _ mem_here))) (hx xs h0.1.1) h1
        exact (Rp.mk2 R3 nT).fz.wk (.take .here (.drop (.take .here (.drop .refl))))⟩
theorem IW_zipA (q : AW K tr Γ fun bs Γ1 => ∃ s s' ds es, (bs = [(s, .list ds), (s', .list es)] ∨ bs = [(s, .tuple ds), (s', .tuple es)]) ∧ QL (List.zipWith (fun x y => .tuple [x, y]) ds es) Γ1) : IW K (RZ.iZipA K tr) Γ QL := fun σ H L R S k => q σ H L _ S fun bs Γ1 vs H1 ⟨s, s', ds, es, e, q1⟩ l S1 => by
  rcases e with e | e
  · subst e
    match vs, l with
    | [x, y], _ =>
      have S1 : Stt K Γ1 σ H1 (.ow s x (.list ds) :: .ow s' y (.list es) :: L) := S1
      obtain ⟨M, R1, back⟩ := S1.lift (A := [.ow s x (.list ds), .ow s' y (.list es)])
      have R2 := R1.fz.flip.fz
      obtain ⟨b, ys, rfl, l2, h2, R3⟩ := R2.sv mem_here
      obtain ⟨a, xs, rfl, l1, h1, R4⟩ := R3.sv (.tail _ (.tail _ mem_here))
      have R5 : Rp K H1 (.ps (Sv K a xs ds) :: .ps (Sv K b ys es) :: M) := R4.wk (.take .here (.take .here (.drop (.drop .refl))))
      exact ⟨a, b, xs, ys, rfl, .inl ⟨SqL.of h1, SqL.of h2, k _ Γ1 _ _ H1 q1 (walks_zip l1 l2) (back H1 [.ps (Zv K a b xs ys ds es)] R5.both)⟩⟩
  · subst e
    match vs, l with
    | [x, y], _ =>
      have S1 : Stt K Γ1 σ H1 (.ow s x (.tuple ds) :: .ow s' y (.tuple es) :: L) := S1
      obtain ⟨M, R1, back⟩ := S1.lift (A := [.ow s x (.tuple ds), .ow s' y (.tuple es)])
      have R2 := R1.fz.flip.fz
      obtain ⟨b, ys, rfl, l2, h2, R3⟩ := R2.tv mem_here
      obtain ⟨a, xs, rfl, l1, h1, R4⟩ := R3.tv (.tail _ (.tail _ mem_here))
      have R5 : Rp K H1 (.ps (Tv K a xs ds) :: .ps (Tv K b ys es) :: M) := R4.wk (.take .here (.take .here (.drop (.drop .refl))))
      exact ⟨a, b, xs, ys, rfl, .inr ⟨h1, h2, k _ Γ1 _ _ H1 q1 (walks_zipT l1 l2) (back H1 [.ps (Zt K a b xs ys ds es)] R5.both)⟩⟩
instance : St1 (IW K (RZ.iZipA K tr) Γ QL) (AW K tr Γ fun bs Γ1 => ∃ s s' ds es, (bs = [(s, .list ds), (s', .list es)] ∨ bs = [(s, .tuple ds), (s', .tuple es)]) ∧ QL (List.zipWith (fun x y => .tuple [x, y]) ds es) Γ1) := ⟨IW_zipA⟩
instance {F : List PyData → List PyData → Prop} : St1 (∃ (a a' : Own) (c c' : List PyData), ([(s, PyData.list ds), (s', PyData.list es)] = [(a, .list c), (a', .list c')] ∨ [(s, PyData.list ds), (s', PyData.list es)] = [(a, .tuple c), (a', .tuple c')]) ∧ F c c') (F ds es) := ⟨fun q => ⟨_, _, _, _, .inl rfl, q⟩⟩
instance {F : List PyData → List PyData → Prop} : St1 (∃ (a a' : Own) (c c' : List PyData), ([(s, PyData.tuple ds), (s', PyData.tuple es)] = [(a, .list c), (a', .list c')] ∨ [(s, PyData.tuple ds), (s', PyData.tuple es)] = [(a, .tuple c), (a', .tuple c')]) ∧ F c c') (F ds es) := ⟨fun q => ⟨_, _, _, _, .inr rfl, q⟩⟩
end
/-! range with a step of -1 -/
section
variable {K : PySem.W.Frag} {Γ : Ev} {tr : TA} {QL : List PyData → Ev → Prop} {i j : Int}
def Rg3C (i j c : Int) (F : List PyData → Prop) : Prop := c = -1 ∧ (-(2 ^ 62) ≤ i ∧ i < 2 ^ 62 ∧ -(2 ^ 62) ≤ j ∧ j < 2 ^ 62) ∧ F ((List.range (i - j).toNat).map fun k : Nat => .int (i - (k : Int)))
theorem Rg3C_i {F : List PyData → Prop} (h : -(2 ^ 62) ≤ i ∧ i < 2 ^ 62 ∧ -(2 ^ 62) ≤ j ∧ j < 2 ^ 62) (q : F ((List.range (i - j).toNat).map fun k : Nat => .int (i - (k : Int)))) : Rg3C i j (-1) F := ⟨rfl, h, q⟩
theorem walks_rngD {lo : Int} {n : Nat} {f : Nat → PyData} (hf : ∀ i : Nat, f i = .int (lo - i)) : Walks K (Itc lo (-1) n) ((List.range n).map f) (fun _ => True) := ⟨fun H _ => by
    rw [List.length_map, List.length_range]; exact Nat.le_refl _, fun i d H _ h => (rangeD_at h).1,
  fun i d H v H' M h R hy => by
    obtain ⟨rfl, rfl⟩ := hy
    rw [(rangeD_at h).2, hf, show lo + (i : Int) * -1 = lo - (i : Int) by omega]
    exact R.int _⟩
theorem IW_rng3C (q : AW K tr Γ fun bs Γ1 => ∃ s s' s2 i j c, bs = [(s, .int i), (s', .int j), (s2, .int c)] ∧ Rg3C i j c fun ds => QL ds Γ1) : IW K (iRng3 tr) Γ QL := fun σ H L R S k => q σ H L _ S fun bs Γ1 vs H1 ⟨s, s', s2, i, j, c, e, e2, h, q1⟩ l S1 => by
  subst e e2
  match vs, l with
  | [x, y, u], _ =>
    have S1 : Stt K Γ1 σ H1 (.ow s x (.int i) :: .ow s' y (.int j) :: .ow s2 u (.int (-1)) :: L) := S1
    obtain rfl := S1.int'
    obtain rfl := S1.tail.int'
    obtain rfl := S1.tail.tail.int'
    exact ⟨i, j, -1, _, rfl, RgC.neg h.1 h.2.1 h.2.2.1 h.2.2.2, k _ Γ1 _ _ H1 q1 (walks_rngD fun i => rfl) S1.tail.tail.tail.ps1⟩
instance : St1 (IW K (iRng3 tr) Γ QL) (AW K tr Γ fun bs Γ1 => ∃ s s' s2 i j c, bs = [(s, .int i), (s', .int j), (s2, .int c)] ∧ Rg3C i j c fun ds => QL ds Γ1) := ⟨IW_rng3C⟩
instance {s s' s2 : Own} {x y u : Int} {F : Int → Int → Int → Prop} : St1 (∃ (a a' a2 : Own) (c c' c2 : Int), [(s, PyData.int x), (s', .int y), (s2, .int u)] = [(a, .int c), (a', .int c'), (a2, .int c2)] ∧ F c c' c2) (F x y u) := ⟨fun q => ⟨_, _, _, _, _, _, rfl, q⟩⟩
end
/-! ### boxes: texts among texts, lists turned about -/
section
variable {K : PySem.W.Frag} {Γ Γ1 : Ev} {te : TE} {s s' : Own} {d d' e : PyData} {ds es : List PyData} {n k : Nat} {Q : Own → PyData → Prop} {QE : Own → PyData → Ev → Prop}
theorem inV_str {i : Str} {ns : List Str} : inV (.str i) (ns.map V.str) = decide (i ∈ ns) := by
  unfold inV
  induction ns with
  | nil => rfl
  | cons n ns ih =>
    rw [List.map_cons, List.any_cons, ih, Bool.eq_iff_iff]
    simp only [eqV, Bool.or_eq_true, beq_iff_eq, decide_eq_true_eq, List.mem_cons]
    constructor <;> rintro (h | h) <;> first | exact .inl h.symm | exact .inr h
theorem flat_strs {ns : List Str} : (ns.map V.str).all flatV = true := by
  rw [List.all_map]; exact List.all_eq_true.mpr fun _ _ => rfl
theorem dq_strs {H : Hp} {xs : List V} : ∀ {ns : List Str}, DqAll K H xs (ns.map PyData.str) → xs = ns.map V.str := fun {ns} h => by
  induction ns generalizing xs with
  | nil => cases h; rfl
  | cons i ns ih =>
    cases h with
    | cons h1 h2 =>
      cases h1
      rw [ih h2]; rfl
theorem OM_inTS {i : Str} {ns : List Str} (q : Q .lf (.bool (decide (i ∈ ns)))) : OM K (rIn K false) (.str i) (.tuple (ns.map PyData.str)) Q := fun H L G x y s s' R m1 m2 k => by
  have h1 := R.dpOf m1
  cases h1
  obtain ⟨a, xs, rfl, h3, h4⟩ := (R.dpOf m2).tupI
  rw [dq_strs h4] at h3
  exact ⟨a, _, rfl, .inr h3, rfl, flat_strs, by rw [inV_str]; exact k _ _ _ _ q (R.bl _)⟩
theorem OM_niTS {i : Str} {ns : List Str} (q : Q .lf (.bool (!decide (i ∈ ns)))) : OM K (rIn K true) (.str i) (.tuple (ns.map PyData.str)) Q := fun H L G x y s s' R m1 m2 k => by
  have h1 := R.dpOf m1
  cases h1
  obtain ⟨a, xs, rfl, h3, h4⟩ := (R.dpOf m2).tupI
  rw [dq_strs h4] at h3
  exact ⟨a, _, rfl, .inr h3, rfl, flat_strs, by rw [inV_str]; exact k _ _ _ _ q (R.bl _)⟩
theorem OM_inLS {i : Str} {ns : List Str} (q : Q .lf (.bool (decide (i ∈ ns)))) : OM K (rIn K false) (.str i) (.list (ns.map PyData.str)) Q := fun H L G x y s s' R m1 m2 k => by
  have h1 := R.dpOf m1
  cases h1
  obtain ⟨a, xs, rfl, h3, h4⟩ := (R.dpOf m2).lstI
  rw [dq_strs h4] at h3
  exact ⟨a, _, rfl, .inl (SqL.of h3), rfl, flat_strs, by rw [inV_str]; exact k _ _ _ _ q (R.bl _)⟩
theorem OM_niLS {i : Str} {ns : List Str} (q : Q .lf (.bool (!decide (i ∈ ns)))) : OM K (rIn K true) (.str i) (.list (ns.map PyData.str)) Q := fun H L G x y s s' R m1 m2 k => by
  have h1 := R.dpOf m1
  cases h1
  obtain ⟨a, xs, rfl, h3, h4⟩ := (R.dpOf m2).lstI
  rw [dq_strs h4] at h3
  exact ⟨a, _, rfl, .inl (SqL.of h3), rfl, flat_strs, by rw [inV_str]; exact k _ _ _ _ q (R.bl _)⟩
instance {i a b : Str} : St1 (OM K (rIn K false) (.str i) (.tuple [.str a, .str b]) Q) (Q .lf (.bool (decide (i ∈ [a, b])))) := ⟨OM_inTS (ns := [a, b])⟩
instance {i a b : Str} : St1 (OM K (rIn K true) (.str i) (.tuple [.str a, .str b]) Q) (Q .lf (.bool (!decide (i ∈ [a, b])))) := ⟨OM_niTS (ns := [a, b])⟩
instance {i a b c : Str} : St1 (OM K (rIn K false) (.str i) (.tuple [.str a, .str b, .str c]) Q) (Q .lf (.bool (decide (i ∈ [a, b, c])))) := ⟨OM_inTS (ns := [a, b, c])⟩
instance {i a b c : Str} : St1 (OM K (rIn K true) (.str i) (.tuple [.str a, .str b, .str c]) Q) (Q .lf (.bool (!decide (i ∈ [a, b, c])))) := ⟨OM_niTS (ns := [a, b, c])⟩
instance (priority := 900) {i : Str} {ns : List Str} : St1 (OM K (rIn K false) (.str i) (.list (ns.map PyData.str)) Q) (Q .lf (.bool (decide (i ∈ ns)))) := ⟨OM_inLS⟩
instance (priority := 900) {i : Str} {ns : List Str} : St1 (OM K (rIn K true) (.str i) (.list (ns.map PyData.str)) Q) (Q .lf (.bool (!decide (i ∈ ns)))) := ⟨OM_niLS⟩
theorem eqv_str (x y : Str) : PyData.eqv (.str x) (.str y) = decide (x = y) := by
  show (x == y) = decide (x = y)
  rw [Bool.eq_iff_iff, beq_iff_eq, decide_eq_true_eq]
theorem Sh.str {x : Str} {n : Nat} (h : PyData.canLay0 (.str x) = true) : Sh n (.str x) := ⟨h, Nat.zero_le _⟩
theorem OM_eqLS {xs ys : List Str} (h1 : ∀ x ∈ xs, PyData.canLay0 (.str x) = true) (h2 : ∀ x ∈ ys, PyData.canLay0 (.str x) = true) (q : Q .lf (.bool (decide (xs = ys)))) : OM K (rEqD K) (.list (xs.map PyData.str)) (.list (ys.map PyData.str)) Q := OM_eqX
  (Sh.ok (n := 1) (Sh.lst fun d hd => by obtain ⟨x, hx, rfl⟩ := List.mem_map.mp hd; exact Sh.str (h1 x hx)))
  (Sh.ok (n := 1) (Sh.lst fun d hd => by obtain ⟨x, hx, rfl⟩ := List.mem_map.mp hd; exact Sh.str (h2 x hx))) (LM_eqv PyData.str eqv_str xs ys) q
theorem OM_eqS1 {x : Str} {d1 d2 : PyData} {b : Bool} (h1 : PyData.canLay0 (.str x) = true) (h2 : SeqAt.shaped (.tuple [.str x, d1]) = true) (h3 : SeqAt.shaped (.tuple [.str x, d2]) = true) (e : PyData.eqv d1 d2 = b) (q : Q .lf (.bool b)) : OM K (rEqD K) (.tuple [.str x, d1]) (.tuple [.str x, d2]) Q := OM_eqX h2 h3 (by
  rw [← e]
  show (PyData.eqv (.str x) (.str x) && (PyData.eqv d1 d2 && true)) = PyData.eqv d1 d2
  rw [eqv_str, decide_eq_true rfl, Bool.true_and, Bool.and_true]) q
instance (priority := 700) {z : Str} : RepC [.str z] k ((List.replicate k z).map PyData.str) := ⟨(flat_one _ _).trans (by rw [List.map_replicate])⟩
/-- a list of ints turned about -/
theorem EW_revL (q : EW K te Γ fun _ d Γ1 => ∃ ns : List Int, d = IL ns ∧ QE (.li .lf) (IL ns.reverse) Γ1) : EW K (tRevL K te) Γ QE := fun σ H L G S k => q σ H _ _ S fun s d Γ1 x H1 ⟨ns, e, q1⟩ S1 => by
  subst e
  obtain ⟨M, R, back⟩ := S1.lift (A := [.ow s x (IL ns)])
  obtain ⟨a, xs, rfl, h1, h2⟩ := (R.dpOf mem_here).lstI
  rw [dq_ints h2] at h1
  have R2 : Rp K H1 M := R.tail
  exact ⟨a, _, rfl, SqL.of h1, fun p np => k _ _ _ _ _ q1 (back _ [.ow (.li .lf) (.ref p) _] (by rw [← List.map_reverse]; exact R2.mkI np))⟩
instance : St1 (EW K (tRevL K te) Γ QE) (EW K te Γ fun _ d Γ1 => ∃ ns : List Int, d = IL ns ∧ QE (.li .lf) (IL ns.reverse) Γ1) := ⟨EW_revL⟩
end
/-! ### list.index over ints; orders of points -/
theorem k_index {K : PySem.W.Frag} {X : Cx} (h : X.K = K := by rfl) : MtR X "list.index" (rIndex K) := by subst h; exact mt_index
theorem k_re {K : PySem.W.Frag} {X : Cx} {e : Expr} {T : String} {r : V → List V → Hp → VK → Prop} {to : TE} {t : TA} (h : X.K = K) (p : PE X e (tBM X.K T r to t)) : PE X e (tBM K T r to t) := by subst h; exact p
theorem eqV_int (a b : Int) : eqV (.int a) (.int b) = decide (a = b) := by
  by_cases h : a = b
  · subst h; simp [eqV]
  · simp [eqV, h]
theorem g_indexI {K : PySem.W.Frag} {H : Hp} {Q : VK} {L : List Fc.It} {s : Own} {a : Addr} {ns : List Int} {z : Int} (R : Rp K H L) (m : Fc.It.ow s (.ref a) (IL ns) ∈ L) (h : z ∈ ns) (q : Q (.int ((ns.idxOf z : Nat) : Int)) H) : rIndex K (.ref a) [.int z] H Q := by
  have hl := List.idxOf_lt_length_of_mem h
  refine ⟨a, ns.map V.int, .int z, ns.idxOf z, .int z, rfl, rfl, R.ilS m, rfl, flat_ints, ?_, by rw [eqV_int, decide_eq_true rfl], fun k z' hk hz' => ?_, q⟩
  · rw [List.getElem?_map, List.getElem?_eq_getElem hl, List.getElem_idxOf]; rfl
  · rw [List.getElem?_map] at hz'
    have hk2 : k < ns.length := by omega
    rw [List.getElem?_eq_getElem hk2] at hz'
    cases hz'
    rw [eqV_int]
    refine decide_eq_false fun e => ?_
    have := List.not_of_lt_findIdx (p := (· == z)) (xs := ns) (i := k) hk
    simp at this
    exact this e
theorem idxOf_getD {ns : List Int} {z : Int} (h : z ∈ ns) : ns.getD (ns.idxOf z) 0 = z := by
  have hl := List.idxOf_lt_length_of_mem h
  rw [List.getD_eq_getElem?_getD, List.getElem?_eq_getElem hl, List.getElem_idxOf]; rfl
theorem perm_pts {n : Nat} {ps : List Int} (h : ps.Perm (rg 0 n)) (hn : 1 ≤ n) : PtsOk n ps := by
  refine ⟨fun e => ?_, h.nodup_iff.mpr ((rg_rise n).imp fun h => by omega), fun p hp => ?_⟩
  · have := h.length_eq
    rw [e, rg_len] at this
    simp at this; omega
  · have := rg_mem.mp (h.mem_iff.mp hp)
    unfold isPt
    rw [decide_eq_true this.1, decide_eq_true this.2]; rfl
theorem take_pts {n k : Nat} {ps : List Int} (h : PtsOk n ps) (hk : 1 ≤ k) : PtsOk n (ps.take k) := by
  refine ⟨fun e => ?_, h.2.1.sublist (List.take_sublist k ps), fun p hp => h.2.2 p (List.mem_of_mem_take hp)⟩
  have := congrArg List.length e
  rw [List.length_take, List.length_nil] at this
  have l0 : ps.length ≠ 0 := fun e => h.1 (List.eq_nil_of_length_eq_zero e)
  omega
theorem pt_in {n : Nat} {ps : List Int} (h : PtsOk n ps) {p : Int} (hp : p ∈ ps) : 0 ≤ p ∧ p < n := by
  have := h.2.2 p hp
  unfold isPt at this
  simp only [Bool.and_eq_true, decide_eq_true_eq] at this
  exact this
theorem getD_mem {ps : List Int} {k : Nat} (h : k < ps.length) : ps.getD k 0 ∈ ps := by
  rw [List.getD_eq_getElem?_getD, List.getElem?_eq_getElem h]
  exact List.getElem_mem h
/-- points of points -/
theorem sub_pts {n : Nat} {ps fs : List Int} (h : PtsOk n ps) (h2 : PtsOk ps.length fs) : PtsOk n (fs.map fun p => ps.getD p.toNat 0) := by
  refine ⟨fun e => h2.1 (List.map_eq_nil_iff.mp e), ?_, fun p hp => ?_⟩
  · have inj : ∀ a ∈ fs, ∀ b ∈ fs, ps.getD a.toNat 0 = ps.getD b.toNat 0 → a = b := fun a ha b hb e => by
      have a1 := pt_in h2 ha
      have b1 := pt_in h2 hb
      have la : a.toNat < ps.length := by omega
      have lb : b.toNat < ps.length := by omega
      rw [List.getD_eq_getElem?_getD, List.getD_eq_getElem?_getD, List.getElem?_eq_getElem la, List.getElem?_eq_getElem lb] at e
      have e : ps[a.toNat] = ps[b.toNat] := e
      have pw := List.pairwise_iff_getElem.mp h.2.1
      rcases Nat.lt_trichotomy a.toNat b.toNat with c | c | c
      · exact (pw _ _ la lb c e).elim
      · omega
      · exact (pw _ _ lb la c e.symm).elim
    have nd := h2.2.1
    clear h2
    induction fs with
    | nil => exact .nil
    | cons x fs ih =>
      have ⟨n1, n2⟩ := List.nodup_cons.mp nd
      rw [List.map_cons]
      refine List.nodup_cons.mpr ⟨fun hm => ?_, ih (fun a ha b hb => inj a (.tail _ ha) b (.tail _ hb)) n2⟩
      obtain ⟨y, hy, e⟩ := List.mem_map.mp hm
      exact n1 (inj y (.tail _ hy) x (.head _) e ▸ hy)
  · obtain ⟨q, hq, rfl⟩ := List.mem_map.mp hp
    have := pt_in h2 hq
    exact h.2.2 _ (getD_mem (by omega))
/-- where each point stands -/
def backL (n : Nat) (ps : List Int) : List Int := (List.range n).map fun p : Nat => ((ps.idxOf (p : Int) : Nat) : Int)
theorem back_at {n : Nat} {ps : List Int} (h : ps.Perm (rg 0 n)) {i : Nat} (hi : i < n) : (backL n ps).getD i 0 = ((ps.idxOf (i : Int) : Nat) : Int) ∧ ps.getD ((backL n ps).getD i 0).toNat 0 = (i : Int) := by
  have e : (backL n ps).getD i 0 = ((ps.idxOf (i : Int) : Nat) : Int) := by
    unfold backL
    exact rowF_at hi
  refine ⟨e, ?_⟩
  rw [e, Int.toNat_natCast]
  exact idxOf_getD (h.mem_iff.mpr (rg_mem.mpr (by omega)))
theorem back_pts {n : Nat} {ps : List Int} (h : ps.Perm (rg 0 n)) (hn : 1 ≤ n) : PtsOk n (backL n ps) := by
  have hl : ps.length = n := by rw [h.length_eq, rg_len]
  have mem : ∀ i, i < n → (i : Int) ∈ ps := fun i hi => h.mem_iff.mpr (rg_mem.mpr (by omega))
  refine ⟨fun e => ?_, ?_, fun p hp => ?_⟩
  · have := congrArg List.length e
    unfold backL at this
    simp at this; omega
  · unfold backL
    refine List.Pairwise.map _ ?_ (List.nodup_range.imp_of_mem (fun {a b} ha hb hab => (⟨List.mem_range.mp ha, List.mem_range.mp hb, hab⟩ : a < n ∧ b < n ∧ a ≠ b)))
    rintro a b ⟨ha, hb, hab⟩ e
    have e2 : ps.idxOf (a : Int) = ps.idxOf (b : Int) := by omega
    have e3 := idxOf_getD (mem a ha)
    rw [e2, idxOf_getD (mem b hb)] at e3
    omega
  · unfold backL at hp
    obtain ⟨i, hi, rfl⟩ := List.mem_map.mp hp
    have := List.idxOf_lt_length_of_mem (mem i (List.mem_range.mp hi))
    unfold isPt
    rw [decide_eq_true (by omega), decide_eq_true (by omega)]; rfl
/-! ### boxes: lists compared, a place asked, slices backwards -/
section
variable {X : Cx} {K : PySem.W.Frag}
def rOrd (K : PySem.W.Frag) (f : PyData → PyData → Bool) : R2 := fun x y H Q => ∃ d e, Dp K H x d ∧ Dp K H y e ∧ PySem.W.alike d e = true ∧ d ≠ .none ∧ d.depth ≤ 60 ∧ Q (.bl (f d e)) H
def gtData (d e : PyData) : Bool := PySem.W.dataLt e d
def geData (d e : PyData) : Bool := !PySem.W.dataLt d e
def leData (d e : PyData) : Bool := !PySem.W.dataLt e d
theorem k_ltD (hu : X.A.units + 65 < cLine) (h : X.K = K := by rfl) : OpR X (compareOp .Lt) (rOrd K PySem.W.dataLt) := by
  subst h
  intro pins s σ H x y v u Q I rx ry h
  obtain ⟨d, e, hd, he, al, hn, dp, q⟩ := h
  obtain ⟨as, r1⟩ := Dp.reads I d x v hd rx
  obtain ⟨bs, r2⟩ := Dp.reads I e y u he ry
  exact PySem.W.lt_data r1 r2 al hn (by have := Nat.min_le_left d.depth e.depth; omega) ⟨.bl _, H, I, rfl, q⟩
theorem k_gtD (hu : X.A.units + 65 < cLine) (h : X.K = K := by rfl) : OpR X (compareOp .Gt) (rOrd K gtData) := by
  subst h
  intro pins s σ H x y v u Q I rx ry h
  obtain ⟨d, e, hd, he, al, hn, dp, q⟩ := h
  obtain ⟨as, r1⟩ := Dp.reads I d x v hd rx
  obtain ⟨bs, r2⟩ := Dp.reads I e y u he ry
  exact PySem.W.gt_data r1 r2 al hn (by have := Nat.min_le_left d.depth e.depth; omega) ⟨.bl _, H, I, rfl, q⟩
theorem k_geD (hu : X.A.units + 65 < cLine) (h : X.K = K := by rfl) : OpR X (compareOp .GtE) (rOrd K geData) := by
  subst h
  intro pins s σ H x y v u Q I rx ry h
  obtain ⟨d, e, hd, he, al, hn, dp, q⟩ := h
  obtain ⟨as, r1⟩ := Dp.reads I d x v hd rx
  obtain ⟨bs, r2⟩ := Dp.reads I e y u he ry
  exact PySem.W.ge_data r1 r2 al hn (by have := Nat.min_le_left d.depth e.depth; omega) ⟨.bl _, H, I, rfl, q⟩
theorem k_leD (hu : X.A.units + 65 < cLine) (h : X.K = K := by rfl) : OpR X (compareOp .LtE) (rOrd K leData) := by
  subst h
  intro pins s σ H x y v u Q I rx ry h
  obtain ⟨d, e, hd, he, al, hn, dp, q⟩ := h
  obtain ⟨as, r1⟩ := Dp.reads I d x v hd rx
  obtain ⟨bs, r2⟩ := Dp.reads I e y u he ry
  exact PySem.W.le_data r1 r2 al hn (by have := Nat.min_le_left d.depth e.depth; omega) ⟨.bl _, H, I, rfl, q⟩
/-! xs[:0:-1] -/
theorem rvt_pick (items : Array Value) : slicePick items none (some 0) (some (-1)) = items.toList.tail.reverse.toArray := by
  unfold slicePick
  by_cases c : items.size = 0
  · have e : items = #[] := Array.eq_empty_of_size_eq_zero c
    subst e
    rfl
  · have hb : sliceBounds none (some 0) (some (-1)) items.size = ((items.size : Int) - 1, 0, -1) := by
      unfold sliceBounds
      simp only [Option.getD_some]
      rw [if_neg (by decide), if_neg (by omega), if_neg (by decide)]
      congr 2
      omega
    rw [hb]
    show ((sliceRange ((items.size : Int) - 1) 0 (-1)).filterMap (items[·]?)).toArray = _
    have hr : sliceRange ((items.size : Int) - 1) 0 (-1) = ((List.range (items.size - 1)).map fun k => 1 + k).reverse := by
      unfold sliceRange
      have h1 : ¬ ((-1 : Int) > 0) := by decide
      have hc : (if (-1 : Int) > 0 then (if ((items.size : Int) - 1) < 0 then (0 - ((items.size : Int) - 1) + -1 - 1) / -1 else 0) else (if ((items.size : Int) - 1) > 0 then (((items.size : Int) - 1) - 0 - -1 - 1) / (- -1) else 0)).toNat = items.size - 1 := by
        rw [if_neg h1]
        by_cases c2 : ((items.size : Int) - 1) > 0
        · rw [if_pos c2, show (- -1 : Int) = 1 by decide, Int.ediv_one]; omega
        · rw [if_neg c2]; omega
      show (List.range (if (-1 : Int) > 0 then (if ((items.size : Int) - 1) < 0 then (0 - ((items.size : Int) - 1) + -1 - 1) / -1 else 0) else (if ((items.size : Int) - 1) > 0 then (((items.size : Int) - 1) - 0 - -1 - 1) / (- -1) else 0)).toNat).map _ = _
      rw [hc]
      apply List.ext_getElem
      · simp
      · intro i h1 h2
        rw [List.length_map, List.length_range] at h1
        rw [List.getElem_map, List.getElem_reverse, List.getElem_map, List.getElem_range, List.getElem_range, List.length_map, List.length_range]
        omega
    rw [hr, List.filterMap_reverse]
    have h := pick_run items 1 (items.size - 1)
    rw [h]
    congr 2
    rw [← List.drop_one, List.take_of_length_le (by rw [List.length_drop, Array.length_toList]; omega)]
def tRevT (K : PySem.W.Frag) (te : TE) : TE := fun σ H Q => te σ H fun x H1 => ∃ a xs, x = .ref a ∧ SqL K H1 a xs ∧ ∀ p, H1 p = none → Q (.ref p) (upd H1 p (.lst xs.tail.reverse))
theorem pe_revT {te : TE} {e : Expr} {k k0 : Nat} {p0 p1 p2 p3 pos : Pos} (he : PE X e te) : PE X (.Subscript e (.Slice none (some (.Constant (.int 0) k0 p0)) (some (.UnaryOp .USub (.Constant (.int 1) k p1) p2)) p3) pos) (tRevT X.K te) := by
  refine ⟨fun pins s σ H Q I h => ?_⟩
  refine Subscript_ (thn (he.run pins s σ H _ I h) fun v s1 ⟨x, H1, I1, r1, q1⟩ => ?_)
  obtain ⟨a, xs, ex, hx, q⟩ := q1
  subst ex
  cases r1
  have hst : PO X (some (.UnaryOp .USub (.Constant (.int 1) k p1) p2)) (tPart (tUn (rU fun i => .int (-i)) (tC (.int 1)))) := po_some (pe_un un_neg pe_int)
  have hz0 : PO X (some (.Constant (.int 0) k0 p0)) (tPart (tC (.int 0))) := po_some pe_int
  refine wpAny_Slice (thn (po_none.run pins s1 σ H1 (fun o H2 => o = none ∧ H2 = H1) I1 ⟨rfl, rfl⟩) fun vl s2 ⟨l, H2, I2, pl, el, e2⟩ => ?_)
  subst el e2
  refine thn (hz0.run pins s2 σ H2 (fun o H3 => o = some 0 ∧ H3 = H2) I2 ⟨0, rfl, rfl, rfl⟩) fun vu s3 ⟨u, H3, I3, pu, eu, e3⟩ => ?_
  subst eu e3
  refine thn (hst.run pins s3 σ H3 (fun o H4 => o = some (-1) ∧ H4 = H3) I3 ⟨1, rfl, -1, rfl, rfl, rfl⟩) fun vs s4 ⟨o, H4, I4, ps, eo, e4⟩ => ?_
  subst eo e4
  have I5 : Inv X pins σ H4 { s4 with heap := s4.heap.push { cls := .type "slice", data := .fields #[vl, vu, vs] } } := I4.kept (t' := s4.toks) fun b ob q => Heap.get?_push_of_some _ q
  obtain ⟨its, r, ht, hz⟩ := I5.list hx
  have hlen := r.length
  show wpAny (model X.prog X.w) X.A (subscriptTail e (.Slice none (some (.Constant (.int 0) k0 p0)) (some (.UnaryOp .USub (.Constant (.int 1) k p1) p2)) p3) (.ref a) (.ref s4.heap.objs.size)) (EP X pins σ Q) X.xe { s4 with heap := s4.heap.push { cls := .type "slice", data := .fields #[vl, vu, vs] } }
  refine tail_any (ops := [.ref a, .ref s4.heap.objs.size]) ht.isList.typeIs (PySem.slot_list_getitem.lookup) ?_ (by with_unfolding_all rfl)
  refine wpAny_getItem_list_slice ht.isList (Heap.IsSliceOf.new _ vl vu vs) pl pu ps (by decide) ?_ (by rw [List.size_toArray]; omega)
  rw [rvt_pick]
  refine ⟨.ref _, _, I5.laid (t' := s4.toks) (o := .lst xs.tail.reverse) (fun b ob q => Heap.get?_push_of_some _ q) (Nat.le_refl _) ?_, rfl, q _ (I5.hok.fresh (Nat.le_refl _))⟩
  refine ⟨by rw [List.length_reverse, List.length_tail]; omega, _, 0, ?_, Heap.get?_push_size _ rfl⟩
  have r2 : Vals xs.tail its.tail := by cases r with
    | nil => exact .nil
    | cons _ t => exact t
  exact r2.reverse
theorem k_revT {te : TE} {e : Expr} {k k0 : Nat} {p0 p1 p2 p3 pos : Pos} (he : PE X e te) (h : X.K = K := by rfl) : PE X (.Subscript e (.Slice none (some (.Constant (.int 0) k0 p0)) (some (.UnaryOp .USub (.Constant (.int 1) k p1) p2)) p3) pos) (tRevT K te) := by subst h; exact pe_revT he
end
section
variable {K : PySem.W.Frag} {Γ Γ1 : Ev} {te ta tb : TE} {s s' : Own} {d d' e : PyData} {ds es : List PyData} {n k : Nat} {b : Sl} {Q : Own → PyData → Prop} {QE : Own → PyData → Ev → Prop} {f : PyData → PyData → Bool}
theorem EW_revT (q : EW K te Γ fun _ d Γ1 => ∃ ns : List Int, d = IL ns ∧ QE (.li .lf) (IL ns.tail.reverse) Γ1) : EW K (tRevT K te) Γ QE := fun σ H L G S k => q σ H _ _ S fun s d Γ1 x H1 ⟨ns, e, q1⟩ S1 => by
  subst e
  obtain ⟨M, R, back⟩ := S1.lift (A := [.ow s x (IL ns)])
  obtain ⟨a, xs, rfl, h1, h2⟩ := (R.dpOf mem_here).lstI
  rw [dq_ints h2] at h1
  have R2 : Rp K H1 M := R.tail
  exact ⟨a, _, rfl, SqL.of h1, fun p np => k _ _ _ _ _ q1 (back _ [.ow (.li .lf) (.ref p) _] (by rw [← List.map_tail, ← List.map_reverse]; exact R2.mkI np))⟩
instance : St1 (EW K (tRevT K te) Γ QE) (EW K te Γ fun _ d Γ1 => ∃ ns : List Int, d = IL ns ∧ QE (.li .lf) (IL ns.tail.reverse) Γ1) := ⟨EW_revT⟩
theorem dataLt_il (a b : List Int) : PySem.W.dataLt (IL a) (IL b) = decide (a < b) := by
  have h := congrFun (congrFun (PySem.W.dataLe_rows (fun x : List Int => x)) b) a
  have h2 : (!PySem.W.dataLt (IL a) (IL b)) = decide (b ≤ a) := h
  rw [← Bool.not_not (PySem.W.dataLt (IL a) (IL b)), h2]
  by_cases c : a < b
  · rw [decide_eq_true c, decide_eq_false (List.not_le.mpr c)]; rfl
  · rw [decide_eq_false c, decide_eq_true (List.not_lt.mp c)]; rfl
theorem OM_ordI {x y : List Int} (q : Q .lf (.bool (f (IL x) (IL y)))) : OM K (rOrd K f) (IL x) (IL y) Q := fun H L G u v s s' R m1 m2 k =>
  ⟨IL x, IL y, dq_dp _ _ (R.dpOf m1), dq_dp _ _ (R.dpOf m2), PySem.W.alike_ints x y, nofun, Nat.le_trans Sh.il.2 (by decide), k _ _ _ _ q (R.bl _)⟩
instance : RdC (rOrd K f) := ⟨⟩
instance : St1 (OW K (rOrd K f) s d s' e Q) (OM K (rOrd K f) d e Q) := ⟨OM.ow⟩
instance {x y : List Int} : St1 (OM K (rOrd K PySem.W.dataLt) (IL x) (IL y) Q) (Q .lf (.bool (decide (x < y)))) := ⟨fun q => OM_ordI (by rw [dataLt_il]; exact q)⟩
instance {x y : List Int} : St1 (OM K (rOrd K gtData) (IL x) (IL y) Q) (Q .lf (.bool (decide (y < x)))) := ⟨fun q => OM_ordI (by unfold gtData; rw [dataLt_il]; exact q)⟩
instance {x y : List Int} : St1 (OM K (rOrd K geData) (IL x) (IL y) Q) (Q .lf (.bool (!decide (x < y)))) := ⟨fun q => OM_ordI (by unfold geData; rw [dataLt_il]; exact q)⟩
instance {x y : List Int} : St1 (OM K (rOrd K leData) (IL x) (IL y) Q) (Q .lf (.bool (!decide (y < x)))) := ⟨fun q => OM_ordI (by unfold leData; rw [dataLt_il]; exact q)⟩
/-- the place of a number in a name's list -/
theorem EW_index (q : AtB Γ n fun _ d _ => ∃ ns : List Int, d = IL ns ∧ EW K te Γ fun _ e Γ1 => AtB Γ1 n fun _ d' _ => d' = IL ns ∧ ∃ z, e = .int z ∧ z ∈ ns ∧ QE .lf (.int ((ns.idxOf z : Nat) : Int)) Γ1) : EW K (tBM K "list" (rIndex K) (tVar n) (tCons te tNil)) Γ QE := fun σ H L G S k => by
  obtain ⟨b, s, d, h, hb, ns, rfl, q⟩ := q
  obtain ⟨w, M, hw, R, put, _⟩ := S.focus h hb
  obtain ⟨a, rfl, ty⟩ := list_tyV R
  refine ⟨.ref a, hw, ty, q σ H L _ S fun s' e Γ1 y H1 ⟨b1, s1, d1, h1, hb1, ed, z, ez, hz, q1⟩ S1 => ?_⟩
  subst ed ez
  obtain rfl := S1.int'
  obtain ⟨w2, M2, hw2, R2, put2, _⟩ := S1.tail.focus h1 hb1
  rw [hw] at hw2; cases hw2
  exact g_indexI R2 mem_here hz (k _ _ _ _ _ q1 (S1.tail.flat (.int _) rfl))
end
/-! ### boxes: chains of three comparisons -/
def tChain3 (r r' r2 : R2) (ta tb tc td : TE) : TE := fun σ H Q => ta σ H fun x H1 => tb σ H1 fun y H2 => r x y H2 fun z H3 => ∃ k, z = .bl k ∧
  (if k = true then tc σ H3 fun w H4 => r' y w H4 fun z2 H5 => ∃ k2, z2 = .bl k2 ∧ (if k2 = true then td σ H5 fun u H6 => r2 w u H6 Q else Q (.bl false) H5) else Q (.bl false) H3)
section
variable {X : Cx} {a b c d : Expr} {ta tb tc td : TE} {pos : Pos}
theorem pt_chain3 {op op' op2 : CmpOp} {r r' r2 : R2} (ho : OpR X (compareOp op) r) (ho' : OpR X (compareOp op') r') (ho2 : OpR X (compareOp op2) r2) (ha : PE X a ta) (hb : PE X b tb) (hc : PE X c tc) (hd : PE X d td)
    (hm : lastMarks [op, op', op2] [b, c, d] = false := by with_unfolding_all rfl) : PT X (.Compare a [op, op', op2] [b, c, d] pos) (tTest (tChain3 r r' r2 ta tb tc td)) := by
  refine ⟨fun pins s σ H Q I h => ?_⟩
  refine isTrue_chain (thn (ha.run pins s σ H _ I h) fun v s1 ⟨x, H1, I1, r1, q1⟩ => test_link (thn (hb.run pins s1 σ H1 _ I1 q1) fun u s2 ⟨y, H2, I2, r2, q2⟩ =>
    thn (ho pins s2 σ H2 x y v u _ I2 r1 r2 q2) fun d s3 ⟨z, H3, I3, r3, k, e, q3⟩ => ?_)) hm
  subst e
  cases r3
  refine wpAny_truthy_bool ?_
  cases k with
  | false =>
    obtain ⟨k', e', q'⟩ := q3
    cases e'
    exact ite_ff ⟨H3, I3, q'⟩
  | true =>
    refine ite_tt (test_link (thn (hc.run pins s3 σ H3 _ I3 q3) fun w' s4 ⟨z', H4, I4, r4, q4⟩ => thn (ho' pins s4 σ H4 y z' u w' _ I4 r2 r4 q4) fun d' s5 ⟨z2, H5, I5, r5, k2, e2, q5⟩ => ?_))
    subst e2
    cases r5
    refine wpAny_truthy_bool ?_
    cases k2 with
    | false =>
      obtain ⟨k', e', q'⟩ := q5
      cases e'
      exact ite_ff ⟨H5, I5, q'⟩
    | true =>
      refine ite_tt (test_last (thn (hd.run pins s5 σ H5 _ I5 q5) fun w2 s6 ⟨z3, H6, I6, r6, q6⟩ => thn (ho2 pins s6 σ H6 z' z3 w' w2 _ I6 r4 r6 q6) fun d2 s7 ⟨z4, H7, I7, r7, k3, e3, q7⟩ => ?_))
      subst e3
      cases r7
      exact wpAny_truthy_bool ⟨H7, I7, q7⟩
end
section
variable {K : PySem.W.Frag} {Γ : Ev} {ta tb tc td : TE} {Q : Own → PyData → Ev → Prop}
theorem EW_chain3 {f1 f2 f3 : Int → Int → Bool} (q : EW K ta Γ fun _ d Γ1 => EW K tb Γ1 fun _ e Γ2 => ∃ i j, d = .int i ∧ e = .int j ∧ if f1 i j = true then EW K tc Γ2 fun _ f Γ3 => ∃ m, f = .int m ∧ if f2 j m = true then EW K td Γ3 fun _ g Γ4 => ∃ p, g = .int p ∧ Q .lf (.bool (f3 m p)) Γ4 else Q .lf (.bool false) Γ3 else Q .lf (.bool false) Γ2) :
    EW K (tChain3 (rI0 fun i j => .bl (f1 i j)) (rI0 fun i j => .bl (f2 i j)) (rI0 fun i j => .bl (f3 i j)) ta tb tc td) Γ Q := fun σ H L G S k => q σ H L _ S fun s d Γ1 x H1 q1 S1 => q1 σ H1 _ _ S1 fun s' e Γ2 y H2 ⟨i, j, e1, e2, q2⟩ S2 => by
  subst e1 e2
  obtain rfl := S2.int'
  obtain rfl := S2.tail.int'
  have S3 := S2.tail.tail
  refine ⟨i, j, rfl, rfl, f1 i j, rfl, ?_⟩
  by_cases c1 : f1 i j = true
  · rw [if_pos c1] at q2 ⊢
    refine q2 σ H2 _ _ S3 fun s3 f Γ3 w H3 ⟨m, e3, q3⟩ S4 => ?_
    subst e3
    obtain rfl := S4.int'
    refine ⟨j, m, rfl, rfl, f2 j m, rfl, ?_⟩
    by_cases c2 : f2 j m = true
    · rw [if_pos c2] at q3 ⊢
      refine q3 σ H3 _ _ S4.tail fun s4 g Γ4 u H4 ⟨p, e4, q4⟩ S5 => ?_
      subst e4
      obtain rfl := S5.int'
      exact ⟨m, p, rfl, rfl, k _ _ _ _ _ q4 (S5.tail.flat (.bl _) rfl)⟩
    · rw [if_neg c2] at q3 ⊢
      exact k _ _ _ _ _ q3 (S4.tail.flat (.bl _) rfl)
  · rw [if_neg c1] at q2 ⊢
    exact k _ _ _ _ _ q2 (S3.flat (.bl _) rfl)
instance {f1 f2 f3 : Int → Int → Bool} : St1 (EW K (tChain3 (rI0 fun i j => .bl (f1 i j)) (rI0 fun i j => .bl (f2 i j)) (rI0 fun i j => .bl (f3 i j)) ta tb tc td) Γ Q) (EW K ta Γ fun _ d Γ1 => EW K tb Γ1 fun _ e Γ2 => ∃ i j, d = .int i ∧ e = .int j ∧ if f1 i j = true then EW K tc Γ2 fun _ f Γ3 => ∃ m, f = .int m ∧ if f2 j m = true then EW K td Γ3 fun _ g Γ4 => ∃ p, g = .int p ∧ Q .lf (.bool (f3 m p)) Γ4 else Q .lf (.bool false) Γ3 else Q .lf (.bool false) Γ2) := ⟨EW_chain3⟩
end
/-! ### boxes: the place of a datum; pairs of places -/
section
variable {K : PySem.W.Frag} {Γ : Ev} {te : TE} {n : Nat} {QE : Own → PyData → Ev → Prop}
theorem k_indexD {X : Cx} (hu : X.A.units + 65 < cLine) (h : X.K = K := by rfl) : MtR X "list.index" (rIndexD K) := by subst h; exact mt_indexD hu
theorem EW_indexD {α : Type} [DecidableEq α] {f : α → PyData} [hf : EqF f] (q : AtB Γ n fun _ d _ => ∃ xs : List α, d = .list (xs.map f) ∧ EW K te Γ fun _ e Γ1 => AtB Γ1 n fun _ d' _ => d' = .list (xs.map f) ∧ ∃ x, e = f x ∧ x ∈ xs ∧ QE .lf (.int ((xs.idxOf x : Nat) : Int)) Γ1) : EW K (tBM K "list" (rIndexD K) (tVar n) (tCons te tNil)) Γ QE := fun σ H L G S k => by
  obtain ⟨b, s, d, h, hb, xs, rfl, q⟩ := q
  obtain ⟨w, M, hw, R, put, _⟩ := S.focus h hb
  obtain ⟨a, rfl, ty⟩ := list_tyV R
  refine ⟨.ref a, hw, ty, q σ H L _ S fun s' e Γ1 y H1 ⟨b1, s1, d1, h1, hb1, ed, x, ex, hx, q1⟩ S1 => ?_⟩
  subst ed ex
  obtain ⟨M1, R1, back1⟩ := S1.lift (A := [.ow s' y (f x)])
  have dy := R1.dpOf mem_here
  obtain ⟨w2, M2, hw2, R2, put2, _⟩ := S1.tail.focus h1 hb1
  rw [hw] at hw2; cases hw2
  have hl := List.idxOf_lt_length_of_mem hx
  refine ⟨a, y, f x, xs.map f, xs.idxOf x, f x, rfl, rfl, dq_dp _ _ (R2.dpOf mem_here), dq_dp _ _ dy, sh_of xs, (hf.sh x).ok (by decide), ?_, by rw [hf.eq]; exact decide_eq_true rfl, fun m z' hm hz' => ?_, k _ _ _ _ _ q1 (S1.tail.flat (.int _) rfl)⟩
  · rw [List.getElem?_map, List.getElem?_eq_getElem hl, List.getElem_idxOf]; rfl
  · rw [List.getElem?_map] at hz'
    have hk2 : m < xs.length := by omega
    rw [List.getElem?_eq_getElem hk2] at hz'
    cases hz'
    rw [hf.eq]
    refine decide_eq_false fun e => ?_
    have := List.not_of_lt_findIdx (p := (· == x)) (xs := xs) (i := m) hm
    simp at this
    exact this e
end
abbrev GD (u : Nat × Nat) : PyData := .tuple [.int (u.1 : Nat), .int (u.2 : Nat)]
instance : EqF GD := ⟨fun u => Sh.mono (Sh.tup (n := 0) fun d hd => by
  simp only [List.mem_cons, List.not_mem_nil, or_false] at hd
  rcases hd with rfl | rfl <;> exact Sh.int) (by decide), fun x y => by
  show (decide ((x.1 : Int) = (y.1 : Int)) && (decide ((x.2 : Int) = (y.2 : Int)) && true)) = decide (x = y)
  obtain ⟨a, b⟩ := x
  obtain ⟨c, d⟩ := y
  by_cases h1 : a = c <;> by_cases h2 : b = d <;> simp [h1, h2] <;> omega⟩
/-! ### boxes: a comprehension that takes over the things of a list of one's own -/
section
variable {K : PySem.W.Frag} {Γ : Ev} {g : TG} {tt : TT} {te : TE} {vs : List Nat} {n : Nat} {b : Sl} {s0 : Own} {ds : List PyData} {Q : Own → PyData → Ev → Prop}
def LcO (K : PySem.W.Frag) (s0 : Own) (ds : List PyData) (g : TG) (tt : TT) (te : TE) (vs : List Nat) (Γ : Ev) (Q : Own → PyData → Ev → Prop) : Prop := ∃ (s : Own) (Pv : Nat → List PyData → Ev → Prop), Pv 0 [] (clr Γ vs) ∧ (∀ i d acc Γ', ds[i]? = some d → Pv i acc Γ' → GC K g s0 d Γ' vs fun Γ2 => TW K tt Γ2 fun b Γ3 => if b = true then EW K te Γ3 fun s2 d2 Γ4 => (s2 = s ∨ s = .lf) ∧ acc.length < 100000 ∧ Pv (i + 1) (acc ++ [d2]) (clr Γ4 vs) else Pv (i + 1) acc (clr Γ3 vs)) ∧ ∀ acc Γ', Pv ds.length acc Γ' → Q (.li s) (.list acc) Γ'
theorem EW_lcO (h : Γ[n]? = some b) (hb : b.bx = some (.li s0, .list ds)) (q : LcO K s0 ds g tt te vs (Γ.set n .un) Q) : EW K (tLc (iList K (tVar n)) g tt te vs) Γ Q := fun σ H L G S k => by
  obtain ⟨s, Pv, h0, hs, hd⟩ := q
  obtain ⟨w, M0, hw, R, _, drop⟩ := S.focus h hb
  obtain ⟨a, xs, rfl, l, R1⟩ := R.take
  have ea := R1.topAt
  have S1 : Stt K (Γ.set n .un) σ H (.top a xs :: (each s0 xs ds ++ L)) := drop H _ (R1.perm (by
    refine (List.Perm.cons _ ?_).trans List.perm_middle.symm
    rw [← List.append_assoc, ← List.append_assoc]
    exact List.perm_append_comm.append_right L))
  refine ⟨.ref a, hw, a, rfl, ⟨xs, SqL.of ea⟩, fun D nD => ?_⟩
  have S2 : Stt K (clr (Γ.set n .un) vs) (wipe σ vs) (upd H D (.lst [])) (.ow (.li s) (.ref D) (.list []) :: .top a xs :: (each s0 xs ds ++ L)) := by
    obtain ⟨I, E, R⟩ := S1.clr vs
    exact ⟨I, E, (R.mkL0 s nD).dim⟩
  refine ⟨fun i m H => m = ds.length - i ∧ i ≤ ds.length ∧ ∃ acc Γ', Pv i acc Γ' ∧ Stt K Γ' (wipe σ vs) H (.ow (.li s) (.ref D) (.list acc) :: .top a xs :: (each s0 (xs.drop i) (ds.drop i) ++ L)), ⟨_, rfl, Nat.zero_le _, [], _, h0, by rw [List.drop_zero, List.drop_zero]; exact S2⟩, ?_⟩
  rintro i m H ⟨rfl, hi, acc, Γ', pv, S⟩
  have S' : Stt K Γ' (wipe σ vs) H (.top a xs :: .ow (.li s) (.ref D) (.list acc) :: (each s0 (xs.drop i) (ds.drop i) ++ L)) := S.perm (.swap _ _ _)
  have eh : SqL K H a xs := by
    obtain ⟨M, R, _⟩ := S'.lift (A := [.top a xs])
    exact SqL.of R.topAt
  by_cases c : i < ds.length
  · have hx : ds[i]? = some ds[i] := List.getElem?_eq_getElem c
    have cx : i < xs.length := by omega
    have exd : xs.drop i = xs[i] :: xs.drop (i + 1) := List.drop_eq_getElem_cons cx
    have edd : ds.drop i = ds[i] :: ds.drop (i + 1) := List.drop_eq_getElem_cons c
    refine .inr ⟨⟨xs, xs[i], eh, List.getElem?_eq_getElem cx⟩, fun H' => ∃ acc Γ', Pv (i + 1) acc Γ' ∧ Stt K Γ' (wipe σ vs) H' (.ow (.li s) (.ref D) (.list acc) :: .top a xs :: (each s0 (xs.drop (i + 1)) (ds.drop (i + 1)) ++ L)), fun H' h => ⟨ds.length - (i + 1), by omega, rfl, c, h⟩, fun v H' hy => ?_⟩
    obtain ⟨rfl, hy⟩ := hy
    have ev := hy xs eh
    rw [List.getElem?_eq_getElem cx] at ev
    cases ev
    rw [exd, edd] at S
    have S2 : Stt K Γ' (wipe σ vs) H' (.ow s0 xs[i] ds[i] :: .ow (.li s) (.ref D) (.list acc) :: .top a xs :: (each s0 (xs.drop (i + 1)) (ds.drop (i + 1)) ++ L)) := S.perm (((List.Perm.swap _ _ _).cons _).trans (List.Perm.swap _ _ _))
    refine hs i _ acc Γ' hx pv (wipe σ vs) H' _ xs[i] _ S2 fun Γ2 σ2 H2 q2 hw S3 => ?_
    rw [wipe_wipe] at hw
    refine ⟨hw, q2 σ2 H2 _ _ S3 fun b Γ3 H3 q3 S4 => ?_⟩
    cases b with
    | false =>
      rw [if_neg (by decide)] at q3 ⊢
      have S5 := S4.clr vs
      rw [hw] at S5
      exact ⟨acc, _, q3, S5⟩
    | true =>
      rw [if_pos rfl] at q3 ⊢
      refine q3 σ2 H3 _ _ S4 fun s2 d2 Γ4 y H4 ⟨hs2, z, q4⟩ S5 => ?_
      have S5 : Stt K Γ4 σ2 H4 (.ow s y d2 :: .ow (.li s) (.ref D) (.list acc) :: .top a xs :: (each s0 (xs.drop (i + 1)) (ds.drop (i + 1)) ++ L)) := by
        rcases hs2 with rfl | rfl
        · exact S5
        · obtain ⟨I, E, R⟩ := S5
          exact ⟨I, E, Rp.dim R.mid.fz⟩
      obtain ⟨M, R, back⟩ := S5.lift (A := [.ow s y d2, .ow (.li s) (.ref D) (.list acc)])
      obtain ⟨ac, e1, l1, R2⟩ := Rp.app R
      have S6 := (back _ [.ow (.li s) (.ref D) (.list (acc ++ [d2]))] R2).clr vs
      rw [hw] at S6
      exact ⟨ac, e1, sz_lt (by rw [l1]; exact z), _, _, q4, S6⟩
  · have e : i = ds.length := by omega
    subst e
    refine .inl ⟨⟨xs, eh, by omega⟩, k _ _ _ _ _ (hd acc Γ' pv) (S.unwipe.wk (.take .here (.drop ?_)))⟩
    rw [List.drop_length, show xs.drop ds.length = [] from List.drop_eq_nil_of_le (by omega)]
    exact .refl
/-- a filter of things of one's own -/
theorem LcO_f {α : Type} {xs : List α} {f : α → PyData} (p : α → Bool) (sz : xs.length ≤ 100000)
    (hs : ∀ x ∈ xs, GC K g s0 (f x) (clr Γ vs) vs fun Γ2 => TW K tt Γ2 fun b Γ3 => b = p x ∧ if b = true then EW K te Γ3 fun s2 d2 Γ4 => s2 = s0 ∧ d2 = f x ∧ clr Γ4 vs = clr Γ vs else clr Γ3 vs = clr Γ vs)
    (hd : Q (.li s0) (.list ((xs.filter p).map f)) (clr Γ vs)) : LcO K s0 (xs.map f) g tt te vs Γ Q := by
  refine ⟨s0, fun i acc Γ' => acc = ((xs.take i).filter p).map f ∧ Γ' = clr Γ vs, ⟨rfl, rfl⟩, ?_, ?_⟩
  · rintro i d acc Γ' hd0 ⟨rfl, rfl⟩
    rw [List.getElem?_map] at hd0
    obtain ⟨x, hx, rfl⟩ := Option.map_eq_some_iff.mp hd0
    clear hd0
    have hi := (List.getElem?_eq_some_iff.mp hx).1
    have ht : xs.take (i + 1) = xs.take i ++ [x] := by rw [List.take_add_one, hx]; rfl
    intro σ H L v G S k
    refine hs x (mem_of_at hx) σ H L v G S fun Γ2 σ' H' q hw S' => k Γ2 σ' H' ?_ hw S'
    intro σ1 H1 L1 G1 S1 k1
    refine q σ1 H1 L1 G1 S1 fun b Γ3 H3 ⟨e, q3⟩ S3 => k1 b Γ3 H3 ?_ S3
    subst e
    have l : (((xs.take i).filter p).map f).length < 100000 := by
      rw [List.length_map]
      have h1 := List.length_filter_le p (xs.take i)
      rw [List.length_take] at h1
      omega
    by_cases c : p x = true
    · rw [if_pos c] at q3 ⊢
      refine q3.mono fun s2 d2 Γ4 ⟨h1, h2, h3⟩ => ⟨.inl h1, l, ?_, h3⟩
      rw [h2, ht, List.filter_append, List.map_append, List.filter_cons_of_pos c]; rfl
    · rw [if_neg c] at q3 ⊢
      refine ⟨?_, q3⟩
      rw [ht, List.filter_append, List.filter_cons_of_neg c]
      simp
  · rintro acc Γ' ⟨rfl, rfl⟩
    rw [List.length_map, List.take_length]
    exact hd
end
theorem Rp.fzEach {K : PySem.W.Frag} {H : Hp} {s : Own} : ∀ {vs : List V} {ds : List PyData} {L : List It}, Rp K H (each s vs ds ++ L) → Rp K H (each .lf vs ds ++ L)
  | [], _, _, R => by cases ‹List PyData› <;> exact R
  | _ :: _, [], _, R => R
  | v :: vs, d :: ds, L, R => by
    have R1 : Rp K H (.ow s v d :: (each s vs ds ++ L)) := R
    have R2 : Rp K H (each s vs ds ++ .sh v d :: L) := Rp.dim R1.fz
    exact (Rp.fzEach R2).mid
theorem SW_fzI {K : PySem.W.Frag} {t : L2.TS} {Γ : Ev} {P : Po} {b : Sl} {s1 : Own} {ds : List PyData} {n : Nat} (h : Γ[n]? = some b) (hb : b.bx = some (.li s1, .list ds)) (q : SW K t (Γ.set n (b.to (.li .lf) (.list ds))) P) : SW K t Γ P := fun σ H L D S k => by
  obtain ⟨w, M, hw, R, put, _⟩ := S.focus h hb
  obtain ⟨a, xs, rfl, l, R1⟩ := R.take
  have R2 : Rp K H (each s1 xs ds ++ (.top a xs :: (M ++ L))) := R1.perm List.perm_middle.symm
  have R4 : Rp K H (.top a xs :: (each .lf xs ds ++ (M ++ L))) := (Rp.fzEach R2).perm List.perm_middle
  exact q σ H L D (put _ _ _ _ (R4.put l)) k
/-! ### boxes: errors -/
/-- isinstance(e, c), isinstance(e, (c, ..)) in the suite that holds e -/
def rIsSu (K : PySem.W.Frag) (a : Addr) (cls : Value) (d : Option Addr) : List V → Hp → VK → Prop := fun xs H Q => ∃ D : Addr, cls = .ref D ∧ d = none ∧ ExcC K D ∧
  ((∃ (c : V) (cv : Value) (b : Bool), xs = [.ref a, c] ∧ (∀ u, RelV c u → u = cv) ∧ PySem.W.kitOne K (.ref D) cv = some b ∧ Q (.bl b) H) ∨
   ∃ (t : Addr) (cs : List V) (cvs : List Value) (b : Bool), xs = [.ref a, .ref t] ∧ SqT K H t cs ∧ (∀ us, Vals cs us → us = cvs) ∧ PySem.W.kitAny K (.ref D) cvs = some b ∧ Q (.bl b) H)
theorem cr_isSu {X : Cx} {a : Addr} {cls : Value} {d : Option Addr} {oe : Obj} {pn : List (Addr × Obj)} (hz : Zc cls d oe) (hf : ∃ vs, oe.data = .fields vs) : CallR (X.suite a ((a, oe) :: pn)) (.builtin "isinstance") (rIsSu X.K a cls d) := by
  intro pins s σ H xs us Q I r h
  obtain ⟨D, rfl, rfl, C, h⟩ := h
  rcases h with ⟨c, cv, b, rfl, hcv, e, q⟩ | ⟨t, cs, cvs, b, rfl, ht, hcv, e, q⟩
  · exact call_isE C hz hf pins s σ H _ us Q I r ⟨c, cv, b, rfl, hcv, e, q⟩
  · match us, r with
    | [_, _], .cons rx (.cons rt .nil) =>
      cases rx; cases rt
      obtain ⟨hget, _⟩ := I.pin (a, oe) (List.mem_append.mpr (.inl List.mem_cons_self))
      obtain ⟨vs, hv⟩ := hf
      have J : PySem.W.InstAt s.heap a oe D none := by
        obtain ⟨oc, od, oda, osl⟩ := oe
        obtain ⟨h1, h2⟩ := hz
        dsimp only at h1 h2 hv
        subst h1 h2 hv
        exact ⟨hget, rfl, rfl, trivial⟩
      obtain ⟨its, rv, ⟨⟨pc, pd, po, ps⟩, ho2, hc2, n2, hd2⟩, _⟩ := I.tuple ht
      dsimp only at hc2 hd2
      subst hc2 hd2
      have ec := hcv _ rv
      subst ec
      exact PySem.W.kia_tup (PySem.W.handS_kitx_exc C.hg C.hk C.hs C.hd C.ha C.hn C.ht C.hm) I.kIn J ho2 e (fun z => nomatch z) fun tk => ⟨.bl b, H, I.kept (t' := tk) fun _ _ z => z, rfl, q⟩
theorem k_isSu {X : Cx} {K : PySem.W.Frag} {a : Addr} {cls : Value} {d : Option Addr} {oe : Obj} {pn : List (Addr × Obj)} (hz : Zc cls d oe) (hf : ∃ vs, oe.data = .fields vs) (h : X.K = K := by rfl) : CallR (X.suite a ((a, oe) :: pn)) (.builtin "isinstance") (rIsSu K a cls d) := by subst h; exact cr_isSu hz hf
/-- a def that raises -/
def spVX (K : PySem.W.Frag) (mg : Str → Option Value) (C : Str) (pre : List PyData → Prop) : Sp := fun vs H _ E => ∃ ds L, vs.length = ds.length ∧ Rp K H (each .lf vs ds ++ L) ∧ pre ds ∧ ∀ D, mg C = some (.ref D) → ∀ H', Rp K H' L → E (.ref D) none H'
section
variable {P : Program} {wd : World} {K : PySem.W.Frag} {mg : Str → Option Value} {base : Heap}
theorem okVX {pre : List PyData → Prop} {C x qual : Str} {st : Stmt} {f : Addr} {fd : FuncData} {N ps : List Str} {k : Nat} (F : Fun K x qual st f fd) (S : FnScope N ps (defScope st)) (l : ∀ ds, pre ds → ds.length = ps.length)
    (hb : ∀ (cdv : Value) (A : Around) (outer : List Env) (s : Shared) (H : Hp) (E : XK), Room k (A.deeper (envOfC qual (defScope st) s.heap.objs.size f cdv)) → ∃ t, PSs (cxOf (L2.CX P wd) P wd K mg base N qual (defScope st) f cdv A outer s H E) (defBody st) t ∧
      ∀ ds, pre ds → SW K t (ds.map (Sl.v .lf) ++ List.replicate (N.length - ds.length) .un) { nx := fun _ => False, rt := fun _ _ _ => False, er := fun H' => ∀ D, mg C = some (.ref D) → E (.ref D) none H' }) : FnOk P wd K mg base (L2.CX P wd) (k + 1) f fd ps (spVX K mg C pre) := by
  refine F.okX S (fun vs H G E ⟨ds, L, l1, _, hp, _⟩ => l1.trans (l ds hp)) (fun cdv A outer s H vs G E hr ⟨ds, L, l1, R, hp, kk⟩ => ?_)
  obtain ⟨t, h1, h2⟩ := hb cdv A outer s H E hr
  exact ⟨t, h1, h2 ds hp (start N vs) H L _ ⟨each .lf vs ds, (EnvR.start l1).uns (by rw [l1, List.length_replicate]), R⟩ ⟨fun _ _ _ q => q.elim, fun _ _ _ _ _ _ q => q.elim, fun _ _ _ q => q.elim, fun _ _ _ q => q.elim, fun H' R' D g => kk D g H' R'⟩⟩
end
section
variable {K : PySem.W.Frag} {mg : Str → Option Value} {Γ Γ1 : Ev} {P : Po} {t : L2.TS} {σ : L2.St} {H H' : Hp} {L I : List It} {n i : Nat} {w : V} {F : Hp → Prop} {tr ta : TA} {Q : Own → PyData → Ev → Prop} {C : Str}
theorem Stt.out (S : Stt K Γ σ H L) : Rp K H L := by
  obtain ⟨I, E, R⟩ := S
  exact R.dropL
/-- here an error goes out -/
theorem SW_er (q : ∀ D σ H, P.er H → t D σ H) : SW K t Γ P := fun σ H L D S k => q D σ H (k.er H S.out)
theorem EnvR.putF (E : EnvR Γ σ I) : ∀ {n : Nat}, Γ[n]? = some .un → ∃ I2, EnvR (Γ.set n (.fact w F)) (σ.set n (some w)) I2 ∧ I2.Perm (.ps F :: I) := by
  induction E with
  | nil => intro n h; simp at h
  | @un E σ I x e ih =>
    intro n h
    cases n with
    | zero => exact ⟨_, .fact e, .refl _⟩
    | succ n =>
      obtain ⟨I2, h1, h2⟩ := ih (n := n) h
      exact ⟨I2, .un h1, h2⟩
  | @v E σ I w0 s0 d0 e ih =>
    intro n h
    cases n with
    | zero => cases h
    | succ n =>
      obtain ⟨I2, h1, h2⟩ := ih (n := n) h
      exact ⟨_, .v h1, (h2.cons _).trans (.swap _ _ _)⟩
  | @pin E σ I w0 s0 d0 e ih =>
    intro n h
    cases n with
    | zero => cases h
    | succ n =>
      obtain ⟨I2, h1, h2⟩ := ih (n := n) h
      exact ⟨_, .pin h1, (h2.cons _).trans (.swap _ _ _)⟩
  | @fact E σ I w0 F0 e ih =>
    intro n h
    cases n with
    | zero => cases h
    | succ n =>
      obtain ⟨I2, h1, h2⟩ := ih (n := n) h
      exact ⟨_, .fact h1, (h2.cons _).trans (.swap _ _ _)⟩
  | @ob bb E σ I a dx C vs fs e l ih =>
    intro n h
    cases n with
    | zero => cases h
    | succ n =>
      obtain ⟨I2, h1, h2⟩ := ih (n := n) h
      exact ⟨_, .ob h1 l, (((h2.append_left (fits fs vs)).trans List.perm_middle).cons _).trans (.swap _ _ _)⟩
theorem Rp.tru (R : Rp K H L) : Rp K H (.ps (fun _ => True) :: L) := by
  obtain ⟨ps, u, r⟩ := R
  exact ⟨_, .cons (p := [_]) rfl u, r.addps (fun _ _ _ _ => trivial) trivial⟩
theorem Stt.holdA (S : Stt K Γ σ H L) (h : n < Γ.length) : Stt K (Γ.set n (.fact w fun _ => True)) (σ.set n (some w)) H L := by
  obtain ⟨I, E, R⟩ := S
  obtain ⟨I1, E1, k⟩ := E.drop n
  obtain ⟨I2, E2, k2⟩ := E1.putF (w := w) (F := fun _ => True) (n := n) (by rw [List.getElem?_set_self h])
  rw [List.set_set] at E2
  exact ⟨I2, E2, Rp.perm (k2.symm.append_right L) (k _ _ _ R).tru⟩
theorem Stt.dropA (S : Stt K Γ σ H L) (h : n < Γ.length) : Stt K (Γ.set n .un) (σ.set n none) H L := by
  obtain ⟨I, E, R⟩ := S
  obtain ⟨I1, E1, k⟩ := E.drop n
  exact ⟨I1, E1.unset n none (by rw [List.getElem?_set_self h]), k _ _ _ R⟩
/-- try: f(..) / except C as e: ts -/
theorem SW_tryX {sp : Sp} {pre : List PyData → Prop} {c : Value} {ts : Addr → Value → Option Addr → L2.TS} {Wout : WX} (hi : i < Γ.length)
    (q : AW K tr Γ fun bs Γ1 => SndB bs fun ds => Γ1.length = Γ.length ∧ pre ds ∧ ∀ X, mg C = some (.ref X) → PySem.W.exmOne K (.ref X) c = some true ∧ ∀ a, SW K (ts a (.ref X) none) (Γ1.set i (.fact (.ref a) fun _ => True)) { P with nx := fun Γ' => Γ'.length = Γ.length ∧ P.nx (Γ'.set i .un), bk := fun _ => False, ct := fun _ => False }) :
    SW K (fun D σ H => tDrop (tCallS (spOr sp (spVX K mg C pre)) (fun σ => WE (wAs K c i ts Wout D) σ) tr) D σ H) Γ P := fun σ H L D S k => q σ H L _ S fun bs Γ1 vs H1 q1 l S1 => by
  obtain ⟨hl, hp, hx⟩ := q1.2
  obtain ⟨M, R, back⟩ := S1.lift (A := zipI vs bs)
  refine .inr ⟨bs.map Prod.snd, M, by rw [l, List.length_map], Rp.fzZ l R, hp, fun X gX H' R' => ?_⟩
  obtain ⟨hex, hts⟩ := hx X gX
  refine ⟨true, hex, fun _ a na => ?_, fun z => nomatch z⟩
  have S2 : Stt K Γ1 σ H' L := back H' [] R'
  refine hts a _ H' L _ (S2.holdA (by rw [hl]; exact hi)) ⟨fun Γ' σ' H2 q2 S3 => k.nx _ _ _ q2.2 (S3.dropA (by rw [q2.1]; exact hi)), fun s d Γ' σ' v H2 q2 S3 => k.rt _ _ _ _ _ _ q2 S3, fun _ _ _ q2 => q2.elim, fun _ _ _ q2 => q2.elim, k.er⟩
theorem EW_isSu {a D : Addr} {b : Bool} {c : V} {cv : Value} (h : Γ[n]? = some (.fact (.ref a) F)) (x : ExcC K D) (hc : ∀ u, RelV c u → u = cv) (k : PySem.W.kitOne K (.ref D) cv = some b) (q : Q .lf (.bool b) Γ) : EW K (tCB (rIsSu K a (.ref D) none) (tCons (tVar n) (tCons (tC c) tNil))) Γ Q := fun σ H L G S kk =>
  ⟨_, (S.factAt h).1, ⟨D, rfl, rfl, x, .inl ⟨c, cv, b, rfl, hc, k, kk _ _ _ _ _ q (S.flat (.bl b) rfl)⟩⟩⟩
theorem EW_isSuT {a D : Addr} {b : Bool} {cs : List Addr} (h : Γ[n]? = some (.fact (.ref a) F)) (x : ExcC K D) (ht : ∀ σ H G, G (cs.map V.ref) H → ta σ H G) (l : cs.length ≤ 1000) (k : PySem.W.kitAny K (.ref D) (cs.map Value.ref) = some b) (q : Q .lf (.bool b) Γ) : EW K (tCB (rIsSu K a (.ref D) none) (tCons (tVar n) (tCons (tTup ta) tNil))) Γ Q := fun σ H L G S kk =>
  ⟨_, (S.factAt h).1, ht _ _ _ ⟨by rw [List.length_map, sizeLine_eq]; omega, fun p np => ⟨D, rfl, rfl, x, .inr ⟨p, cs.map V.ref, cs.map Value.ref, b, rfl, sqT_at, fun us r => valsR r, k, kk _ _ _ _ _ q ((S.same (same_new np)).flat (.bl b) rfl)⟩⟩⟩⟩
/-- what the walk asks where isinstance(e, C) stands -/
def IsSu1 (K : PySem.W.Frag) (Γ : Ev) (n : Nat) (a D : Addr) (c : V) (q : Bool → Prop) : Prop := ∃ F, Γ[n]? = some (.fact (.ref a) F) ∧ ExcC K D ∧ ∃ (cv : Value) (b : Bool), (∀ u, RelV c u → u = cv) ∧ PySem.W.kitOne K (.ref D) cv = some b ∧ q b
def IsSuT (K : PySem.W.Frag) (Γ : Ev) (n : Nat) (a D : Addr) (ta : TA) (q : Bool → Prop) : Prop := ∃ F, Γ[n]? = some (.fact (.ref a) F) ∧ ExcC K D ∧ ∃ (cs : List Addr) (b : Bool), (∀ σ H G, G (cs.map V.ref) H → ta σ H G) ∧ cs.length ≤ 1000 ∧ PySem.W.kitAny K (.ref D) (cs.map Value.ref) = some b ∧ q b
instance (priority := 2000) {a D : Addr} {c : V} : St1 (EW K (tCB (rIsSu K a (.ref D) none) (tCons (tVar n) (tCons (tC c) tNil))) Γ Q) (IsSu1 K Γ n a D c fun b => Q .lf (.bool b) Γ) := ⟨fun ⟨_, h, x, _, _, hc, k, q⟩ => EW_isSu h x hc k q⟩
instance (priority := 2000) {a D : Addr} : St1 (EW K (tCB (rIsSu K a (.ref D) none) (tCons (tVar n) (tCons (tTup ta) tNil))) Γ Q) (IsSuT K Γ n a D ta fun b => Q .lf (.bool b) Γ) := ⟨fun ⟨_, h, x, _, _, ht, l, k, q⟩ => EW_isSuT h x ht l k q⟩
theorem SW_nx (q : P.nx Γ) : SW K L2.Ends.nx Γ P := fun _ _ _ _ S k => k.nx _ _ _ q S
end
section
variable {K : PySem.W.Frag} {d : PyData} {Q : Own → PyData → Prop} {n : Nat}
instance (priority := 850) {a b c x y z : Bool} : EqC (.tuple [.bool a, .bool b, .bool c]) (.tuple [.bool x, .bool y, .bool z]) (decide (a = x ∧ b = y ∧ c = z)) := ⟨rfl, rfl, by cases a <;> cases b <;> cases c <;> cases x <;> cases y <;> cases z <;> rfl⟩
/-- data held against itself -/
theorem OM_eqSame (h : Sh n d) (q : Q .lf (.bool true)) (l : n ≤ 64 := by decide) : OM K (rEqD K) d d Q := OM_eqX (h.ok l) (h.ok l) (SeqAt.eqv_refl d h.1) q
theorem OM_neSame (h : Sh n d) (q : Q .lf (.bool false)) (l : n ≤ 64 := by decide) : OM K (rNeD K) d d Q := OM_neX (b := true) (h.ok l) (h.ok l) (SeqAt.eqv_refl d h.1) q
end
/-! ### boxes: promises by name -/
abbrev Pre := List PyData → (Own → PyData → Prop) → Prop
abbrev PreS := List Int → List PyData → (Own → PyData → Prop) → Prop
abbrev PreM := Own → PyData → List PyData → (Own → PyData → PyData → Prop) → Prop
/-! ### a comprehension that takes over the items of a list of one's own -/
section
variable {K : PySem.W.Frag} {H H' : Hp} {Q : VK} {L L1 : List Fc.It} {a p : Addr} {σ : L2.St} {g : TG} {tt : TT} {te : TE} {vs : List Nat} {Qd : Hp → Prop} {ds0 : List PyData}
theorem lcv_ow (s s' : Own) (f : PyData → Bool) (e : PyData → PyData) (R : Rp K H L) (h : Sel (.ow (.li s) (.ref a) (.list ds0)) L L1) (nL : H p = none) (sz : ds0.length < 100000)
    (turn : ∀ (i : Nat) x d X M H', ds0[i]? = some d → Rp K H' (.ow s x d :: X :: (M ++ L1)) → ∀ (Qy : VK) (Qn : Hp → Prop), (f d = true → ∀ y H4, Rp K H4 (.ow s' y (e d) :: X :: (M ++ L1)) → Qy y H4) → (f d = false → ∀ H4, Rp K H4 (X :: (M ++ L1)) → Qn H4) → g x (wipe σ vs) H' fun σ2 H2 => wipe σ2 vs = wipe σ vs ∧ tt σ2 H2 fun b H3 => if b = true then te σ2 H3 Qy else Qn H3)
    (done : ∀ H', Rp K H' (.ow (.li s') (.ref p) (.list ((ds0.filter f).map e)) :: L1) → Qd H') : LoopC (Itl K a) g tt te vs p σ Qd H := by
  obtain ⟨a', xs, e', l, R⟩ := (R.sel h).take
  cases e'
  refine lco_list (xs := xs) s' (fun i ds L' => ds = ((ds0.take i).filter f).map e ∧ L' = .top a xs :: (each s (xs.drop i) (ds0.drop i) ++ L1)) R nL ⟨rfl, rfl⟩ (by omega) (fun i ds L' X H' ⟨_, z⟩ R' => by subst z; exact SqL.of (R'.topOf (.tail _ mem_here))) ?_ (fun ds L' H' ⟨e1, e2⟩ R' => by
    subst e1 e2
    rw [l, List.take_length, List.drop_length] at R'
    refine done H' (R'.wk (.take .here (.drop (.dropA .refl)))))
  rintro i x ds L' X H' hx ⟨rfl, rfl⟩ R Qy Qn q1 q2
  have hi : i < ds0.length := by rw [← l]; exact (List.getElem?_eq_some_iff.mp hx).1
  have hd : ds0[i]? = some ds0[i] := List.getElem?_eq_getElem hi
  have ex : xs.drop i = x :: xs.drop (i + 1) := by
    have h2 : i < xs.length := by omega
    rw [List.drop_eq_getElem_cons h2]
    rw [List.getElem?_eq_getElem h2] at hx
    cases hx; rfl
  have ed : ds0.drop i = ds0[i] :: ds0.drop (i + 1) := List.drop_eq_getElem_cons hi
  rw [ex, ed] at R
  have R : Rp K H' (.ow s x ds0[i] :: X :: ((.top a xs :: each s (xs.drop (i + 1)) (ds0.drop (i + 1))) ++ L1)) := R.wk (.take (.there (.there .here)) .refl)
  have tk : (ds0.take (i + 1)).filter f = if f ds0[i] then (ds0.take i).filter f ++ [ds0[i]] else (ds0.take i).filter f := by
    rw [List.take_add_one, hd, List.filter_append]
    cases hf : f ds0[i] <;> simp [hf]
  refine turn i x ds0[i] X (.top a xs :: each s (xs.drop (i + 1)) (ds0.drop (i + 1))) H' hd R Qy Qn (fun hf y H4 R4 => q1 y (e ds0[i]) _ H4 ⟨?_, rfl⟩ R4) (fun hf H4 R4 => q2 _ H4 ⟨?_, rfl⟩ R4)
  · rw [tk, if_pos hf, List.map_append]; rfl
  · rw [tk, hf]; rfl
end
/-! ### the splits of a table, by one point more at a time -/
theorem sub_len {n : Nat} {c : List Int} (h1 : c.Pairwise (· < ·)) (h2 : ∀ z ∈ c, 1 ≤ z ∧ z ≤ (n : Int)) : c.length ≤ n := by
  have := (subsL_mem (k := n) (c := c)).mpr ⟨h1, h2⟩
  clear h1 h2
  induction n generalizing c with
  | zero => unfold subsL at this; rw [List.mem_singleton.mp this]; simp
  | succ n ih =>
    unfold subsL at this
    rcases List.mem_append.mp this with h | h
    · have := ih h; omega
    · obtain ⟨d, hd, rfl⟩ := List.mem_map.mp h
      have := ih hd
      rw [List.length_append, List.length_singleton]; omega
def posM (m : Option Int) : Bool := match m with
  | some z => decide (0 < z)
  | none => false
def posB (r : Nat → Nat → Int) (m : Nat) (c : List Int) : Bool := posM (minL (ovL r (prsL c) (prsL (ptsOut m c))))
def someF (k : Nat) (F : List (List Int)) : List (List Int) := ([[(k : Int) + 1]] ++ F) ++ F.map (· ++ [(k : Int) + 1])
def splF (r : Nat → Nat → Int) : Nat → List (List Int)
  | 0 => []
  | k + 1 => (someF k (splF r k)).filter (posB r (k + 2))
theorem splF_len (r : Nat → Nat → Int) : ∀ k, (splF r k).length + 1 ≤ 2 ^ k
  | 0 => Nat.le_refl _
  | k + 1 => by
    have := splF_len r k
    have h2 := List.length_filter_le (posB r (k + 2)) (someF k (splF r k))
    have h3 : (someF k (splF r k)).length = 1 + (splF r k).length + (splF r k).length := by
      unfold someF
      rw [List.length_append, List.length_append, List.length_map]; rfl
    show ((someF k (splF r k)).filter (posB r (k + 2))).length + 1 ≤ 2 ^ (k + 1)
    rw [Nat.pow_succ]; omega
theorem ptsOut_mem {n : Nat} {c : List Int} {z : Int} : z ∈ ptsOut n c ↔ (0 ≤ z ∧ z < n) ∧ z ∉ c := by
  unfold ptsOut
  rw [List.mem_filter, rg_mem]
  simp
theorem posB_ok {r : Nat → Nat → Int} (sy : ∀ i j, r i j = r j i) {n : Nat} {c : List Int} (h0 : c ≠ []) (h1 : ptsOut n c ≠ []) : ∃ z, minL (ovL r (prsL c) (prsL (ptsOut n c))) = some z ∧ Lst (OvP r c (ptsOut n c)) z ∧ posB r n c = decide (0 < z) := by
  obtain ⟨z, e, l⟩ := ovL_ok sy h0 h1
  exact ⟨z, e, l, by unfold posB; rw [e]; rfl⟩
theorem out_ne {n : Nat} {c : List Int} (hn : 1 ≤ n) (h : ∀ z ∈ c, 1 ≤ z) : ptsOut n c ≠ [] := fun e => by
  have : (0 : Int) ∈ ptsOut n c := ptsOut_mem.mpr ⟨by omega, fun z => by have := h 0 z; omega⟩
  rw [e] at this; cases this
/-- fewer points: no less -/
theorem posB_less {r : Nat → Nat → Int} (sy : ∀ i j, r i j = r j i) {n m : Nat} {c d : List Int} (hc : c ≠ []) (hm : 1 ≤ m) (p : ∀ z ∈ d, 1 ≤ z) (sub : ∀ z ∈ c, z ∈ d) (out : ∀ z ∈ ptsOut m c, z ∈ ptsOut n d) (h : posB r n d = true) : posB r m c = true := by
  have hd : d ≠ [] := fun e => by
    cases c with
    | nil => exact hc rfl
    | cons x c => have := sub x (.head _); rw [e] at this; cases this
  have o1 : ptsOut m c ≠ [] := out_ne hm fun z hz => p z (sub z hz)
  have o2 : ptsOut n d ≠ [] := fun e => by
    cases hx : ptsOut m c with
    | nil => exact o1 hx
    | cons x l => have := out x (by rw [hx]; exact .head _); rw [e] at this; cases this
  obtain ⟨z, _, l1, e1⟩ := posB_ok sy hd o2
  obtain ⟨y, _, l2, e2⟩ := posB_ok sy hc o1
  rw [e1] at h
  rw [e2]
  obtain ⟨a, b, c', e', h1, h2, h3, h4, rfl⟩ := l2.1
  have := l1.2 _ ⟨a, b, c', e', sub a h1, sub b h2, out c' h3, out e' h4, rfl⟩
  have := of_decide_eq_true h
  exact decide_eq_true (by omega)
theorem splF_mem {r : Nat → Nat → Int} (sy : ∀ i j, r i j = r j i) : ∀ {k : Nat} {c : List Int}, c ∈ splF r k ↔ c ∈ cutsL k 1 ∧ posB r (k + 1) c = true
  | 0, c => by
    unfold splF
    constructor
    · intro h; cases h
    · rintro ⟨h, _⟩; cases h
  | k + 1, c => by
    unfold splF
    rw [List.mem_filter]
    unfold someF
    rw [List.mem_append, List.mem_append, List.mem_map, List.mem_singleton, cutsL_mem]
    constructor
    · rintro ⟨h, hp⟩
      refine ⟨?_, hp⟩
      rcases h with (rfl | h) | ⟨d, hd, rfl⟩
      · exact ⟨by simp, by simp, fun z hz => by rw [List.mem_singleton.mp hz]; omega⟩
      · obtain ⟨h0, h1, h2⟩ := cutsL_mem.mp ((splF_mem sy).mp h).1
        exact ⟨h0, h1, fun z hz => by have := h2 z hz; omega⟩
      · obtain ⟨h0, h1, h2⟩ := cutsL_mem.mp ((splF_mem sy).mp hd).1
        refine ⟨by simp, List.pairwise_append.mpr ⟨h1, by simp, fun a ha b hb => ?_⟩, fun z hz => ?_⟩
        · rw [List.mem_singleton.mp hb]; have := h2 a ha; omega
        · rcases List.mem_append.mp hz with hz | hz
          · have := h2 z hz; omega
          · rw [List.mem_singleton.mp hz]; omega
    · rintro ⟨⟨h0, h1, h2⟩, hp⟩
      refine ⟨?_, hp⟩
      by_cases e : ((k : Int) + 1) ∈ c
      · obtain ⟨d, t, rfl⟩ := List.append_of_mem e
        have t0 : t = [] := by
          cases t with
          | nil => rfl
          | cons y t =>
            have := h2 y (by simp)
            have := (List.pairwise_cons.mp (List.pairwise_append.mp h1).2.1).1 y (.head _)
            omega
        subst t0
        have dl : ∀ z ∈ d, 1 ≤ z ∧ z < (k : Int) + 1 := fun z hz => by
          have := h2 z (by simp [hz])
          have := (List.pairwise_append.mp h1).2.2 z hz _ (.head _)
          omega
        by_cases d0 : d = []
        · exact .inl (.inl (by rw [d0]; rfl))
        · refine .inr ⟨d, (splF_mem sy).mpr ⟨cutsL_mem.mpr ⟨d0, (List.pairwise_append.mp h1).1, fun z hz => by have := dl z hz; omega⟩, ?_⟩, rfl⟩
          refine posB_less sy (d := d ++ [(k : Int) + 1]) (n := k + 1 + 1) d0 (by omega) (fun z hz => ?_) (fun z hz => by simp [hz]) (fun z hz => ?_) hp
          · rcases List.mem_append.mp hz with hz | hz
            · exact (dl z hz).1
            · rw [List.mem_singleton.mp hz]; omega
          · obtain ⟨z1, z2⟩ := ptsOut_mem.mp hz
            refine ptsOut_mem.mpr ⟨by omega, fun h => ?_⟩
            rcases List.mem_append.mp h with h | h
            · exact z2 h
            · rw [List.mem_singleton.mp h] at z1; omega
      · refine .inl (.inr ((splF_mem sy).mpr ⟨cutsL_mem.mpr ⟨h0, h1, fun z hz => ?_⟩, ?_⟩))
        · have := h2 z hz
          have : z ≠ (k : Int) + 1 := fun h => e (h ▸ hz)
          omega
        · refine posB_less sy (d := c) (n := k + 1 + 1) h0 (by omega) (fun z hz => by have := h2 z hz; omega) (fun z hz => hz) (fun z hz => ?_) hp
          obtain ⟨z1, z2⟩ := ptsOut_mem.mp hz
          exact ptsOut_mem.mpr ⟨by omega, z2⟩
theorem splF_nodup {r : Nat → Nat → Int} (sy : ∀ i j, r i j = r j i) : ∀ k, (splF r k).Nodup
  | 0 => by unfold splF; exact .nil
  | k + 1 => by
    have ih := splF_nodup sy k
    have mx : ∀ c ∈ splF r k, ∀ z ∈ c, z ≤ (k : Int) := fun c hc z hz => by
      have := (cutsL_mem.mp ((splF_mem sy).mp hc).1).2.2 z hz; omega
    unfold splF
    refine List.Pairwise.filter _ ?_
    unfold someF
    refine List.nodup_append.mpr ⟨List.nodup_append.mpr ⟨by simp, ih, fun a ha b hb e => ?_⟩, List.Pairwise.map _ (fun a b h e => h (List.append_cancel_right e)) ih, fun a ha b hb e => ?_⟩
    · rw [List.mem_singleton.mp ha] at e
      have := mx b hb ((k : Int) + 1) (by rw [← e]; simp)
      omega
    · obtain ⟨d, hd, rfl⟩ := List.mem_map.mp hb
      rcases List.mem_append.mp ha with ha | ha
      · rw [List.mem_singleton.mp ha] at e
        have d0 : d = [] := by
          cases d with
          | nil => rfl
          | cons x d =>
            have := congrArg List.length e
            simp at this
        rw [d0] at hd
        exact (cutsL_mem.mp ((splF_mem sy).mp hd).1).1 rfl
      · have := mx a ha ((k : Int) + 1) (by rw [e]; simp)
        omega
theorem splF_perm {r : Nat → Nat → Int} (sy : ∀ i j, r i j = r j i) (k : Nat) : (splF r k).Perm ((cutsL k 1).filter (posB r (k + 1))) :=
  nodup_perm (splF_nodup sy k) ((cutsL_nodup k 1).filter _) fun c => by rw [splF_mem sy, List.mem_filter]
/-- twice the index of a cut -/
def idx (r : Nat → Nat → Int) (n : Nat) (c : List Int) : Int := (minL (ovL4 r c (ptsOut n c))).getD 0
/-- the splits with their weights -/
def splW (n : Nat) (r : Nat → Nat → Int) (b : Int) : List (List Int × Rat) := ((cutsL (n - 1) 1).filter fun c => decide (0 < idx r n c)).map fun c => (c, Rat.divInt (idx r n c) (2 * b))
theorem idx_lst {r : Nat → Nat → Int} {n : Nat} {c : List Int} (h0 : c ≠ []) (h1 : ptsOut n c ≠ []) : minL (ovL4 r c (ptsOut n c)) = some (idx r n c) ∧ Lst (OvP r c (ptsOut n c)) (idx r n c) := by
  obtain ⟨z, e, l⟩ := ovL4_ok (r := r) h0 h1
  unfold idx
  rw [e]
  exact ⟨rfl, l⟩
theorem perm_some {α : Type} (a b c d e f : α) (E1 E2 M : List α) : (a :: b :: (E2 ++ c :: d :: (E1 ++ e :: f :: M))).Perm (b :: c :: d :: e :: a :: ((f :: (E1 ++ E2)) ++ M)) := by
  classical
  rw [List.perm_iff_count]
  intro x
  simp only [List.count_cons, List.count_append]
  omega
/-! ### boxes: things of one's own changed within a result; sorted taking over -/
section
variable {K : PySem.W.Frag} {Γ Γ1 : Ev} {P : Po} {n p q : Nat} {d0 : PyData} {s0 s1 : Own} {us : List (List Int × Rat)} {ds : List PyData} {z : Int} {QE : Own → PyData → Ev → Prop}
theorem Stt.dropG {σ : L2.St} {H : Hp} {L : List It} (S : Stt K Γ σ H L) : Stt K (Γ.set n .un) σ H L := by
  obtain ⟨I, E, R⟩ := S
  obtain ⟨I1, E1, k⟩ := E.drop n
  exact ⟨I1, E1, k _ _ _ R⟩
/-- two slots of no account set -/
theorem Stt.free2 {σ : L2.St} {H : Hp} {L : List It} (S : Stt K Γ σ H L) (hp : Γ[p]? = some .un) (hq : Γ[q]? = some .un) (x y : Option V) : Stt K Γ ((σ.set p x).set q y) H L := by
  obtain ⟨I, E, R⟩ := S
  exact ⟨I, (E.unset p x hp).unset q y hq, R⟩
/-- for side, weight in found[1]: side.append(z) -/
theorem SW_forApp (h : Γ[n]? = some (.v (.t2 s0 (.li (.t2 (.li .lf) .lf))) (.tuple [d0, WD us]))) (np : n ≠ p) (nq : n ≠ q) (pq : p ≠ q) (hp : p < Γ.length) (hq : q < Γ.length) (bl : ∀ u ∈ us, u.1.length < 99999)
    (k : P.nx (((Γ.set p .un).set q .un).set n (.v (.t2 s0 (.li .lf)) (.tuple [d0, WD (us.map fun u => (u.1 ++ [z], u.2))])))) :
    SW K (tFor (iList K (tOp (rIxT K) (tVar n) (tC (.int 1)))) (gTup K 2 (gCons (gName p) (gCons (gName q) gNil))) (tDrop (tBM K "list" rAppend (tVar p) (tCons (tC (.int z)) tNil)))) Γ P := by
  intro σ H L D S k0
  have S1 : Stt K ((Γ.set p .un).set q .un) σ H L := S.dropG.dropG
  have lσ : σ.length = Γ.length := by obtain ⟨I, E, R⟩ := S; exact E.len.symm
  have h1 : ((Γ.set p .un).set q .un)[n]? = some (.v (.t2 s0 (.li (.t2 (.li .lf) .lf))) (.tuple [d0, WD us])) := by
    rw [List.getElem?_set_ne (by omega), List.getElem?_set_ne (by omega), h]
  obtain ⟨w, M, hw, R, put, _⟩ := S1.focus h1 rfl
  obtain ⟨t0, v0, v1, rfl, R1⟩ := R.take2
  have st := R1.psAt
  have R2 : Rp K H (.ow (.li (.t2 (.li .lf) .lf)) v1 (WD us) :: .ps (fun H => SqT K H t0 [v0, v1]) :: .ow s0 v0 d0 :: (M ++ L)) := R1.perm (((List.Perm.swap _ _ _).cons _).trans (List.Perm.swap _ _ _))
  obtain ⟨a, xs, rfl, lx, R3⟩ := R2.take
  rw [List.length_map] at lx
  clear R R1 R2
  generalize hT : (It.ps (fun H => SqT K H t0 [v0, .ref a])) = T at R3
  refine ⟨.ref t0, hw, t0, [v0, .ref a], 1, .ref a, rfl, rfl, st, rfl, a, rfl, ⟨xs, SqL.of R3.topAt⟩, ?_⟩
  refine ⟨fun i m σ' H' => m = xs.length - i ∧ i ≤ xs.length ∧ σ'.length = Γ.length ∧ (∀ H2 L2 Γ2, Γ2[p]? = some .un → Γ2[q]? = some .un → Stt K Γ2 σ H2 L2 → Stt K Γ2 σ' H2 L2) ∧
    Rp K H' (.top a xs :: (each (.t2 (.li .lf) .lf) xs (((us.take i).map (fun u => (u.1 ++ [z], u.2)) ++ us.drop i).map CD) ++ (T :: .ow s0 v0 d0 :: (M ++ L)))), ⟨_, rfl, Nat.zero_le _, lσ, fun _ _ _ _ _ S => S, by rw [List.take_zero, List.drop_zero]; exact R3⟩, ?_⟩
  rintro i m σ1 H1 ⟨rfl, hi, l1, fr, R⟩
  have eh : SqL K H1 a xs := SqL.of R.topAt
  by_cases c : i < xs.length
  · have cu : i < us.length := by omega
    have hx : xs[i]? = some xs[i] := List.getElem?_eq_getElem c
    refine .inr ⟨⟨xs, xs[i], eh, hx⟩, fun σ' H' => i + 1 ≤ xs.length ∧ σ'.length = Γ.length ∧ (∀ H2 L2 Γ2, Γ2[p]? = some .un → Γ2[q]? = some .un → Stt K Γ2 σ H2 L2 → Stt K Γ2 σ' H2 L2) ∧
      Rp K H' (.top a xs :: (each (.t2 (.li .lf) .lf) xs (((us.take (i + 1)).map (fun u => (u.1 ++ [z], u.2)) ++ us.drop (i + 1)).map CD) ++ (T :: .ow s0 v0 d0 :: (M ++ L)))), fun σ' H' h => ⟨xs.length - (i + 1), by omega, rfl, h⟩, fun v H' hy => ?_⟩
    obtain ⟨rfl, hy⟩ := hy
    have ev := hy xs eh
    rw [hx] at ev
    cases ev
    have hu : us[i]? = some us[i] := List.getElem?_eq_getElem cu
    have lt : ((us.take i).map (fun u : List Int × Rat => (u.1 ++ [z], u.2))).length = i := by rw [List.length_map, List.length_take]; omega
    have hd : ((((us.take i).map (fun u => (u.1 ++ [z], u.2)) ++ us.drop i)).map CD)[i]? = some (CD us[i]) := by
      rw [List.getElem?_map, List.getElem?_append_right (by omega), lt, Nat.sub_self, List.getElem?_drop, Nat.add_zero, hu]; rfl
    have hset : ((((us.take i).map (fun u => (u.1 ++ [z], u.2)) ++ us.drop i)).map CD).set i (CD (us[i].1 ++ [z], us[i].2)) = (((us.take (i + 1)).map (fun u => (u.1 ++ [z], u.2)) ++ us.drop (i + 1))).map CD := by
      have e1 : (((us.take i).map (fun u : List Int × Rat => (u.1 ++ [z], u.2)) ++ us.drop i)).set i (us[i].1 ++ [z], us[i].2) = (us.take (i + 1)).map (fun u => (u.1 ++ [z], u.2)) ++ us.drop (i + 1) := by
        rw [List.set_append_right i _ (by omega), lt, Nat.sub_self, List.drop_eq_getElem_cons cu, List.set_cons_zero, List.take_add_one, hu, List.map_append, List.append_assoc]
        rfl
      rw [← e1, List.map_set]
    obtain ⟨C, RF, back⟩ := R.focus hx hd
    obtain ⟨t1, w1, w2, ew, R5⟩ := RF.take2
    obtain ⟨b, rfl⟩ := sh_lst R5.tail
    have st1 := R5.psAt
    have bu := bl us[i] (List.getElem_mem cu)
    refine ⟨t1, [.ref b, w2], ew, st1, rfl, _, _, rfl, _, _, rfl, rfl, ?_⟩
    refine ⟨.ref b, by rw [List.getElem?_set_ne (by omega), List.getElem?_set_self (by omega)], tyR (T := tVar 0) R5 (.tail _ List.mem_cons_self), ?_⟩
    dsimp only [tCons, tNil, tC]
    refine g_appR (R5.int z) (s := .lf) (y := .int z) (d := .int z) (p := b) .here (.there .here) (by rw [List.length_map]; omega) fun H2 R6 => ?_
    refine ⟨c, by rw [List.length_set, List.length_set]; exact l1, fun H2 L2 Γ2 e1 e2 S2 => (fr H2 L2 Γ2 e1 e2 S2).free2 e1 e2 _ _, ?_⟩
    rw [← hset]
    refine back _ _ ?_
    rw [ew]
    refine Rp.put2 (x := .ref b) (y := w2) ?_
    rw [show IL (us[i].1 ++ [z], us[i].2).1 = .list (us[i].1.map PyData.int ++ [.int z]) by show PyData.list ((us[i].1 ++ [z]).map PyData.int) = _; rw [List.map_append]; rfl]
    exact R6.perm (.swap _ _ _)
  · have e : i = xs.length := by omega
    subst e
    refine .inl ⟨⟨xs, eh, Nat.le_refl _⟩, k0.nx _ _ _ k ?_⟩
    refine fr _ _ _ (by rw [List.getElem?_set_ne (by omega), List.getElem?_set_ne (by omega), List.getElem?_set_self hp]) (by rw [List.getElem?_set_ne (by omega), List.getElem?_set_self (by rw [List.length_set]; exact hq)]) ?_
    subst hT
    rw [lx, List.take_length, List.drop_length, List.append_nil] at R
    have R5 : Rp K H1 (each (.t2 (.li .lf) .lf) xs ((us.map fun u => (u.1 ++ [z], u.2)).map CD) ++ (.top a xs :: (.ps (fun H => SqT K H t0 [v0, .ref a]) :: .ow s0 v0 d0 :: (M ++ L)))) := R.perm List.perm_middle.symm
    have R6 : Rp K H1 (.ow (.li .lf) (.ref a) (WD (us.map fun u => (u.1 ++ [z], u.2))) :: .ps (fun H => SqT K H t0 [v0, .ref a]) :: .ow s0 v0 d0 :: (M ++ L)) := Rp.put ((Rp.fzEach R5).perm List.perm_middle) (by rw [List.length_map, List.length_map]; exact lx)
    have R7 : Rp K H1 (.ps (fun H => SqT K H t0 [v0, .ref a]) :: .ow s0 v0 d0 :: .ow (.li .lf) (.ref a) (WD (us.map fun u => (u.1 ++ [z], u.2))) :: (M ++ L)) := R6.perm ((List.Perm.swap _ _ _).trans ((List.Perm.swap _ _ _).cons _))
    exact put H1 L _ _ R7.put2
/-- found[1].append(z) -/
theorem EW_app2 (h : Γ[n]? = some (.v (.t2 s0 (.li s1)) (.tuple [d0, .list ds]))) (l : ds.length < 100000) (k : QE .lf .none (Γ.set n (.v (.t2 s0 (.li .lf)) (.tuple [d0, .list (ds ++ [.int z])])))) :
    EW K (tBM K "list" rAppend (tOp (rIxT K) (tVar n) (tC (.int 1))) (tCons (tC (.int z)) tNil)) Γ QE := by
  intro σ H L G S k0
  obtain ⟨w, M, hw, R, put, _⟩ := S.focus h rfl
  obtain ⟨t0, v0, v1, rfl, R1⟩ := R.take2
  have st := R1.psAt
  have R2 : Rp K H (.ow (.li s1) v1 (.list ds) :: .ps (fun H => SqT K H t0 [v0, v1]) :: .ow s0 v0 d0 :: (M ++ L)) := R1.perm (((List.Perm.swap _ _ _).cons _).trans (List.Perm.swap _ _ _))
  obtain ⟨a, xs, rfl, lx, R3⟩ := R2.take
  have R4 : Rp K H (.ow (.li .lf) (.ref a) (.list ds) :: .ps (fun H => SqT K H t0 [v0, .ref a]) :: .ow s0 v0 d0 :: (M ++ L)) := by
    have R5 : Rp K H (each s1 xs ds ++ (.top a xs :: (.ps (fun H => SqT K H t0 [v0, .ref a]) :: .ow s0 v0 d0 :: (M ++ L)))) := R3.perm List.perm_middle.symm
    exact Rp.put ((Rp.fzEach R5).perm List.perm_middle) lx
  refine ⟨.ref t0, hw, t0, [v0, .ref a], 1, .ref a, rfl, rfl, st, rfl, tyR (T := tVar 0) R4 List.mem_cons_self, ?_⟩
  refine g_appR (R4.int z) (s := .lf) (y := .int z) (d := .int z) (p := a) .here .here l fun H2 R6 => ?_
  have R7 : Rp K H2 (.ps (fun H => SqT K H t0 [v0, .ref a]) :: .ow s0 v0 d0 :: .ow (.li .lf) (.ref a) (.list (ds ++ [.int z])) :: (M ++ L)) := R6.perm ((List.Perm.swap _ _ _).trans ((List.Perm.swap _ _ _).cons _))
  have S2 := put H2 L _ _ R7.put2
  exact k0 _ _ _ _ _ k (S2.flat .non rfl)
theorem Rp.eachDp {H : Hp} {s : Own} : ∀ {xs : List V} {ds : List PyData} {L : List It}, xs.length = ds.length → Rp K H (each s xs ds ++ L) → DpAll K H xs ds
  | [], [], _, _, _ => .nil
  | x :: xs, d :: ds, L, l, R => by
    have R1 : Rp K H (.ow s x d :: (each s xs ds ++ L)) := R
    exact .cons (dq_dp _ _ (R1.dpOf mem_here)) (Rp.eachDp (by simpa using l) R1.tail)
/-- sorted(xs) of a list of things of one's own: they go over -/
theorem EW_sortO (h : Γ[n]? = some (.v (.li s1) (.list ds))) (hal : PySem.W.AllAlike ds) (hs : PySem.W.Sortable ds) (hd : ∀ d ∈ ds, d.depth ≤ 50) (k : ∀ ds', ds'.Perm ds → ds'.Pairwise (fun a b => PySem.W.dataLe false id a b = true) → QE (.li s1) (.list ds') (Γ.set n .un)) :
    EW K (tCB (rSortedD K) (tCons (tVar n) tNil)) Γ QE := by
  intro σ H L G S k0
  obtain ⟨w, M, hw, R, _, drop⟩ := S.focus h rfl
  obtain ⟨a, xs, rfl, lx, R1⟩ := R.take
  have ea := R1.topAt
  have R2 : Rp K H (each s1 xs ds ++ (M ++ L)) := (R1.perm (.refl _)).tail
  refine ⟨.ref a, hw, a, xs, ds, rfl, SqL.of ea, Rp.eachDp lx R2, hal, hs, hd, fun p np => ?_⟩
  have R3 : Rp K (upd H p (.lst ((sortD xs ds).map Prod.fst))) (.ow (.li s1) (.ref p) (.list ((sortD xs ds).map Prod.snd)) :: (M ++ L)) := Rp.mkL (R2.perm ((each_sort lx).append_right _)) (by rw [List.length_map, List.length_map]) np
  refine k0 _ _ _ _ _ (k _ (sortD_dperm lx) (sortD_pair xs ds)) ?_
  exact drop _ (.ow (.li s1) (.ref p) (.list ((sortD xs ds).map Prod.snd)) :: L) R3.dim
/-- what the walk asks where sorted(name) stands -/
def SortB (K : PySem.W.Frag) (Γ : Ev) (n : Nat) (QE : Own → PyData → Ev → Prop) : Prop := ∃ s1 ds, Γ[n]? = some (.v (.li s1) (.list ds)) ∧ PySem.W.AllAlike ds ∧ PySem.W.Sortable ds ∧ (∀ d ∈ ds, d.depth ≤ 50) ∧ ∀ ds', ds'.Perm ds → ds'.Pairwise (fun a b => PySem.W.dataLe false id a b = true) → QE (.li s1) (.list ds') (Γ.set n .un)
theorem EW_sortB (h : SortB K Γ n QE) : EW K (tCB (rSortedD K) (tCons (tVar n) tNil)) Γ QE := by
  obtain ⟨_, _, h, a, b, c, d⟩ := h
  exact EW_sortO h a b c d
end
/-! ### boxes: an index of a list or a tuple; tuples of ints; insert -/
section
variable {X : Cx} {K : PySem.W.Frag} {Γ Γ1 : Ev} {σ : L2.St} {H H' : Hp} {L : List It} {s s' s1 : Own} {d d' e : PyData} {ds es fs : List PyData} {n m k : Nat} {te ti tj : TE} {i j : Int} {Q : Own → PyData → Prop} {QE : Own → PyData → Ev → Prop} {b b0 : Sl}
def rIxA (K : PySem.W.Frag) : R2 := fun x y H Q => rIxL K x y H Q ∨ rIxT K x y H Q
theorem k_ixA (h : X.K = K := by rfl) : IxR X (rIxA K) := by subst h; exact ix_list.or ix_tup
/-- what stands at a place of a list or a tuple -/
def IxA (d e : PyData) (F : PyData → Prop) : Prop := ∃ ds i d', (d = .list ds ∨ d = .tuple ds) ∧ e = .int i ∧ atI ds i = some d' ∧ F d'
theorem IxA_L {F : PyData → Prop} (h : atI ds i = some d') (q : F d') : IxA (.list ds) (.int i) F := ⟨ds, i, d', .inl rfl, rfl, h, q⟩
theorem IxA_T {F : PyData → Prop} (h : atI ds i = some d') (q : F d') : IxA (.tuple ds) (.int i) F := ⟨ds, i, d', .inr rfl, rfl, h, q⟩
theorem IxA_cL {c : Prop} [h : IxC ds i c d'] {F : PyData → Prop} (hc : c) (q : F d') : IxA (.list ds) (.int i) F := IxA_L (h.pf hc) q
theorem IxA_cT {c : Prop} [h : IxC ds i c d'] {F : PyData → Prop} (hc : c) (q : F d') : IxA (.tuple ds) (.int i) F := IxA_T (h.pf hc) q
theorem OW_ixA (q : IxA d e fun d' => Q .lf d') : OW K (rIxA K) s d s' e Q := by
  obtain ⟨ds, i, d', h, rfl, h1, q⟩ := q
  rcases h with rfl | rfl
  · exact fun H L G x y R k => .inl (OW_ixL h1 q H L G x y R k)
  · exact fun H L G x y R k => .inr (OW_ixT h1 q H L G x y R k)
instance : St1 (OW K (rIxA K) s d s' e Q) (IxA d e fun d' => Q .lf d') := ⟨OW_ixA⟩
abbrev TI (ns : List Int) : PyData := .tuple (ns.map PyData.int)
abbrev LTI (cs : List (List Int)) : PyData := .list (cs.map TI)
theorem Sh.tiL {ns : List Int} : Sh 1 (TI ns) := Sh.tup fun d h => by
  obtain ⟨x, _, rfl⟩ := List.mem_map.mp h
  exact Sh.int
instance : EqF TI := ⟨fun _ => Sh.tiL.mono (by decide), IT_eqv⟩
instance (priority := 850) {x y : List Int} : EqC (TI x) (TI y) (decide (x = y)) := ⟨Sh.tiL.ok, Sh.tiL.ok, IT_eqv x y⟩
instance (priority := 860) {x : List Int} : EqC (TI x) (.tuple []) (decide (x = [])) := ⟨Sh.tiL.ok, rfl, IT_eqv x []⟩
instance : NnC (TI ns) false := ⟨fun K H x h => by cases h; rfl⟩
theorem ti_le (a b : List Int) : PySem.W.dataLe false id (TI a) (TI b) = decide (a ≤ b) := congrFun (congrFun (PySem.W.dataLe_rows (fun x : List Int => x)) a) b
theorem ti_alike (cs : List (List Int)) : PySem.W.AllAlike (cs.map TI) := PySem.W.AllAlike.of fun b b' => PySem.W.alike_ints b b'
theorem ti_sortable {cs : List (List Int)} (h : ∀ c ∈ cs, c ≠ []) : PySem.W.Sortable (cs.map TI) := .inl fun d hd => by
  obtain ⟨c, hc, rfl⟩ := List.mem_map.mp hd
  obtain ⟨x, r, e⟩ := List.exists_cons_of_ne_nil (h c hc)
  exact ⟨_, _, by rw [e]; rfl⟩
/-- sorted of tuples of ints -/
theorem CW_sortTI {cs : List (List Int)} (h : ∀ c ∈ cs, c ≠ []) (q : ∀ us : List (List Int), us.Perm cs → us.Pairwise (· ≤ ·) → Q (.li .lf) (LTI us)) : CW K (rSortedD K) [(s, LTI cs)] Q := CW_sortD (ti_alike cs) (ti_sortable h) (fun d hd => by
  obtain ⟨c, _, rfl⟩ := List.mem_map.mp hd
  exact Nat.le_trans Sh.tiL.2 (by decide)) fun ds' hp hs => by
  obtain ⟨us, rfl, pu⟩ := map_perm_inv TI hp
  refine q us pu ((List.pairwise_map.mp hs).imp fun {a b} h => ?_)
  rw [ti_le] at h
  exact of_decide_eq_true h
/-- xs.insert(i, y) -/
def rInsert : V → List V → Hp → VK → Prop := fun x vs H Q => ∃ (l : Addr) (xs : List V) (i : Int) (y : V), x = .ref l ∧ vs = [.int i, y] ∧ H l = some (.lst xs) ∧ xs.length < sizeLine ∧ 0 ≤ i ∧ i < 2 ^ 63 ∧ Q .non (upd H l (.lst (xs.take i.toNat ++ [y] ++ xs.drop i.toNat)))
theorem k_insert : MtR X "list.insert" rInsert := mt_insert
theorem EW_insert (h : Γ[n]? = some b0) (hb : b0.bx = some (s', .list fs)) (q : EW K ti Γ fun _ e Γ1 => EW K te Γ1 fun s d Γ2 => ∃ k : Nat, e = .int (k : Int) ∧ AtB Γ2 n fun s2 d2 b => ∃ s1 ds, s2 = .li s1 ∧ d2 = .list ds ∧ (s = s1 ∨ s1 = .lf) ∧ k ≤ ds.length ∧ ds.length < 100000 ∧ QE .lf .none (Γ2.set n (b.to (.li s1) (.list (ds.take k ++ [d] ++ ds.drop k))))) : EW K (tBM K "list" rInsert (tVar n) (tCons ti (tCons te tNil))) Γ QE := fun σ H L G S kk => by
  obtain ⟨w, M0, hw, R0, _, _⟩ := S.focus h hb
  obtain ⟨a, rfl, ty⟩ := list_tyV R0
  refine ⟨.ref a, hw, ty, q σ H L _ S fun se e Γ1 z H1 q1 S1 => q1 σ H1 _ _ S1 fun s d Γ2 y H2 ⟨k, e1, b, s3, d3, h2, hb2, s1, ds, e2, e3, hs, hk, hz, q2⟩ S2 => ?_⟩
  subst e1 e2 e3
  have S3 : Stt K Γ2 σ H2 (.ow se z (.int (k : Int)) :: .ow s y d :: L) := S2.perm (.swap _ _ _)
  obtain rfl := S3.int'
  have S4 := S3.tail
  obtain ⟨w2, M, hw2, R, put, _⟩ := S4.focus h2 hb2
  rw [hw] at hw2; cases hw2
  have R1 : Rp K H2 (.ow s1 y d :: .ow (.li s1) (.ref a) (.list ds) :: (M ++ L)) := by
    have R' : Rp K H2 (.ow s y d :: .ow (.li s1) (.ref a) (.list ds) :: (M ++ L)) := (R.perm ((List.perm_middle).cons _)).flip
    rcases hs with rfl | rfl
    · exact R'
    · exact R'.fz
  obtain ⟨_, xs, ea, lx, R2⟩ := R1.flip.take
  cases ea
  have hat := R2.topAt
  have R3 := R2.mut (ys := xs.take k ++ [y] ++ xs.drop k)
  have et : each s1 xs ds = each s1 (xs.take k) (ds.take k) ++ each s1 (xs.drop k) (ds.drop k) := by
    rw [← each_app (by rw [List.length_take, List.length_take, lx]), List.take_append_drop, List.take_append_drop]
  have R4 : Rp K (upd H2 a (.lst (xs.take k ++ [y] ++ xs.drop k))) (.top a (xs.take k ++ [y] ++ xs.drop k) :: (each s1 (xs.take k ++ [y] ++ xs.drop k) (ds.take k ++ [d] ++ ds.drop k) ++ (M ++ L))) := by
    rw [et] at R3
    rw [each_app (by rw [List.length_append, List.length_append, List.length_take, List.length_take, lx]; rfl), each_app (by rw [List.length_take, List.length_take, lx])]
    refine R3.perm (List.Perm.cons _ ?_)
    show (each s1 (xs.take k) (ds.take k) ++ each s1 (xs.drop k) (ds.drop k) ++ .ow s1 y d :: (M ++ L)).Perm (each s1 (xs.take k) (ds.take k) ++ [.ow s1 y d] ++ each s1 (xs.drop k) (ds.drop k) ++ (M ++ L))
    rw [List.append_assoc, List.append_assoc, List.append_assoc]
    exact (List.perm_middle).append_left _
  have R5 := R4.put (by simp only [List.length_append, List.length_take, List.length_drop, lx]; rfl)
  refine ⟨a, xs, (k : Int), y, rfl, rfl, hat, sz_lt (by rw [lx]; exact hz), by omega, by omega, ?_⟩
  rw [Int.toNat_natCast]
  exact kk _ _ _ _ _ q2 ((put _ _ _ _ R5).flat .non rfl)
end
/-! ### boxes: an error kept in a name behind its clause -/
section
variable {K : PySem.W.Frag} {mg : Str → Option Value} {Γ Γ1 : Ev} {P : Po} {σ : L2.St} {H H' : Hp} {L : List It} {n i c j : Nat} {w : V} {F : Hp → Prop} {tr : TA} {Q : Own → PyData → Ev → Prop} {C : Str} {cc : Value} {Wout : WX} {sp spx : Sp}
def ErrF (X a : Addr) : Hp → Prop := fun H => H a = some (errO X a)
/-- try: x = f(..) / except C as e: caught = e, where f raises -/
theorem SW_keepX {pre : List PyData → Prop} (hi : i < Γ.length) (hc : c < Γ.length) (ic : i ≠ c)
    (q : AW K tr Γ fun bs Γ1 => SndB bs fun ds => Γ1.length = Γ.length ∧ pre ds ∧ ∀ X, mg C = some (.ref X) → PySem.W.exmOne K (.ref X) cc = some true ∧ ∀ a, P.nx ((Γ1.set i .un).set c (.fact (.ref a) (ErrF X a)))) :
    SW K (fun D σ H => tAsg (tCallS (spOr sp (spVX K mg C pre)) (fun σ => WE (wKeep K cc i (fun _ => tAsg (tVar i) (gName c)) Wout D) σ) tr) (gName j) D σ H) Γ P := fun σ H L D S k => q σ H L _ S fun bs Γ1 vs H1 q1 l S1 => by
  obtain ⟨hl, hp, hx⟩ := q1.2
  obtain ⟨M, R, back⟩ := S1.lift (A := zipI vs bs)
  refine .inr ⟨bs.map Prod.snd, M, by rw [l, List.length_map], Rp.fzZ l R, hp, fun X gX H' R' => ?_⟩
  obtain ⟨hex, hq⟩ := hx X gX
  refine ⟨true, hex, fun _ => ⟨X, rfl, rfl, fun a na => ?_⟩, fun z => nomatch z⟩
  obtain ⟨I, E, R2⟩ : Stt K Γ1 σ H' L := back H' [] R'
  obtain ⟨I1, E1, k1⟩ := E.drop i
  obtain ⟨I2, E2, k2⟩ := E1.drop c
  have lσ : σ.length = Γ.length := by rw [← E.len, hl]
  have hi2 : ((Γ1.set i .un).set c .un)[i]? = some .un := by rw [List.getElem?_set_ne (by omega), List.getElem?_set_self (by omega)]
  have hc2 : ((Γ1.set i .un).set c .un)[c]? = some .un := by rw [List.getElem?_set_self (by rw [List.length_set]; omega)]
  have E3 := E2.unset i none hi2
  obtain ⟨I3, E4, p4⟩ := E3.putF (w := .ref a) (F := ErrF X a) (n := c) hc2
  rw [List.set_set] at E4
  have R3 : Rp K (upd H' a (errO X a)) (isErr a X :: (I2 ++ L)) := (k2 _ _ _ (k1 _ _ _ R2)).err na
  have R4 : Rp K (upd H' a (errO X a)) (I3 ++ L) := R3.perm (p4.symm.append_right L)
  refine ⟨.ref a, by rw [List.getElem?_set_self (by omega)], ?_⟩
  refine k.nx _ _ _ (hq a) ⟨I3, ?_, R4⟩
  rw [List.set_comm _ _ (Ne.symm ic), List.set_set]
  exact E4
theorem SW_keepOr {pre : List PyData → (Own → PyData → Prop) → Prop} {ts : Addr → L2.TS} {g : TG} (q : AW K tr Γ fun bs Γ1 => SndB bs fun ds => pre ds fun s d => GW K g s d Γ1 P.nx) :
    SW K (fun D σ H => tAsg (tCallS (spOr (spV K pre) spx) (fun σ => WE (wKeep K cc i ts Wout D) σ) tr) g D σ H) Γ P := fun σ H L D S k => q σ H L _ S fun bs Γ1 vs H1 q1 l S1 => by
  obtain ⟨M, R, back⟩ := S1.lift (A := zipI vs bs)
  exact .inl ⟨bs.map Prod.snd, M, _, by rw [l, List.length_map], Rp.fzZ l R, q1.2, fun s d v H' q2 R2 => q2 σ H' L v _ (back H' [.ow s v d] R2) fun Γ' σ' H2 q3 S3 => k.nx _ _ _ q3 S3⟩
/-- is what is caught None -/
theorem EW_isNF {a : Addr} (h : Γ[n]? = some (.fact (.ref a) F)) (q : Q .lf (.bool false) Γ) : EW K (tOp rIsN (tVar n) (tC .non)) Γ Q := fun σ H L G S k =>
  ⟨_, (S.factAt h).1, rfl, by
    show G (.bl (decide (V.ref a = V.non))) H
    rw [decide_eq_false (by simp)]
    exact k _ _ _ _ _ q (S.flat (.bl _) rfl)⟩
theorem EW_notNF {a : Addr} (h : Γ[n]? = some (.fact (.ref a) F)) (q : Q .lf (.bool true) Γ) : EW K (tOp rNotN (tVar n) (tC .non)) Γ Q := fun σ H L G S k =>
  ⟨_, (S.factAt h).1, rfl, by
    show G (.bl (!decide (V.ref a = V.non))) H
    rw [decide_eq_false (by simp)]
    exact k _ _ _ _ _ q (S.flat (.bl _) rfl)⟩
/-- a def that looks at an error -/
def spErr (K : PySem.W.Frag) (U : Addr → Prop) : Sp := fun vs H Q _ => ∃ (L : List It) (a : Addr) (D : Addr), vs = [.ref a] ∧ Rp K H L ∧ isErr a D ∈ L ∧ U D ∧ ∀ H', Rp K H' L → Q (.bl true) H'
theorem EW_callErr {U : Addr → Prop} {a X : Addr} {E : XK} (h : Γ[n]? = some (.fact (.ref a) (ErrF X a))) (u : U X) (q : Q .lf (.bool true) Γ) : EW K (tCall (spErr K U) [] E (tCons (tVar n) tNil)) Γ Q := fun σ H L G S k => by
  obtain ⟨hw, _⟩ := S.factAt h
  obtain ⟨M, R, back⟩ := (S.factM h).lift (A := [.ps (ErrF X a)])
  exact ⟨.ref a, hw, _, a, X, rfl, R, List.mem_cons_self, u, fun H' R' => k _ _ _ _ _ q (((back H' [.ps (ErrF X a)] R').tail).flat (.bl true) rfl)⟩
end
/-- an empty list may hold things of any kind -/
theorem SW_l0 {K : PySem.W.Frag} {t : L2.TS} {Γ : Ev} {P : Po} {b : Sl} {s1 : Own} {n : Nat} (s2 : Own) (h : Γ[n]? = some b) (hb : b.bx = some (.li s1, .list [])) (q : SW K t (Γ.set n (b.to (.li s2) (.list []))) P) : SW K t Γ P := fun σ H L D S k => by
  obtain ⟨w, M, hw, R, put, _⟩ := S.focus h hb
  obtain ⟨a, xs, rfl, l, R1⟩ := R.take
  obtain rfl : xs = [] := List.eq_nil_of_length_eq_zero l
  have R4 : Rp K H (.ow (.li s2) (.ref a) (.list []) :: (M ++ L)) := Rp.put (xs := []) (ds := []) (s := s2) R1 rfl
  exact q σ H L D (put _ _ _ _ R4) k
/-- for row in found: row[0].append(z) -/
theorem SW_forApp1 {K : PySem.W.Frag} {Γ : Ev} {P : Po} {n p : Nat} {us : List (List Int × Rat)} {z : Int} (h : Γ[n]? = some (.v (.li (.t2 (.li .lf) .lf)) (WD us))) (np : n ≠ p) (hp : p < Γ.length) (bl : ∀ u ∈ us, u.1.length < 99999)
    (k : P.nx ((Γ.set p .un).set n (.v (.li .lf) (WD (us.map fun u => (u.1 ++ [z], u.2)))))) :
    SW K (tFor (iList K (tVar n)) (gName p) (tDrop (tBM K "list" rAppend (tOp (rIxT K) (tVar p) (tC (.int 0))) (tCons (tC (.int z)) tNil)))) Γ P := by
  intro σ H L D S k0
  have S1 : Stt K (Γ.set p .un) σ H L := S.dropG
  have lσ : σ.length = Γ.length := by obtain ⟨I, E, R⟩ := S; exact E.len.symm
  have h1 : (Γ.set p .un)[n]? = some (.v (.li (.t2 (.li .lf) .lf)) (WD us)) := by
    rw [List.getElem?_set_ne (by omega), h]
  obtain ⟨w, M, hw, R, put, _⟩ := S1.focus h1 rfl
  obtain ⟨a, xs, rfl, lx, R3⟩ := R.take
  rw [List.length_map] at lx
  clear R
  refine ⟨.ref a, hw, a, rfl, ⟨xs, SqL.of R3.topAt⟩, ?_⟩
  refine ⟨fun i m σ' H' => m = xs.length - i ∧ i ≤ xs.length ∧ σ'.length = Γ.length ∧ (∀ H2 L2 Γ2, Γ2[p]? = some .un → Stt K Γ2 σ H2 L2 → Stt K Γ2 σ' H2 L2) ∧
    Rp K H' (.top a xs :: (each (.t2 (.li .lf) .lf) xs (((us.take i).map (fun u => (u.1 ++ [z], u.2)) ++ us.drop i).map CD) ++ (M ++ L))), ⟨_, rfl, Nat.zero_le _, lσ, fun _ _ _ _ S => S, by rw [List.take_zero, List.drop_zero]; exact R3⟩, ?_⟩
  rintro i m σ1 H1 ⟨rfl, hi, l1, fr, R⟩
  have eh : SqL K H1 a xs := SqL.of R.topAt
  by_cases c : i < xs.length
  · have cu : i < us.length := by omega
    have hx : xs[i]? = some xs[i] := List.getElem?_eq_getElem c
    refine .inr ⟨⟨xs, xs[i], eh, hx⟩, fun σ' H' => i + 1 ≤ xs.length ∧ σ'.length = Γ.length ∧ (∀ H2 L2 Γ2, Γ2[p]? = some .un → Stt K Γ2 σ H2 L2 → Stt K Γ2 σ' H2 L2) ∧
      Rp K H' (.top a xs :: (each (.t2 (.li .lf) .lf) xs (((us.take (i + 1)).map (fun u => (u.1 ++ [z], u.2)) ++ us.drop (i + 1)).map CD) ++ (M ++ L))), fun σ' H' h => ⟨xs.length - (i + 1), by omega, rfl, h⟩, fun v H' hy => ?_⟩
    obtain ⟨rfl, hy⟩ := hy
    have ev := hy xs eh
    rw [hx] at ev
    cases ev
    have hu : us[i]? = some us[i] := List.getElem?_eq_getElem cu
    have lt : ((us.take i).map (fun u : List Int × Rat => (u.1 ++ [z], u.2))).length = i := by rw [List.length_map, List.length_take]; omega
    have hd : ((((us.take i).map (fun u => (u.1 ++ [z], u.2)) ++ us.drop i)).map CD)[i]? = some (CD us[i]) := by
      rw [List.getElem?_map, List.getElem?_append_right (by omega), lt, Nat.sub_self, List.getElem?_drop, Nat.add_zero, hu]; rfl
    have hset : ((((us.take i).map (fun u => (u.1 ++ [z], u.2)) ++ us.drop i)).map CD).set i (CD (us[i].1 ++ [z], us[i].2)) = (((us.take (i + 1)).map (fun u => (u.1 ++ [z], u.2)) ++ us.drop (i + 1))).map CD := by
      have e1 : (((us.take i).map (fun u : List Int × Rat => (u.1 ++ [z], u.2)) ++ us.drop i)).set i (us[i].1 ++ [z], us[i].2) = (us.take (i + 1)).map (fun u => (u.1 ++ [z], u.2)) ++ us.drop (i + 1) := by
        rw [List.set_append_right i _ (by omega), lt, Nat.sub_self, List.drop_eq_getElem_cons cu, List.set_cons_zero, List.take_add_one, hu, List.map_append, List.append_assoc]
        rfl
      rw [← e1, List.map_set]
    obtain ⟨C, RF, back⟩ := R.focus hx hd
    obtain ⟨t1, w1, w2, ew, R5⟩ := RF.take2
    obtain ⟨b, rfl⟩ := sh_lst R5.tail
    have st1 := R5.psAt
    have bu := bl us[i] (List.getElem_mem cu)
    refine ⟨xs[i], by rw [List.getElem?_set_self (by omega)], ?_⟩
    rw [ew]
    refine ⟨t1, [.ref b, w2], 0, .ref b, rfl, rfl, st1, rfl, tyR (T := tVar 0) R5 (.tail _ List.mem_cons_self), ?_⟩
    dsimp only [tCons, tNil, tC]
    refine g_appR (R5.int z) (s := .lf) (y := .int z) (d := .int z) (p := b) .here (.there .here) (by rw [List.length_map]; omega) fun H2 R6 => ?_
    refine ⟨c, by rw [List.length_set]; exact l1, fun H2 L2 Γ2 e1 S2 => ?_, ?_⟩
    · obtain ⟨I, E, R⟩ := fr H2 L2 Γ2 e1 S2
      exact ⟨I, E.unset p _ e1, R⟩
    rw [← hset]
    refine back _ _ ?_
    rw [ew]
    refine Rp.put2 (x := .ref b) (y := w2) ?_
    rw [show IL (us[i].1 ++ [z], us[i].2).1 = .list (us[i].1.map PyData.int ++ [.int z]) by show PyData.list ((us[i].1 ++ [z]).map PyData.int) = _; rw [List.map_append]; rfl]
    exact R6.perm (.swap _ _ _)
  · have e : i = xs.length := by omega
    subst e
    refine .inl ⟨⟨xs, eh, Nat.le_refl _⟩, k0.nx _ _ _ k ?_⟩
    refine fr _ _ _ (by rw [List.getElem?_set_ne (by omega), List.getElem?_set_self hp]) ?_
    rw [lx, List.take_length, List.drop_length, List.append_nil] at R
    have R5 : Rp K H1 (each (.t2 (.li .lf) .lf) xs ((us.map fun u => (u.1 ++ [z], u.2)).map CD) ++ (.top a xs :: (M ++ L))) := R.perm List.perm_middle.symm
    have R6 : Rp K H1 (.ow (.li .lf) (.ref a) (WD (us.map fun u => (u.1 ++ [z], u.2))) :: (M ++ L)) := Rp.put ((Rp.fzEach R5).perm List.perm_middle) (by rw [List.length_map, List.length_map]; exact lx)
    exact put H1 L _ _ R6
/-! ### lists of pairs of numbers -/
abbrev PDs (us : List (Nat × Nat)) : PyData := .list (us.map GD)
/-! ### boxes: a statement that only reads things of one's own -/
def Sl.pz : Sl → V → Sl
  | .un, _ => .un
  | .v _ d, w => .pin w .lf d
  | .pin _ _ d, w => .pin w .lf d
  | .fact w F, _ => .fact w F
  | .ob _ w C fs vs, _ => .ob true w C (fzF fs) vs
def Sl.adr : Sl → Option V
  | .pin w _ _ => some w
  | .fact w _ => some w
  | .ob _ w _ _ _ => some w
  | _ => none
section
variable {K : PySem.W.Frag} {Γ : Ev} {σ σ' : L2.St} {H : Hp} {L I : List It} {t : L2.TS} {P : Po}
theorem EnvR.pz (E : EnvR Γ σ I) : ∃ ws : List V, ws.length = Γ.length ∧ EnvR (List.zipWith Sl.pz Γ ws) σ (I.map fzI) ∧ ∀ (k : Nat) (w : V), ws[k]? = some w → Γ[k]? ≠ some .un → σ[k]? = some (some w) := by
  induction E with
  | nil => exact ⟨[], rfl, .nil, fun k w h => by simp at h⟩
  | un _ ih =>
    obtain ⟨ws, l, e, h⟩ := ih
    refine ⟨.non :: ws, by simp [l], .un e, fun k w hk hn => ?_⟩
    cases k with
    | zero => exact absurd rfl hn
    | succ k => exact h k w (by simpa using hk) (by simpa using hn)
  | @v E σ I w s d e ih =>
    obtain ⟨ws, l, e, h⟩ := ih
    refine ⟨w :: ws, by simp [l], .pin e, fun k w2 hk hn => ?_⟩
    cases k with
    | zero => simpa using hk
    | succ k => exact h k w2 (by simpa using hk) (by simpa using hn)
  | @pin E σ I w s d e ih =>
    obtain ⟨ws, l, e, h⟩ := ih
    refine ⟨w :: ws, by simp [l], .pin e, fun k w2 hk hn => ?_⟩
    cases k with
    | zero => simpa using hk
    | succ k => exact h k w2 (by simpa using hk) (by simpa using hn)
  | @fact E σ I w F e ih =>
    obtain ⟨ws, l, e, h⟩ := ih
    refine ⟨w :: ws, by simp [l], .fact e, fun k w2 hk hn => ?_⟩
    cases k with
    | zero => simpa using hk
    | succ k => exact h k w2 (by simpa using hk) (by simpa using hn)
  | @ob b E σ I a dx C vs fs e l0 ih =>
    obtain ⟨ws, l, e, h⟩ := ih
    refine ⟨.ref a :: ws, by simp [l], ?_, fun k w2 hk hn => ?_⟩
    · have g := EnvR.ob (b := true) (a := a) (dx := dx) (C := C) (vs := vs) (fs := fzF fs) e (by unfold fzF; rw [List.length_map]; exact l0)
      rw [fvals_fz, ← fits_fz, ← obI_fz b, ← List.map_append, ← List.map_cons] at g
      exact g
    · cases k with
      | zero => simpa using hk
      | succ k => exact h k w2 (by simpa using hk) (by simpa using hn)
theorem EnvR.swap (E : EnvR Γ σ I) : ∀ {σ' : L2.St}, σ'.length = σ.length → (∀ k, k < Γ.length → Γ[k]? ≠ some .un → σ'[k]? = σ[k]?) → EnvR Γ σ' I := by
  induction E with
  | nil =>
    intro σ' l _
    rw [List.eq_nil_of_length_eq_zero l]; exact .nil
  | un _ ih =>
    intro σ' l h
    match σ', l with
    | x :: σ', l => exact .un (ih (by simpa using l) fun k hk hn => by simpa using h (k + 1) (by simpa using hk) (by simpa using hn))
  | v _ ih =>
    intro σ' l h
    match σ', l with
    | x :: σ', l =>
      have h0 := h 0 (by simp) (by simp)
      simp only [List.getElem?_cons_zero, Option.some.injEq] at h0
      subst h0
      exact .v (ih (by simpa using l) fun k hk hn => by simpa using h (k + 1) (by simpa using hk) (by simpa using hn))
  | pin _ ih =>
    intro σ' l h
    match σ', l with
    | x :: σ', l =>
      have h0 := h 0 (by simp) (by simp)
      simp only [List.getElem?_cons_zero, Option.some.injEq] at h0
      subst h0
      exact .pin (ih (by simpa using l) fun k hk hn => by simpa using h (k + 1) (by simpa using hk) (by simpa using hn))
  | fact _ ih =>
    intro σ' l h
    match σ', l with
    | x :: σ', l =>
      have h0 := h 0 (by simp) (by simp)
      simp only [List.getElem?_cons_zero, Option.some.injEq] at h0
      subst h0
      exact .fact (ih (by simpa using l) fun k hk hn => by simpa using h (k + 1) (by simpa using hk) (by simpa using hn))
  | ob _ l0 ih =>
    intro σ' l h
    match σ', l with
    | x :: σ', l =>
      have h0 := h 0 (by simp) (by simp)
      simp only [List.getElem?_cons_zero, Option.some.injEq] at h0
      subst h0
      exact .ob (ih (by simpa using l) fun k hk hn => by simpa using h (k + 1) (by simpa using hk) (by simpa using hn)) l0
theorem EnvR.adr (E : EnvR Γ σ I) : ∀ {k : Nat} {b : Sl} {w : V}, Γ[k]? = some b → b.adr = some w → σ[k]? = some (some w) := by
  induction E with
  | nil => intro k b w h; simp at h
  | un _ ih =>
    intro k b w h hb
    cases k with
    | zero => cases h; cases hb
    | succ k => exact ih (k := k) h hb
  | v _ ih =>
    intro k b w h hb
    cases k with
    | zero => cases h; cases hb
    | succ k => exact ih (k := k) h hb
  | pin _ ih =>
    intro k b w h hb
    cases k with
    | zero => cases h; cases hb; rfl
    | succ k => exact ih (k := k) h hb
  | fact _ ih =>
    intro k b w h hb
    cases k with
    | zero => cases h; cases hb; rfl
    | succ k => exact ih (k := k) h hb
  | ob _ _ ih =>
    intro k b w h hb
    cases k with
    | zero => cases h; cases hb; rfl
    | succ k => exact ih (k := k) h hb
theorem clr_len (Γ : Ev) : ∀ vs : List Nat, (clr Γ vs).length = Γ.length
  | [] => rfl
  | i :: vs => by show ((clr Γ vs).set i .un).length = _; rw [List.length_set, clr_len Γ vs]
theorem clr_at (Γ : Ev) : ∀ {vs : List Nat} {k : Nat}, k < Γ.length → (clr Γ vs)[k]? ≠ some .un → k ∉ vs ∧ Γ[k]? ≠ some .un
  | [], k, _, h => ⟨by simp, h⟩
  | i :: vs, k, hk, h => by
    have h : ((clr Γ vs).set i .un)[k]? ≠ some .un := h
    by_cases c : i = k
    · subst c
      exact absurd (List.getElem?_set_self (by rw [clr_len]; exact hk)) h
    · rw [List.getElem?_set_ne c] at h
      obtain ⟨h1, h2⟩ := clr_at Γ hk h
      exact ⟨fun m => (List.mem_cons.mp m).elim (fun e => c e.symm) h1, h2⟩
/-- what is held by names is as it was, but for some names -/
def Held (Γ : Ev) (ws : List V) (vs : List Nat) (Γ' : Ev) : Prop := Γ'.length = Γ.length ∧ ∀ k, k < Γ.length → k ∉ vs → ∃ w b, ws[k]? = some w ∧ Γ'[k]? = some b ∧ b.adr = some w
theorem SW_bor (vs : List Nat) (q : ∀ ws : List V, ws.length = Γ.length → SW K t (List.zipWith Sl.pz Γ ws) { nx := fun Γ' => Held Γ ws vs Γ' ∧ P.nx (clr Γ vs), rt := fun s d _ => lfree s d ∧ P.rt s d Γ, bk := fun Γ' => Held Γ ws vs Γ' ∧ P.bk (clr Γ vs), ct := fun Γ' => Held Γ ws vs Γ' ∧ P.ct (clr Γ vs), er := P.er }) : SW K t Γ P := fun σ H L D ⟨I, E, R⟩ k => by
  obtain ⟨R1, _⟩ := E.borrow R
  obtain ⟨ws, lw, Ep, at_⟩ := E.pz
  have back : ∀ Γ' σ' H', Held Γ ws vs Γ' → Stt K Γ' σ' H' [.ps (Same H)] → Stt K (clr Γ vs) σ' H' L := fun Γ' σ' H' ⟨hl, hd⟩ ⟨I2, E2, R2⟩ => by
    have R3 : Rp K H' (.sh (.bl true) (.bool true) :: .ps (Same H) :: I2) := Rp.bl (R2.perm (List.perm_append_comm (l₁ := I2) (l₂ := [.ps (Same H)]))) true
    obtain ⟨sm, N⟩ := R3.out
    have Rn := R.same sm
    have lσ : σ'.length = σ.length := by rw [← E2.len, hl, E.len]
    obtain ⟨I3, E4', wr⟩ := E.clr vs
    have E4 := E4'.unwipe
    refine ⟨I3, E4.swap lσ fun j hj hn => ?_, wr _ _ _ Rn⟩
    rw [clr_len] at hj
    obtain ⟨n1, n2⟩ := clr_at Γ hj hn
    obtain ⟨w, b, hw, hb, ha⟩ := hd j hj n1
    rw [at_ j w hw n2]
    exact E2.adr hb ha
  refine q ws lw σ H [.ps (Same H)] D ⟨_, Ep, R1⟩ ⟨fun Γ' σ' H' q1 S => k.nx _ _ _ q1.2 (back _ _ _ q1.1 S), fun s d Γ' σ' v H' ⟨hl, q1⟩ ⟨I2, E2, R2⟩ => ?_, fun Γ' σ' H' q1 S => k.bk _ _ _ q1.2 (back _ _ _ q1.1 S), fun Γ' σ' H' q1 S => k.ct _ _ _ q1.2 (back _ _ _ q1.1 S), fun H' R' => ?_⟩
  · have R3 : Rp K H' (.ow s v d :: .ps (Same H) :: I2) := R2.perm (by
      refine List.perm_middle.trans (List.Perm.cons _ ?_)
      exact List.perm_append_comm (l₁ := I2) (l₂ := [.ps (Same H)]))
    obtain ⟨sm, N⟩ := R3.out
    exact k.rt _ _ _ _ _ _ q1 ⟨I, E, (R.inn sm N hl).dim⟩
  · have R3 : Rp K H' (.sh (.bl true) (.bool true) :: .ps (Same H) :: []) := Rp.bl R' true
    obtain ⟨sm, N⟩ := R3.out
    exact k.er H' (Rp.dropL (A := I) (R.same sm))
end
section
variable {K : PySem.W.Frag} {Γ : Ev} {n : Nat} {QE : Own → PyData → Ev → Prop} {s0 s1 : Own} {d0 : PyData} {ds : List PyData}
/-- found[1].append((a, b)) -/
theorem EW_app2T {a' b' : Int} (h : Γ[n]? = some (.v (.t2 s0 (.li s1)) (.tuple [d0, .list ds]))) (l : ds.length < 100000) (k : QE .lf .none (Γ.set n (.v (.t2 s0 (.li .lf)) (.tuple [d0, .list (ds ++ [.tuple [.int a', .int b']])])))) :
    EW K (tBM K "list" rAppend (tOp (rIxT K) (tVar n) (tC (.int 1))) (tCons (tTup (tCons (tC (.int a')) (tCons (tC (.int b')) tNil))) tNil)) Γ QE := by
  intro σ H L G S k0
  obtain ⟨w, M, hw, R, put, _⟩ := S.focus h rfl
  obtain ⟨t0, v0, v1, rfl, R1⟩ := R.take2
  have st := R1.psAt
  have R2 : Rp K H (.ow (.li s1) v1 (.list ds) :: .ps (fun H => SqT K H t0 [v0, v1]) :: .ow s0 v0 d0 :: (M ++ L)) := R1.perm (((List.Perm.swap _ _ _).cons _).trans (List.Perm.swap _ _ _))
  obtain ⟨a, xs, rfl, lx, R3⟩ := R2.take
  have R4 : Rp K H (.ow (.li .lf) (.ref a) (.list ds) :: .ps (fun H => SqT K H t0 [v0, .ref a]) :: .ow s0 v0 d0 :: (M ++ L)) := by
    have R5 : Rp K H (each s1 xs ds ++ (.top a xs :: (.ps (fun H => SqT K H t0 [v0, .ref a]) :: .ow s0 v0 d0 :: (M ++ L)))) := R3.perm List.perm_middle.symm
    exact Rp.put ((Rp.fzEach R5).perm List.perm_middle) lx
  refine ⟨.ref t0, hw, t0, [v0, .ref a], 1, .ref a, rfl, rfl, st, rfl, tyR (T := tVar 0) R4 List.mem_cons_self, ?_⟩
  refine g_tupIR (ns := [a', b']) R4 rfl (by show 2 ≤ 100000; decide) fun c nc R4b => ?_
  refine g_appR R4b (s := .lf) (y := .ref c) (d := .tuple [.int a', .int b']) (p := a) .here .here l fun H2 R6 => ?_
  have R7 : Rp K H2 (.ps (fun H => SqT K H t0 [v0, .ref a]) :: .ow s0 v0 d0 :: .ow (.li .lf) (.ref a) (.list (ds ++ [.tuple [.int a', .int b']])) :: (M ++ L)) := R6.perm ((List.Perm.swap _ _ _).trans ((List.Perm.swap _ _ _).cons _))
  have S2 := put H2 L _ _ R7.put2
  exact k0 _ _ _ _ _ k (S2.flat .non rfl)
end
/-! ### is, of truths -/
def rIsL : R2 := fun x y H Q => ∃ k m : Bool, x = .bl k ∧ y = .bl m ∧ Q (.bl (decide (k = m))) H
theorem op_isL {X : Cx} : OpR X (compareOp .Is) rIsL := fun pins s σ H x y v u Q I rx ry ⟨k, m, ex, ey, q⟩ => by
  subst ex ey
  obtain rfl : v = Value.bool k := rx
  obtain rfl : u = Value.bool m := ry
  rcases Decidable.em (k = m) with rfl | ne
  · rw [decide_eq_true rfl] at q
    exact wpAny_is_self rfl ⟨.bl true, H, I, rfl, q⟩
  · rw [decide_eq_false ne] at q
    exact wpAny_is_other rfl (fun z => ne (Value.bool.inj z)) ⟨.bl false, H, I, rfl, q⟩
section
variable {K : PySem.W.Frag} {Q : Own → PyData → Prop} {s s' : Own}
theorem OM_isL {k m : Bool} (q : Q .lf (.bool (decide (k = m)))) : OM K rIsL (.bool k) (.bool m) Q := fun H L G x y s s' R m1 m2 kk => by
  have h1 := R.dpOf m1
  cases h1
  have h2 := R.dpOf m2
  cases h2
  exact ⟨k, m, rfl, rfl, kk _ _ _ _ q (R.bl _)⟩
instance {d e : PyData} : St1 (OW K rIsL s d s' e Q) (OM K rIsL d e Q) := ⟨OM.ow⟩
instance {k m : Bool} : St1 (OM K rIsL (.bool k) (.bool m) Q) (Q .lf (.bool (decide (k = m)))) := ⟨OM_isL⟩
end
/-! ### boxes: an instance of one's own -/
class NeS (g f : Str) : Prop where pf : g ≠ f
/-- where an attribute stands -/
class FldC (fs : Flds) (f : Str) (i : outParam Nat) (s : outParam Own) (d : outParam PyData) : Prop where
  at_ : fs[i]? = some (f, s, d)
  no : ∀ j x, j < i → fs[j]? = some x → x.1 ≠ f
/-- an attribute that is not there yet -/
class NoF (fs : Flds) (f : Str) : Prop where
  no : ∀ x ∈ fs, x.1 ≠ f
/-- an attribute that the class has not -/
class HasF (K : PySem.W.Frag) (C : Addr) (f : Str) : Prop where
  cl : Cls K C
  na : NoAttr K C f
section
variable {fs : Flds} {f g : Str} {s s' : Own} {d d' : PyData} {x : Own × PyData} {i : Nat} {vs : List V} {v v' : V}
instance (priority := 900) : FldC ((f, s, d) :: fs) f 0 s d := ⟨rfl, fun j x h => absurd h (by omega)⟩
instance (priority := 800) [h : FldC fs f i s d] [n : NeS g f] : FldC ((g, x) :: fs) f (i + 1) s d := ⟨h.at_, fun j y hj hy => by
  cases j with
  | zero => cases hy; exact n.pf
  | succ j => exact h.no j y (by omega) hy⟩
instance : NoF [] f := ⟨fun x h => by cases h⟩
instance [h : NoF fs f] [n : NeS g f] : NoF ((g, x) :: fs) f := ⟨fun y hy => by
  rcases List.mem_cons.mp hy with rfl | hy
  · exact n.pf
  · exact h.no y hy⟩
theorem fvals_look : ∀ {fs : Flds} {vs : List V} {i : Nat}, fs[i]? = some (f, x) → (∀ j y, j < i → fs[j]? = some y → y.1 ≠ f) → vs[i]? = some v → (fvals fs vs).lookup f = some v
  | [], _, _, h, _, _ => by simp at h
  | _ :: _, [], _, _, _, h => by simp at h
  | y :: fs, u :: vs, 0, h, _, hv => by
    cases h; cases hv
    show List.lookup f ((f, v) :: fvals fs vs) = some v
    simp [List.lookup]
  | y :: fs, u :: vs, i + 1, h, n, hv => by
    have ne := n 0 y (by omega) rfl
    show List.lookup f ((y.1, u) :: fvals fs vs) = some v
    have hb : (f == y.1) = false := beq_eq_false_iff_ne.mpr fun e => ne e.symm
    simp only [List.lookup, hb]
    exact fvals_look (i := i) h (fun j z hj hz => n (j + 1) z (by omega) hz) hv
theorem fvals_put : ∀ {fs : Flds} {vs : List V} {i : Nat}, fs[i]? = some (f, x) → (∀ j y, j < i → fs[j]? = some y → y.1 ≠ f) → vs.length = fs.length → putF f v' (fvals fs vs) = fvals (fs.set i (f, s', d')) (vs.set i v')
  | [], _, _, h, _, _ => by simp at h
  | _ :: _, [], _, _, _, l => by simp at l
  | y :: fs, u :: vs, 0, h, _, _ => by
    cases h
    show putF f v' ((f, u) :: fvals fs vs) = (f, v') :: fvals fs vs
    unfold putF
    rw [if_pos rfl]
  | y :: fs, u :: vs, i + 1, h, n, l => by
    have ne := n 0 y (by omega) rfl
    show putF f v' ((y.1, u) :: fvals fs vs) = (y.1, u) :: fvals (fs.set i (f, s', d')) (vs.set i v')
    have ih := fvals_put (vs := vs) (i := i) h (fun j z hj hz => n (j + 1) z (by omega) hz) (by simpa using l)
    rw [← ih]
    conv => lhs; unfold putF
    rw [if_neg ne]
theorem fvals_new : ∀ {fs : Flds} {vs : List V}, (∀ x ∈ fs, x.1 ≠ f) → vs.length = fs.length → putF f v' (fvals fs vs) = fvals (fs ++ [(f, s', d')]) (vs ++ [v'])
  | [], [], _, _ => rfl
  | [], _ :: _, _, l => by simp at l
  | _ :: _, [], _, l => by simp at l
  | y :: fs, u :: vs, n, l => by
    have ne := n y List.mem_cons_self
    show putF f v' ((y.1, u) :: fvals fs vs) = (y.1, u) :: fvals (fs ++ [(f, s', d')]) (vs ++ [v'])
    have ih := fvals_new (fs := fs) (vs := vs) (fun x hx => n x (.tail _ hx)) (by simpa using l)
    rw [← ih]
    conv => lhs; unfold putF
    rw [if_neg ne]
theorem fvals_none : ∀ {fs : Flds} {vs : List V}, (∀ x ∈ fs, x.1 ≠ f) → (fvals fs vs).lookup f = none
  | [], _, _ => rfl
  | _ :: _, [], _ => rfl
  | y :: fs, u :: vs, n => by
    have ne := n y List.mem_cons_self
    show List.lookup f ((y.1, u) :: fvals fs vs) = none
    have hb : (f == y.1) = false := beq_eq_false_iff_ne.mpr fun e => ne e.symm
    simp only [List.lookup, hb]
    exact fvals_none fun x hx => n x (.tail _ hx)
theorem fvals_len : ∀ {fs : Flds} {vs : List V}, (fvals fs vs).length ≤ fs.length := fun {fs vs} => by
  unfold fvals
  rw [List.length_zipWith]
  omega
/-- one of the attributes' things -/
theorem fits_at : ∀ {fs : Flds} {vs : List V} {i : Nat}, fs[i]? = some (f, s, d) → vs.length = fs.length → ∃ v A, vs[i]? = some v ∧ (fits fs vs).Perm (.ow s v d :: A) ∧ ∀ s' v' d', (fits (fs.set i (f, s', d')) (vs.set i v')).Perm (.ow s' v' d' :: A)
  | [], _, _, h, _ => by simp at h
  | _ :: _, [], _, _, l => by simp at l
  | y :: fs, u :: vs, 0, h, _ => by
    cases h
    exact ⟨u, fits fs vs, rfl, .refl _, fun s' v' d' => .refl _⟩
  | y :: fs, u :: vs, i + 1, h, l => by
    obtain ⟨v, A, h1, h2, h3⟩ := fits_at (fs := fs) (vs := vs) (i := i) h (by simpa using l)
    exact ⟨v, .ow y.2.1 u y.2.2 :: A, h1, (h2.cons _).trans (.swap _ _ _), fun s' v' d' => ((h3 s' v' d').cons _).trans (.swap _ _ _)⟩
end
section
variable {K : PySem.W.Frag} {Γ Γ1 : Ev} {σ : L2.St} {H H' : Hp} {L L' I : List It} {s s' : Own} {d d' : PyData} {w v : V} {n i : Nat} {b : Bool} {C : Addr} {fs : Flds} {vs : List V} {f : Str}
theorem perm_mid {A P I I' : List It} {m : It} (h : I.Perm (m :: (A ++ I'))) : (P ++ I).Perm (m :: (A ++ (P ++ I'))) := by
  refine (h.append_left P).trans (List.perm_middle.trans (List.Perm.cons _ ?_))
  rw [← List.append_assoc, ← List.append_assoc]
  exact List.perm_append_comm.append_right I'
theorem EnvR.focusO (E : EnvR Γ σ I) : ∀ {n : Nat}, Γ[n]? = some (.ob b w C fs vs) → ∃ a dx I', w = .ref a ∧ vs.length = fs.length ∧ σ[n]? = some (some w) ∧ I.Perm (obI b a (.ins C dx (fvals fs vs)) :: (fits fs vs ++ I')) ∧ EnvR (Γ.set n .un) σ I' ∧
    ∀ b' dx' fs' vs', vs'.length = fs'.length → ∃ I2, EnvR (Γ.set n (.ob b' w C fs' vs')) σ I2 ∧ I2.Perm (obI b' a (.ins C dx' (fvals fs' vs')) :: (fits fs' vs' ++ I')) := by
  induction E with
  | nil => intro n h; simp at h
  | un e ih =>
    intro n h
    cases n with
    | zero => cases h
    | succ n =>
      obtain ⟨a, dx, I', e1, e2, e3, e4, e5, e6⟩ := ih (n := n) h
      exact ⟨a, dx, I', e1, e2, e3, e4, .un e5, fun b' dx' fs' vs' l => let ⟨I2, q1, q2⟩ := e6 b' dx' fs' vs' l; ⟨I2, .un q1, q2⟩⟩
  | @v E σ I w0 s0 d0 e ih =>
    intro n h
    cases n with
    | zero => cases h
    | succ n =>
      obtain ⟨a, dx, I', e1, e2, e3, e4, e5, e6⟩ := ih (n := n) h
      refine ⟨a, dx, _, e1, e2, e3, perm_mid (P := [.ow s0 w0 d0]) e4, .v e5, fun b' dx' fs' vs' l => ?_⟩
      obtain ⟨I2, q1, q2⟩ := e6 b' dx' fs' vs' l
      exact ⟨_, .v q1, perm_mid (P := [.ow s0 w0 d0]) q2⟩
  | @pin E σ I w0 s0 d0 e ih =>
    intro n h
    cases n with
    | zero => cases h
    | succ n =>
      obtain ⟨a, dx, I', e1, e2, e3, e4, e5, e6⟩ := ih (n := n) h
      refine ⟨a, dx, _, e1, e2, e3, perm_mid (P := [.ow s0 w0 d0]) e4, .pin e5, fun b' dx' fs' vs' l => ?_⟩
      obtain ⟨I2, q1, q2⟩ := e6 b' dx' fs' vs' l
      exact ⟨_, .pin q1, perm_mid (P := [.ow s0 w0 d0]) q2⟩
  | @fact E σ I w0 F e ih =>
    intro n h
    cases n with
    | zero => cases h
    | succ n =>
      obtain ⟨a, dx, I', e1, e2, e3, e4, e5, e6⟩ := ih (n := n) h
      refine ⟨a, dx, _, e1, e2, e3, perm_mid (P := [.ps F]) e4, .fact e5, fun b' dx' fs' vs' l => ?_⟩
      obtain ⟨I2, q1, q2⟩ := e6 b' dx' fs' vs' l
      exact ⟨_, .fact q1, perm_mid (P := [.ps F]) q2⟩
  | @ob b0 E σ I a0 dx0 C0 vs0 fs0 e l0 ih =>
    intro n h
    cases n with
    | zero =>
      cases h
      exact ⟨a0, dx0, I, rfl, l0, rfl, .refl _, .un e, fun b' dx' fs' vs' l => ⟨_, .ob e l, .refl _⟩⟩
    | succ n =>
      obtain ⟨a, dx, I', e1, e2, e3, e4, e5, e6⟩ := ih (n := n) h
      refine ⟨a, dx, _, e1, e2, e3, perm_mid (P := obI b0 a0 (.ins C0 dx0 (fvals fs0 vs0)) :: fits fs0 vs0) e4, .ob e5 l0, fun b' dx' fs' vs' l => ?_⟩
      obtain ⟨I2, q1, q2⟩ := e6 b' dx' fs' vs' l
      exact ⟨_, .ob q1 l0, perm_mid (P := obI b0 a0 (.ins C0 dx0 (fvals fs0 vs0)) :: fits fs0 vs0) q2⟩
theorem Stt.focusO (S : Stt K Γ σ H L) (h : Γ[n]? = some (.ob b w C fs vs)) : ∃ a dx M, w = .ref a ∧ vs.length = fs.length ∧ σ[n]? = some (some w) ∧ Rp K H (obI b a (.ins C dx (fvals fs vs)) :: (fits fs vs ++ (M ++ L))) ∧
    (∀ H' L' b' dx' fs' vs', vs'.length = fs'.length → Rp K H' (obI b' a (.ins C dx' (fvals fs' vs')) :: (fits fs' vs' ++ (M ++ L'))) → Stt K (Γ.set n (.ob b' w C fs' vs')) σ H' L') ∧ (∀ H' L', Rp K H' (M ++ L') → Stt K (Γ.set n .un) σ H' L') := by
  obtain ⟨I, E, R⟩ := S
  obtain ⟨a, dx, I', e1, e2, e3, e4, e5, e6⟩ := E.focusO h
  refine ⟨a, dx, I', e1, e2, e3, ?_, fun H' L' b' dx' fs' vs' l R' => ?_, fun H' L' R' => ⟨_, e5, R'⟩⟩
  · have R1 := R.perm (e4.append_right L)
    rw [List.cons_append, List.append_assoc] at R1
    exact R1
  · obtain ⟨I2, q1, q2⟩ := e6 b' dx' fs' vs' l
    refine ⟨I2, q1, R'.perm ?_⟩
    have q3 := (q2.append_right L').symm
    rw [List.cons_append, List.append_assoc] at q3
    exact q3
theorem Stt.selfO (h : Γ[n]? = some (.ob b w C fs vs)) {σ' : L2.St} (S : Stt K (Γ.set n (.ob b w C fs vs)) σ' H L) : Stt K Γ σ' H L := by rwa [set_self h] at S
/-- an attribute's thing taken by itself -/
theorem Stt.focusF [k : HasF K C f] [c : FldC fs f i s d] (S : Stt K Γ σ H L) (h : Γ[n]? = some (.ob b w C fs vs)) : ∃ v M, (∀ G : VK, G v H → tFld K (tVar n) f σ H G) ∧ vs[i]? = some v ∧ Rp K H (.ow s v d :: (M ++ L)) ∧
    (∀ H' L' s' d', Rp K H' (.ow s' v d' :: (M ++ L')) → Stt K (Γ.set n (.ob b w C (fs.set i (f, s', d')) vs)) σ H' L') := by
  obtain ⟨a, dx, M, rfl, l, hw, R, put, _⟩ := S.focusO h
  obtain ⟨v, A, hv, p1, p2⟩ := fits_at c.at_ l
  refine ⟨v, obI b a (.ins C dx (fvals fs vs)) :: (A ++ M), fun G g => ⟨.ref a, hw, a, C, dx, _, v, rfl, R.obIAt, k.cl, k.na, fvals_look c.at_ c.no hv, g⟩, hv, ?_, fun H' L' s' d' R' => ?_⟩
  · have R1 := R.perm (((p1.append_right (M ++ L)).cons _).trans (.swap _ _ _))
    rw [List.cons_append, List.append_assoc]
    exact R1
  · have es : vs.set i v = vs := set_self hv
    have q := p2 s' v d'
    rw [es] at q
    have en : fvals (fs.set i (f, s', d')) vs = fvals fs vs := by
      have e1 : ∀ {fs : Flds} {vs : List V} {i : Nat}, fs[i]? = some (f, s, d) → fvals (fs.set i (f, s', d')) vs = fvals fs vs := fun {fs} => by
        induction fs with
        | nil => intro vs i h; simp at h
        | cons y fs ih =>
          intro vs i h
          cases vs with
          | nil => cases i <;> rfl
          | cons u vs =>
            cases i with
            | zero => cases h; rfl
            | succ i =>
              show (y.1, u) :: fvals (fs.set i (f, s', d')) vs = (y.1, u) :: fvals fs vs
              rw [ih (i := i) h]
      exact e1 c.at_
    refine put H' L' b dx _ vs (by rw [List.length_set]; exact l) ?_
    rw [en]
    rw [List.cons_append, List.append_assoc] at R'
    exact R'.perm ((List.Perm.swap _ _ _).trans (((q.append_right (M ++ L')).symm).cons _))
theorem Stt.keepF [c : FldC fs f i s d] {σ' : L2.St} (h : Γ[n]? = some (.ob b w C fs vs)) (S : Stt K (Γ.set n (.ob b w C (fs.set i (f, s, d)) vs)) σ' H L) : Stt K Γ σ' H L := by
  rw [set_self c.at_] at S
  exact Stt.selfO h S
/-- an attribute that is shared is read -/
theorem EW_fld {Q : Own → PyData → Ev → Prop} [k : HasF K C f] [c : FldC fs f i .lf d] (h : Γ[n]? = some (.ob b w C fs vs)) (q : Q .lf d Γ) : EW K (tFld K (tVar n) f) Γ Q := fun σ H L G S kk => by
  obtain ⟨v, M, rd, _, R, put⟩ := S.focusF h (f := f)
  exact rd _ (kk _ _ _ _ _ q (Stt.keepF h (put _ _ _ _ R.dupDim)))
/-- an attribute is shared from here on -/
theorem EW_fldF {Q : Own → PyData → Ev → Prop} [k : HasF K C f] [c : FldC fs f i s d] (h : Γ[n]? = some (.ob b w C fs vs)) (q : Q .lf d (Γ.set n (.ob b w C (fs.set i (f, .lf, d)) vs))) : EW K (tFld K (tVar n) f) Γ Q := fun σ H L G S kk => by
  obtain ⟨v, M, rd, _, R, put⟩ := S.focusF h (f := f)
  exact rd _ (kk _ _ _ _ _ q (put _ _ _ _ R.fz.dupDim))
/-- a thing of an attribute's list -/
theorem EW_ixF {ti : TE} {Q : Own → PyData → Ev → Prop} {ds : List PyData} [k : HasF K C f] [c : FldC fs f i (.li .lf) (.list ds)] (h : Γ[n]? = some (.ob b w C fs vs)) (q : EW K ti Γ fun _ e Γ2 => Γ2[n]? = some (.ob b w C fs vs) ∧ ∃ j d', e = .int j ∧ atI ds j = some d' ∧ Q .lf d' Γ2) : EW K (tOp (rIxL K) (tFld K (tVar n) f) ti) Γ Q := fun σ H L G S kk => by
  obtain ⟨v, M0, rd, hv, _, _⟩ := S.focusF h (f := f)
  refine rd _ (q σ H L _ S fun s' e Γ2 y H2 ⟨h2, j, d', e1, e3, q1⟩ S2 => ?_)
  subst e1
  obtain rfl := S2.int'
  have S2 := S2.tail
  obtain ⟨v2, M, _, hv2, R, put⟩ := S2.focusF h2 (f := f)
  rw [hv] at hv2; cases hv2
  obtain ⟨a, xs, rfl, l, R1⟩ := R.take
  obtain ⟨m, x, h1, h2', h3⟩ := atI_len l e3
  refine ⟨a, xs, j, x, rfl, rfl, SqL.of R1.topAt, h1, kk _ _ _ _ _ q1 (Stt.keepF h2 (put _ _ _ _ ?_))⟩
  have R2 : Rp K H2 (each .lf xs ds ++ (.top a xs :: (M ++ L))) := R1.perm List.perm_middle.symm
  have R3 : Rp K H2 (.sh x d' :: (each .lf xs ds ++ (.top a xs :: (M ++ L)))) := R2.shM (List.mem_append_left _ (each_mem h2' h3))
  have R4 : Rp K H2 (.top a xs :: (each .lf xs ds ++ (M ++ .sh x d' :: L))) := R3.perm (by
    refine List.Perm.trans ?_ (List.perm_middle (l₁ := each .lf xs ds))
    refine (List.perm_middle.symm : (It.sh x d' :: (each .lf xs ds ++ (.top a xs :: (M ++ L)))).Perm (each .lf xs ds ++ (It.sh x d' :: (.top a xs :: (M ++ L))))).trans ?_
    refine List.Perm.append_left _ ((List.Perm.swap _ _ _).trans (List.Perm.cons _ ?_))
    exact List.perm_middle.symm)
  exact R4.put l
end
instance {fs : Flds} {f : Str} {i : Nat} {s : Own} {d : PyData} [h : FldC fs f i s d] : FldC (fzF fs) f i .lf d := ⟨by unfold fzF; rw [List.getElem?_map, h.at_]; rfl, fun j x hj hx => by
  unfold fzF at hx
  rw [List.getElem?_map] at hx
  obtain ⟨y, hy, rfl⟩ := Option.map_eq_some_iff.mp hx
  exact h.no j y hj hy⟩
section
variable {K : PySem.W.Frag} {Γ Γ1 : Ev} {σ : L2.St} {H H' : Hp} {L L' I : List It} {s s' s1 : Own} {d d' : PyData} {w v : V} {n i : Nat} {b : Bool} {C : Addr} {fs fs' : Flds} {vs : List V} {f m : Str} {te ti tv : TE} {tr : TA} {QE : Own → PyData → Ev → Prop} {ds : List PyData} {P : Po}
theorem perm_swapA {A F X : List It} : (A ++ (F ++ X)).Perm (F ++ (A ++ X)) := by
  rw [← List.append_assoc A F X, ← List.append_assoc F A X]
  exact List.perm_append_comm.append_right X
/-- self.f.append(x) -/
theorem EW_appF [k : HasF K C f] [c : FldC fs f i (.li s1) (.list ds)] (h : Γ[n]? = some (.ob b w C fs vs)) (q : EW K te Γ fun s d Γ1 => Γ1[n]? = some (.ob b w C fs vs) ∧ (s = s1 ∨ s1 = .lf) ∧ ds.length < 100000 ∧ QE .lf .none (Γ1.set n (.ob b w C (fs.set i (f, .li s1, .list (ds ++ [d]))) vs))) :
    EW K (tBM K "list" rAppend (tFld K (tVar n) f) (tCons te tNil)) Γ QE := fun σ H L G S kk => by
  obtain ⟨v, M0, rd, hv, R0, _⟩ := S.focusF h (f := f)
  obtain ⟨a, rfl, ty⟩ := list_tyV R0
  refine rd _ ⟨ty, q σ H L _ S fun s d Γ1 y H1 ⟨h2, hs, z, q1⟩ S1 => ?_⟩
  obtain ⟨w2, M, _, hv2, R, put⟩ := S1.focusF h2 (f := f)
  rw [hv] at hv2; cases hv2
  have R1 : Rp K H1 (.ow s1 y d :: .ow (.li s1) (.ref a) (.list ds) :: (M ++ L)) := by
    have R' : Rp K H1 (.ow s y d :: .ow (.li s1) (.ref a) (.list ds) :: (M ++ L)) := (R.perm ((List.perm_middle).cons _)).flip
    rcases hs with rfl | rfl
    · exact R'
    · exact R'.fz
  obtain ⟨acc, e, l, R2⟩ := Rp.app R1
  exact ⟨a, acc, y, rfl, rfl, e, sz_lt (by rw [l]; exact z), kk _ _ _ _ _ q1 ((put _ _ _ _ R2).flat .non rfl)⟩
/-- self.f[i] = x -/
theorem GW_setF {Q : Ev → Prop} [k : HasF K C f] [c : FldC fs f i (.li s1) (.list ds)] (h : Γ[n]? = some (.ob b w C fs vs)) (q : EW K ti Γ fun _ e Γ2 => ∃ j : Nat, e = .int (j : Int) ∧ Γ2[n]? = some (.ob b w C fs vs) ∧ j < ds.length ∧ (s = s1 ∨ s1 = .lf) ∧ Q (Γ2.set n (.ob b w C (fs.set i (f, .li s1, .list (ds.set j d))) vs))) :
    GW K (gSub (tFld K (tVar n) f) ti rSetL) s d Γ Q := fun σ H L v G S kk => by
  obtain ⟨u, M0, rd, hv, _, _⟩ := S.focusF h (f := f)
  refine rd _ (q σ H _ _ S fun s2 e Γ2 y H2 ⟨j, e1, h2, hj, hs, q2⟩ S2 => ?_)
  subst e1
  obtain rfl := S2.int'
  have S3 : Stt K Γ2 σ H2 (.ow s v d :: L) := S2.tail
  obtain ⟨u2, M, _, hv2, R, put⟩ := S3.focusF h2 (f := f)
  rw [hv] at hv2; cases hv2
  have R1 : Rp K H2 (.ow (.li s1) u (.list ds) :: .ow s1 v d :: (M ++ L)) := by
    have R' := R.perm ((List.perm_middle).cons _)
    rcases hs with rfl | rfl
    · exact R'
    · exact R'.flip.fz.flip
  obtain ⟨a, rfl⟩ := sh_lst R1
  exact g_setR R1 .here .here rfl hj fun H' R2 => kk _ _ _ q2 (put _ _ _ _ R2)
theorem Rp.chgO {o o' : HO} {a : Addr} (R : Rp K H (.ob a o :: L)) (h : Mutb o' ∧ ∀ xs, o' ≠ .lst xs) : Rp K (upd H a o') (.ob a o' :: L) := by
  obtain ⟨_, _, h0, t, r⟩ := R.inv
  cases h0
  exact ⟨_, .cons (p := [.ob a o']) rfl t, Rf.mutO But.mut upd_same h r⟩
theorem Rp.newO {o : HO} {a : Addr} (R : Rp K H L) (n : H a = none) (h : Mutb o ∧ ∀ xs, o ≠ .lst xs) : Rp K (upd H a o) (.ob a o :: L) := by
  obtain ⟨ps, u, r⟩ := R
  exact ⟨_, .cons (p := [.ob a o]) rfl u, r.newO n h⟩
theorem mutb_ins {C dx : Addr} {l : List (Str × V)} : Mutb (.ins C dx l) ∧ ∀ xs, HO.ins C dx l ≠ .lst xs := ⟨trivial, fun _ h => by cases h⟩
/-- what stands behind self.f = x -/
def FldS (K : PySem.W.Frag) (Γ1 : Ev) (n : Nat) (f : Str) (s : Own) (d : PyData) (F : Ev → Prop) : Prop := ∃ w C fs vs fs', Γ1[n]? = some (.ob false w C fs vs) ∧ HasF K C f ∧ fs.length < 1000 ∧ ((∃ i s0 d0, FldC fs f i s0 d0 ∧ fs' = fs.set i (f, s, d)) ∨ (NoF fs f ∧ fs' = fs ++ [(f, s, d)])) ∧
  ∀ vs', vs'.length = fs'.length → F (Γ1.set n (.ob false w C fs' vs'))
theorem FldS_set {F : Ev → Prop} {s0 : Own} {d0 : PyData} [k : HasF K C f] [c : FldC fs f i s0 d0] (h : Γ1[n]? = some (.ob false w C fs vs)) (l : fs.length < 1000) (q : ∀ vs', vs'.length = (fs.set i (f, s, d)).length → F (Γ1.set n (.ob false w C (fs.set i (f, s, d)) vs'))) : FldS K Γ1 n f s d F := ⟨w, C, fs, vs, _, h, k, l, .inl ⟨i, s0, d0, c, rfl⟩, q⟩
theorem FldS_new {F : Ev → Prop} [k : HasF K C f] [c : NoF fs f] (h : Γ1[n]? = some (.ob false w C fs vs)) (l : fs.length < 1000) (q : ∀ vs', vs'.length = (fs ++ [(f, s, d)]).length → F (Γ1.set n (.ob false w C (fs ++ [(f, s, d)]) vs'))) : FldS K Γ1 n f s d F := ⟨w, C, fs, vs, _, h, k, l, .inr ⟨c, rfl⟩, q⟩
theorem SW_fld (q : EW K tv Γ fun s d Γ1 => FldS K Γ1 n f s d P.nx) : SW K (sFld K (tVar n) tv f) Γ P := fun σ H L D S kk => q σ H L _ S fun s d Γ1 y H1 ⟨w, C, fs, vs, fs', h1, hf, l1, hp, q1⟩ S1 => by
  obtain ⟨a, dx, M, rfl, l, hw, R, put, _⟩ := S1.focusO h1
  have R : Rp K H1 (.ob a (.ins C dx (fvals fs vs)) :: (fits fs vs ++ (M ++ .ow s y d :: L))) := R
  refine ⟨.ref a, hw, a, C, dx, _, rfl, R.obAt, hf.cl, hf.na, Nat.lt_of_le_of_lt fvals_len l1, ?_⟩
  have R2 := R.chgO (mutb_ins (C := C) (dx := dx) (l := putF f y (fvals fs vs)))
  rcases hp with ⟨i, s0, d0, c, rfl⟩ | ⟨c, rfl⟩
  · have e := fvals_put (s' := s) (d' := d) (v' := y) c.at_ c.no l
    rw [e] at R2 ⊢
    obtain ⟨v0, A, hv, p1, p2⟩ := fits_at c.at_ l
    refine kk.nx _ _ _ (q1 (vs.set i y) (by rw [List.length_set, List.length_set]; exact l)) (put _ _ false dx _ _ (by rw [List.length_set, List.length_set]; exact l) ?_)
    have R3 := R2.perm ((p1.append_right _).cons _)
    have R4 : Rp K _ (.ob a (.ins C dx (fvals (fs.set i (f, s, d)) (vs.set i y))) :: (A ++ (M ++ .ow s y d :: L))) := (R3.perm (.swap _ _ _)).tail
    refine R4.perm (List.Perm.cons _ ?_)
    refine List.Perm.trans ?_ ((p2 s y d).symm.append_right (M ++ L))
    rw [← List.append_assoc, List.cons_append, ← List.append_assoc]
    exact List.perm_middle
  · have e := fvals_new (s' := s) (d' := d) (v' := y) c.no l
    rw [e] at R2 ⊢
    refine kk.nx _ _ _ (q1 (vs ++ [y]) (by rw [List.length_append, List.length_append, l]; rfl)) (put _ _ false dx _ _ (by rw [List.length_append, List.length_append, l]; rfl) ?_)
    refine R2.perm (List.Perm.cons _ ?_)
    have ef : fits (fs ++ [(f, s, d)]) (vs ++ [y]) = fits fs vs ++ [.ow s y d] := by
      unfold fits
      rw [List.zipWith_append l.symm]
      rfl
    rw [ef, List.append_assoc]
    refine List.Perm.append_left _ ?_
    exact List.perm_middle
/-! methods -/
def spO (K : PySem.W.Frag) (C : Addr) (pre : Flds → List PyData → (Own → PyData → Flds → Prop) → Prop) : Sp := fun vs H G _ => ∃ a dx fs vals us ds L Q, vs = .ref a :: us ∧ us.length = ds.length ∧ vals.length = fs.length ∧ Rp K H (.ob a (.ins C dx (fvals fs vals)) :: (fits fs vals ++ (each .lf us ds ++ L))) ∧ pre fs ds Q ∧
  ∀ s d fs' dx' vals' v H', Q s d fs' → vals'.length = fs'.length → Rp K H' (.ow s v d :: .ob a (.ins C dx' (fvals fs' vals')) :: (fits fs' vals' ++ L)) → G v H'
theorem EW_meth {pre : Flds → List PyData → (Own → PyData → Flds → Prop) → Prop} {E : XK} [c : NoF fs m] (h : Γ[n]? = some (.ob b w C fs vs)) (q : AW K tr Γ fun bs Γ1 => ∃ fs vs, Γ1[n]? = some (.ob false w C fs vs) ∧ pre fs (bs.map Prod.snd) fun s2 r fs' => ∀ vs', vs'.length = fs'.length → QE s2 r (Γ1.set n (.ob false w C fs' vs'))) :
    EW K (tMeth C m (spO K C pre) [] E (tVar n) tr) Γ QE := fun σ H L G S k => by
  obtain ⟨a, dx, M0, rfl, l0, hw, R0, _, _⟩ := S.focusO h
  refine ⟨.ref a, hw, a, dx, _, rfl, R0.obIAt, fvals_none c.no, q σ H L _ S fun bs Γ1 us H1 ⟨fs1, vs1, h1, q1⟩ lu S1 => ?_⟩
  obtain ⟨a', dx1, M, e, l1, hw1, R, put, _⟩ := S1.focusO h1
  cases e
  have R : Rp K H1 (.ob a (.ins C dx1 (fvals fs1 vs1)) :: (fits fs1 vs1 ++ (M ++ (zipI us bs ++ L)))) := R
  have R1 : Rp K H1 (zipI us bs ++ (.ob a (.ins C dx1 (fvals fs1 vs1)) :: (fits fs1 vs1 ++ (M ++ L)))) := R.perm (by
    refine List.Perm.trans (List.Perm.cons _ ?_) List.perm_middle.symm
    rw [← List.append_assoc, ← List.append_assoc, ← List.append_assoc, ← List.append_assoc]
    refine List.Perm.append_right L ?_
    rw [List.append_assoc (zipI us bs)]
    exact List.perm_append_comm)
  have R2 := Rp.fzZ lu R1
  rw [List.append_nil]
  refine ⟨a, dx1, fs1, vs1, us, bs.map Prod.snd, M ++ L, _, rfl, by rw [lu, List.length_map], l1, R2.perm ?_, q1, fun s2 r fs' dx' vals' v H' q2 l2 R3 => k _ _ _ _ _ (q2 vals' l2) (put _ _ false dx' fs' vals' l2 ?_)⟩
  · exact List.perm_middle.trans (List.Perm.cons _ perm_swapA)
  · have R3 : Rp K H' (.ow s2 v r :: .ob a (.ins C dx' (fvals fs' vals')) :: (fits fs' vals' ++ (M ++ L))) := R3
    refine (R3.perm (.swap _ _ _)).perm (List.Perm.cons _ ?_)
    rw [← List.append_assoc, ← List.append_assoc]
    exact List.perm_middle.symm
end
section
variable {P : Program} {wd : World} {K : PySem.W.Frag} {mg : Str → Option Value} {base : Heap} {C : Addr}
/-- a method -/
theorem okO {pre : Flds → List PyData → (Own → PyData → Flds → Prop) → Prop} {x qual : Str} {st : Stmt} {f : Addr} {fd : FuncData} {N ps : List Str} {k : Nat} (F : Fun K x qual st f fd) (S : FnScope N ps (defScope st)) (l : ∀ fs ds Q, pre fs ds Q → ds.length + 1 = ps.length)
    (hb : ∀ (cdv : Value) (A : Around) (outer : List Env) (s : Shared) (H : Hp) (E : XK), Room k (A.deeper (envOfC qual (defScope st) s.heap.objs.size f cdv)) → ∃ t, PSs (cxOf CX0 P wd K mg base N qual (defScope st) f cdv A outer s H E).nox (defBody st) t ∧
      ∀ w vs fs ds Q, vs.length = fs.length → pre fs ds Q → SW K t (.ob false w C fs vs :: (ds.map (Sl.v .lf) ++ List.replicate (N.length - (ds.length + 1)) .un)) { nx := fun Γ => ∃ fs' vs', Γ[0]? = some (.ob false w C fs' vs') ∧ Q .lf .none fs', rt := fun s2 r Γ => ∃ fs' vs', Γ[0]? = some (.ob false w C fs' vs') ∧ Q s2 r fs' }) :
    FnOk P wd K mg base CX0 (k + 1) f fd ps (spO K C pre) := by
  refine F.ok S (fun vs H G E ⟨a, dx, fs, vals, us, ds, L, Q, e, l1, _, _, hp, _⟩ => by rw [e, List.length_cons, l1]; exact l fs ds Q hp) (fun cdv A outer s0 H vs G E hr ⟨a, dx, fs, vals, us, ds, L, Q, e, l1, l2, R, hp, kk⟩ => ?_)
  subst e
  obtain ⟨t, h1, h2⟩ := hb cdv A outer s0 H E hr
  have fin : ∀ {Γ' σ' H' s2 v r fs' vs'}, Γ'[0]? = some (.ob false (.ref a) C fs' vs') → Q s2 r fs' → Stt K Γ' σ' H' (.ow s2 v r :: L) → G v H' := fun {Γ' σ' H' s2 v r fs' vs'} h q S' => by
    obtain ⟨a', dx', M, e, l3, _, R2, _, _⟩ := S'.focusO h
    cases e
    have R2 : Rp K H' (.ob a (.ins C dx' (fvals fs' vs')) :: (fits fs' vs' ++ (M ++ .ow s2 v r :: L))) := R2
    refine kk s2 r fs' dx' vs' v H' q l3 ?_
    have R3 : Rp K H' (M ++ (.ow s2 v r :: .ob a (.ins C dx' (fvals fs' vs')) :: (fits fs' vs' ++ L))) := R2.perm (by
      refine List.Perm.trans ?_ (List.perm_middle.symm)
      refine List.Perm.trans (List.Perm.cons _ (?_ : (fits fs' vs' ++ (M ++ .ow s2 v r :: L)).Perm (.ow s2 v r :: (M ++ (fits fs' vs' ++ L))))) ?_
      · rw [← List.append_assoc, ← List.append_assoc]
        exact List.perm_middle.trans (List.Perm.cons _ (List.perm_append_comm.append_right L))
      · refine (List.Perm.swap _ _ _).trans (List.Perm.cons _ ?_)
        exact List.perm_middle.symm)
    have drop : ∀ (A : List It) {B : List It}, Rp K H' (A ++ B) → Rp K H' B := fun A => by
      induction A with
      | nil => exact id
      | cons m A ih => exact fun R => ih R.tail
    exact drop M R3
  refine ⟨t, h1, h2 (.ref a) vals fs ds Q l2 hp (start N (.ref a :: us)) H L _ ⟨.ob a (.ins C dx (fvals fs vals)) :: (fits fs vals ++ each .lf us ds), ?_, ?_⟩ ⟨fun Γ' σ' H' ⟨fs', vs', h, q⟩ S' => fin h q (S'.flat .non rfl), fun s2 r Γ' σ' v H' ⟨fs', vs', h, q⟩ S' => fin h q S', fun _ _ _ q => q.elim, fun _ _ _ q => q.elim, fun _ _ => trivial⟩⟩
  · exact .ob (b := false) ((EnvR.start l1).uns (by rw [List.length_cons, l1, List.length_replicate])) l2
  · rw [List.cons_append, List.append_assoc]; exact R
end
section
variable {X : Cx} {K : PySem.W.Frag}
theorem k_fld {e : Expr} {ta : TE} {f : Str} {pos : Pos} (he : PE X e ta) (hb : attributeBase e f X.env (eval e X.env) = eval e X.env) (h : X.K = K := by rfl) : PE X (.Attribute e f pos) (tFld K ta f) := by subst h; exact pe_fld he hb
end
/-! ### boxes: instances made, told, walked -/
section
variable {K : PySem.W.Frag} {Γ Γ1 : Ev} {σ : L2.St} {H H' : Hp} {L L' I : List It} {s s' s1 : Own} {d d' : PyData} {w v : V} {n i j : Nat} {b : Bool} {C : Addr} {fs fs' : Flds} {vs : List V} {f g m : Str} {te ti tv : TE} {tr : TA} {QE : Own → PyData → Ev → Prop} {ds es : List PyData} {P : Po}
theorem EnvR.putO {a dx : Addr} (E : EnvR Γ σ I) (l : vs.length = fs.length) : ∀ {n : Nat}, Γ[n]? = some .un → ∃ I2, EnvR (Γ.set n (.ob b (.ref a) C fs vs)) (σ.set n (some (.ref a))) I2 ∧ I2.Perm (obI b a (.ins C dx (fvals fs vs)) :: (fits fs vs ++ I)) := by
  induction E with
  | nil => intro n h; simp at h
  | @un E σ I x e ih =>
    intro n h
    cases n with
    | zero => exact ⟨_, .ob e l, .refl _⟩
    | succ n =>
      obtain ⟨I2, h1, h2⟩ := ih (n := n) h
      exact ⟨I2, .un h1, h2⟩
  | @v E σ I w0 s0 d0 e ih =>
    intro n h
    cases n with
    | zero => cases h
    | succ n =>
      obtain ⟨I2, h1, h2⟩ := ih (n := n) h
      exact ⟨_, .v h1, perm_mid (P := [.ow s0 w0 d0]) h2⟩
  | @pin E σ I w0 s0 d0 e ih =>
    intro n h
    cases n with
    | zero => cases h
    | succ n =>
      obtain ⟨I2, h1, h2⟩ := ih (n := n) h
      exact ⟨_, .pin h1, perm_mid (P := [.ow s0 w0 d0]) h2⟩
  | @fact E σ I w0 F0 e ih =>
    intro n h
    cases n with
    | zero => cases h
    | succ n =>
      obtain ⟨I2, h1, h2⟩ := ih (n := n) h
      exact ⟨_, .fact h1, perm_mid (P := [.ps F0]) h2⟩
  | @ob b0 E σ I a0 dx0 C0 vs0 fs0 e l0 ih =>
    intro n h
    cases n with
    | zero => cases h
    | succ n =>
      obtain ⟨I2, h1, h2⟩ := ih (n := n) h
      exact ⟨_, .ob h1 l0, perm_mid (P := obI b0 a0 (.ins C0 dx0 (fvals fs0 vs0)) :: fits fs0 vs0) h2⟩
/-- an instance is taken in by a name -/
theorem Stt.putO {a dx : Addr} (S : Stt K Γ σ H (obI b a (.ins C dx (fvals fs vs)) :: (fits fs vs ++ L))) (l : vs.length = fs.length) (h : n < Γ.length) : Stt K (Γ.set n (.ob b (.ref a) C fs vs)) (σ.set n (some (.ref a))) H L := by
  obtain ⟨I, E, R⟩ := S
  obtain ⟨I1, E1, k⟩ := E.drop n
  obtain ⟨I2, E2, k2⟩ := E1.putO (b := b) (C := C) (a := a) (dx := dx) l (n := n) (by rw [List.getElem?_set_self h])
  rw [List.set_set] at E2
  refine ⟨I2, E2, ?_⟩
  have R1 := k K H _ R
  have R2 : Rp K H (obI b a (.ins C dx (fvals fs vs)) :: (fits fs vs ++ I1) ++ L) := R1.perm (by
    rw [List.cons_append, List.append_assoc]
    exact List.perm_middle.trans (List.Perm.cons _ perm_swapA))
  exact R2.perm (k2.symm.append_right L)
theorem dq_none {v : V} (h : Dq K H v .none) : v = .non := by cases h; rfl
/-- x = C(..) -/
theorem SW_make {pre : Flds → List PyData → (Own → PyData → Flds → Prop) → Prop} {E : XK} (hn : n < Γ.length) (q : AW K tr Γ fun bs Γ1 => Γ1.length = Γ.length ∧ pre [] (bs.map Prod.snd) fun _ r fs' => r = .none ∧ ∀ w vs', vs'.length = fs'.length → P.nx (Γ1.set n (.ob false w C fs' vs'))) :
    SW K (tAsg (tMake C (spO K C pre) [] E tr) (gName n)) Γ P := fun σ H L D S kk => q σ H L _ S fun bs Γ1 us H1 ⟨hl, q1⟩ lu S1 => fun x dx nx ndx ne => by
  obtain ⟨M, R, back⟩ := S1.lift (A := zipI us bs)
  have R1 := Rp.fzZ lu R
  have R2 : Rp K (upd H1 dx (.own x)) (each .lf us (bs.map Prod.snd) ++ M) := R1.new ndx
  have nx2 : upd H1 dx (.own x) x = none := by rw [upd_ne (fun e => ne e.symm)]; exact nx
  have R3 := R2.newO nx2 (mutb_ins (C := C) (dx := dx) (l := []))
  rw [List.append_nil]
  refine ⟨x, dx, [], [], us, bs.map Prod.snd, M, _, rfl, by rw [lu, List.length_map], rfl, R3, q1, fun s r fs' dx' vals' v H' ⟨e, q2⟩ l2 R4 => ?_⟩
  subst e
  refine ⟨dq_none (R4.dpOf mem_here), ?_⟩
  have S2 := back H' (.ob x (.ins C dx' (fvals fs' vals')) :: fits fs' vals') R4.tail
  have S3 : Stt K Γ1 σ H' (obI false x (.ins C dx' (fvals fs' vals')) :: (fits fs' vals' ++ L)) := S2
  exact kk.nx _ _ _ (q2 (.ref x) vals' l2) (S3.putO l2 (by rw [hl]; exact hn))
/-! a def that tells an instance -/
def SWO (K : PySem.W.Frag) (t : L2.TS) (Γ : Ev) (C : Addr) (Q : Flds → Prop) : Prop := ∀ (σ : L2.St) (H : Hp) (L : List It) (D : Ends), Stt K Γ σ H L → (∀ a dx fs vals H', Q fs → vals.length = fs.length → Rp K H' (.ob a (.ins C dx (fvals fs vals)) :: (fits fs vals ++ L)) → D.rt (.ref a) H') → t D σ H
theorem SWO_seq {t u : L2.TS} {Q : Flds → Prop} (q : SW K t Γ { nx := fun Γ1 => SWO K u Γ1 C Q, rt := fun _ _ _ => False }) : SWO K (tSeq t u) Γ C Q := fun σ H L D S k => q σ H L _ S ⟨fun Γ' σ' H' q1 S1 => q1 σ' H' L D S1 k, fun _ _ _ _ _ _ q => q.elim, fun _ _ _ q => q.elim, fun _ _ _ q => q.elim, fun _ _ => trivial⟩
theorem SWO_cut {t u : L2.TS} {Q : Flds → Prop} (Mid : Ev → Prop) (h : SW K t Γ { nx := Mid, rt := fun _ _ _ => False }) (q : ∀ Γ', Mid Γ' → SWO K u Γ' C Q) : SWO K (C8.tCut t u) Γ C Q := fun σ H L D S k => ⟨fun σ' H' => ∃ Γ', Mid Γ' ∧ Stt K Γ' σ' H' L, h σ H L _ S ⟨fun Γ' σ' H' q1 S1 => ⟨Γ', q1, S1⟩, fun _ _ _ _ _ _ q => q.elim, fun _ _ _ q => q.elim, fun _ _ _ q => q.elim, fun _ _ => trivial⟩, fun σ' H' ⟨Γ', q1, S1⟩ => q Γ' q1 σ' H' L D S1 k⟩
theorem SWO_ret {Q : Flds → Prop} (h : Γ[n]? = some (.ob false w C fs vs)) (q : Q fs) : SWO K (tRet (tVar n)) Γ C Q := fun σ H L D S k => by
  obtain ⟨a, dx, M, rfl, l, hw, R, _, _⟩ := S.focusO h
  have R : Rp K H (.ob a (.ins C dx (fvals fs vs)) :: (fits fs vs ++ (M ++ L))) := R
  have drop : ∀ (A : List It) {B : List It}, Rp K H (A ++ B) → Rp K H B := fun A => by
    induction A with
    | nil => exact id
    | cons m A ih => exact fun R => ih R.tail
  have R1 : Rp K H (M ++ (.ob a (.ins C dx (fvals fs vs)) :: (fits fs vs ++ L))) := R.perm ((List.Perm.cons _ perm_swapA).trans List.perm_middle.symm)
  exact ⟨.ref a, hw, k a dx fs vs H q l (drop M R1)⟩
def spR (K : PySem.W.Frag) (C : Addr) (pre : List PyData → (Flds → Prop) → Prop) : Sp := fun vs H G _ => ∃ ds L Q, vs.length = ds.length ∧ Rp K H (each .lf vs ds ++ L) ∧ pre ds Q ∧ ∀ a dx fs vals H', Q fs → vals.length = fs.length → Rp K H' (.ob a (.ins C dx (fvals fs vals)) :: (fits fs vals ++ L)) → G (.ref a) H'
/-- x = f(..), f tells an instance -/
theorem SW_callR {pre : List PyData → (Flds → Prop) → Prop} {E : XK} (hn : n < Γ.length) (q : AW K tr Γ fun bs Γ1 => Γ1.length = Γ.length ∧ pre (bs.map Prod.snd) fun fs' => ∀ w vs', vs'.length = fs'.length → P.nx (Γ1.set n (.ob false w C fs' vs'))) :
    SW K (tAsg (tCall (spR K C pre) [] E tr) (gName n)) Γ P := fun σ H L D S kk => q σ H L _ S fun bs Γ1 us H1 ⟨hl, q1⟩ lu S1 => by
  obtain ⟨M, R, back⟩ := S1.lift (A := zipI us bs)
  rw [List.append_nil]
  refine ⟨bs.map Prod.snd, M, _, by rw [lu, List.length_map], Rp.fzZ lu R, q1, fun a dx fs vals H' q2 l2 R2 => ?_⟩
  have S2 := back H' (.ob a (.ins C dx (fvals fs vals)) :: fits fs vals) R2
  have S3 : Stt K Γ1 σ H' (obI false a (.ins C dx (fvals fs vals)) :: (fits fs vals ++ L)) := S2
  exact kk.nx _ _ _ (q2 (.ref a) vals l2) (S3.putO l2 (by rw [hl]; exact hn))
/-! a call whose second argument is an instance, read alone -/
def spA2 (K : PySem.W.Frag) (C : Addr) (pre : PyData → Flds → (Own → PyData → Prop) → Prop) : Sp := fun us H G _ => ∃ u a dx fs vals d L Q, us = [u, .ref a] ∧ vals.length = fs.length ∧ Rp K H (.sh u d :: .ob a (.ins C dx (fvals fs vals)) :: (fits fs vals ++ L)) ∧ pre d fs Q ∧
  ∀ s r v dx' H', Q s r → Rp K H' (.ow s v r :: .ob a (.ins C dx' (fvals fs vals)) :: (fits fs vals ++ L)) → G v H'
theorem EW_callA2 {pre : PyData → Flds → (Own → PyData → Prop) → Prop} {E : XK} (q : EW K te Γ fun s d Γ1 => ∃ w fs vs, Γ1[n]? = some (.ob false w C fs vs) ∧ pre d fs fun s2 r => QE s2 r Γ1) :
    EW K (tCall (spA2 K C pre) [] E (tCons te (tCons (tVar n) tNil))) Γ QE := fun σ H L G S k => q σ H L _ S fun s d Γ1 u H1 ⟨w, fs, vs, h1, q1⟩ S1 => by
  obtain ⟨a, dx, M, rfl, l, hw, R, put, _⟩ := S1.focusO h1
  have R : Rp K H1 (.ob a (.ins C dx (fvals fs vs)) :: (fits fs vs ++ (M ++ .ow s u d :: L))) := R
  have R1 : Rp K H1 (.ow s u d :: .ob a (.ins C dx (fvals fs vs)) :: (fits fs vs ++ (M ++ L))) := R.perm (by
    refine List.Perm.trans (List.Perm.cons _ ?_) (List.Perm.swap _ _ _)
    rw [← List.append_assoc, ← List.append_assoc]
    exact List.perm_middle)
  have R2 : Rp K H1 (.sh u d :: .ob a (.ins C dx (fvals fs vs)) :: (fits fs vs ++ (M ++ L))) := R1.fz
  refine ⟨.ref a, hw, u, a, dx, fs, vs, d, M ++ L, _, rfl, l, R2, q1, fun s2 r v dx' H' q2 R3 => k _ _ _ _ _ q2 ?_⟩
  refine Stt.selfO h1 (put H' (.ow s2 v r :: L) false dx' fs vs l ?_)
  refine (R3.perm (.swap _ _ _)).perm (List.Perm.cons _ ?_)
  rw [← List.append_assoc, ← List.append_assoc]
  exact List.perm_middle.symm
/-! over the lists of two attributes -/
theorem Stt.ixF [k : HasF K C f] [c : FldC fs f i (.li .lf) (.list ds)] (S : Stt K Γ σ H L) (h : Γ[n]? = some (.ob b w C fs vs)) : ∃ p us, vs[i]? = some (.ref p) ∧ (∀ G : VK, G (.ref p) H → tFld K (tVar n) f σ H G) ∧ H p = some (.lst us) ∧ us.length = ds.length ∧
    ∀ (j : Nat) (dj : PyData), ds[j]? = some dj → ∃ x, us[j]? = some x ∧ Stt K Γ σ H (.sh x dj :: L) := by
  obtain ⟨v2, M, rd, hv2, R, put⟩ := S.focusF h (f := f)
  obtain ⟨a, xs, rfl, l, R1⟩ := R.take
  refine ⟨a, xs, hv2, rd, R1.topAt, l, fun j dj hj => ?_⟩
  have hi : j < xs.length := by rw [l]; exact (List.getElem?_eq_some_iff.mp hj).1
  have hx : xs[j]? = some xs[j] := List.getElem?_eq_getElem hi
  refine ⟨xs[j], hx, Stt.keepF h (put _ _ _ _ ?_)⟩
  have R2 : Rp K H (each .lf xs ds ++ (.top a xs :: (M ++ L))) := R1.perm List.perm_middle.symm
  have R3 : Rp K H (.sh xs[j] dj :: (each .lf xs ds ++ (.top a xs :: (M ++ L)))) := R2.shM (List.mem_append_left _ (each_mem hx hj))
  have R4 : Rp K H (.top a xs :: (each .lf xs ds ++ (M ++ .sh xs[j] dj :: L))) := R3.perm (by
    refine List.Perm.trans ?_ (List.perm_middle (l₁ := each .lf xs ds))
    refine (List.perm_middle.symm : (It.sh xs[j] dj :: (each .lf xs ds ++ (.top a xs :: (M ++ L)))).Perm (each .lf xs ds ++ (It.sh xs[j] dj :: (.top a xs :: (M ++ L))))).trans ?_
    refine List.Perm.append_left _ ((List.Perm.swap _ _ _).trans (List.Perm.cons _ ?_))
    exact List.perm_middle.symm)
  exact R4.put l
/-- for x, y in zip(self.f, self.g) -/
theorem SW_forZF {gt : TG} {tbd : L2.TS} [kf : HasF K C f] [kg : HasF K C g] [cf : FldC fs f i (.li .lf) (.list ds)] [cg : FldC fs g j (.li .lf) (.list es)] (h : Γ[n]? = some (.ob b w C fs vs)) (le : es.length = ds.length) (Pv : Nat → Ev → Prop) (h0 : Pv 0 Γ) (hk : ∀ i Γ', Pv i Γ' → Γ'[n]? = some (.ob b w C fs vs))
    (hs : ∀ i x y Γ', ds[i]? = some x → es[i]? = some y → Pv i Γ' → GW K gt .lf (.tuple [x, y]) Γ' fun Γ2 => SW K tbd Γ2 { P with nx := Pv (i + 1), ct := Pv (i + 1), bk := P.nx }) (hd : ∀ Γ', Pv ds.length Γ' → P.nx Γ') :
    SW K (tFor (iZip K (tCons (tFld K (tVar n) f) (tCons (tFld K (tVar n) g) tNil))) gt tbd) Γ P := fun σ H L D S kk => by
  obtain ⟨p, us, hp, rd, ep, lp, _⟩ := S.ixF h (f := f)
  obtain ⟨p2, us2, hp2, rd2, ep2, lp2, _⟩ := S.ixF h (f := g)
  dsimp only [tFor, iZip, tCons, tNil]
  refine rd _ ?_
  refine rd2 _ ?_
  refine ⟨p, p2, us, us2, rfl, SqL.of ep, SqL.of ep2, ?_⟩
  refine ⟨fun q m σ H => m = ds.length - q ∧ q ≤ ds.length ∧ ∃ Γ', Pv q Γ' ∧ Stt K Γ' σ H L, ⟨_, rfl, Nat.zero_le _, Γ, h0, S⟩, ?_⟩
  rintro q m σ1 H1 ⟨rfl, hq, Γ', pv, S1⟩
  have h1 := hk q Γ' pv
  obtain ⟨p', us', hp', _, ep', lp', at1⟩ := S1.ixF h1 (f := f)
  rw [hp] at hp'; cases hp'
  obtain ⟨p2', us2', hp2', _, ep2', lp2', _⟩ := S1.ixF h1 (f := g)
  rw [hp2] at hp2'; cases hp2'
  by_cases c : q < ds.length
  · have hx : ds[q]? = some ds[q] := List.getElem?_eq_getElem c
    have hy : es[q]? = some (es[q]'(by omega)) := List.getElem?_eq_getElem (by omega)
    obtain ⟨x, ex, Sx⟩ := at1 q _ hx
    obtain ⟨p3, us3, hp3, _, ep3, _, at2⟩ := Sx.ixF h1 (f := g)
    rw [hp2] at hp3; cases hp3
    rw [ep2'] at ep3; cases ep3
    obtain ⟨y, ey, Sy⟩ := at2 q _ hy
    refine .inr ⟨⟨us', us2', x, y, SqL.of ep', SqL.of ep2', ex, ey⟩, fun σ' H' => ∃ Γ', Pv (q + 1) Γ' ∧ Stt K Γ' σ' H' L, fun σ' H' h => ⟨ds.length - (q + 1), by omega, rfl, c, h⟩, fun v H' hyl => ?_⟩
    obtain ⟨T, x', y', rfl, nT, rfl, hx', hy'⟩ := hyl
    have e1 := hx' us' (SqL.of ep')
    rw [ex] at e1; cases e1
    have e2 := hy' us2' (SqL.of ep2')
    rw [ey] at e2; cases e2
    obtain ⟨M, R, back⟩ := Sy.lift (A := [.sh y (es[q]'(by omega)), .sh x ds[q]])
    have R1 : Rp K H1 (.sh x ds[q] :: .sh y (es[q]'(by omega)) :: M) := R.perm (.swap _ _ _)
    have R2 := (Rp.mk2 R1 nT).fz
    have S2 : Stt K Γ' σ1 (upd H1 T (.tup [x, y])) (.sh (.ref T) (.tuple [ds[q], es[q]'(by omega)]) :: L) := back _ [.sh (.ref T) _] R2
    exact hs q _ _ Γ' hx hy pv σ1 _ L (.ref T) _ S2 fun Γ2 σ2 H2 q2 S3 => q2 σ2 H2 L _ S3 ⟨fun Γ' σ' H' q S => ⟨Γ', q, S⟩, kk.rt, kk.nx, fun Γ' σ' H' q S => ⟨Γ', q, S⟩, kk.er⟩
  · have e : q = ds.length := by omega
    subst e
    exact .inl ⟨⟨us', us2', SqL.of ep', SqL.of ep2', .inl (by omega)⟩, kk.nx _ _ _ (hd Γ' pv) S1⟩
end
section
variable {P : Program} {wd : World} {K : PySem.W.Frag} {mg : Str → Option Value} {base : Heap} {C : Addr}
theorem okR {pre : List PyData → (Flds → Prop) → Prop} {x qual : Str} {st : Stmt} {f : Addr} {fd : FuncData} {N ps : List Str} {k : Nat} (F : Fun K x qual st f fd) (S : FnScope N ps (defScope st)) (l : ∀ ds Q, pre ds Q → ds.length = ps.length)
    (hb : ∀ (cdv : Value) (A : Around) (outer : List Env) (s : Shared) (H : Hp) (E : XK), Room k (A.deeper (envOfC qual (defScope st) s.heap.objs.size f cdv)) → ∃ t, PSs (cxOf CX0 P wd K mg base N qual (defScope st) f cdv A outer s H E).nox (defBody st) t ∧
      ∀ ds Q, pre ds Q → SWO K t (ds.map (Sl.v .lf) ++ List.replicate (N.length - ds.length) .un) C Q) : FnOk P wd K mg base CX0 (k + 1) f fd ps (spR K C pre) := by
  refine F.ok S (fun vs H G E ⟨ds, L, Q, l1, _, hp, _⟩ => l1.trans (l ds Q hp)) (fun cdv A outer s H vs G E hr ⟨ds, L, Q, l1, R, hp, kk⟩ => ?_)
  obtain ⟨t, h1, h2⟩ := hb cdv A outer s H E hr
  exact ⟨t, h1, h2 ds Q hp (start N vs) H L _ ⟨each .lf vs ds, (EnvR.start l1).uns (by rw [l1, List.length_replicate]), R⟩ fun a dx fs vals H' q l R' => kk a dx fs vals H' q l R'⟩
theorem okA2 {pre : PyData → Flds → (Own → PyData → Prop) → Prop} {x qual : Str} {st : Stmt} {f : Addr} {fd : FuncData} {N ps : List Str} {k : Nat} (F : Fun K x qual st f fd) (S : FnScope N ps (defScope st)) (l : ps.length = 2)
    (hb : ∀ (cdv : Value) (A : Around) (outer : List Env) (s : Shared) (H : Hp) (E : XK), Room k (A.deeper (envOfC qual (defScope st) s.heap.objs.size f cdv)) → ∃ t, PSs (cxOf CX0 P wd K mg base N qual (defScope st) f cdv A outer s H E).nox (defBody st) t ∧
      ∀ w vs d fs Q, vs.length = fs.length → pre d fs Q → SW K t (.v .lf d :: .ob false w C fs vs :: List.replicate (N.length - 2) .un) { nx := fun Γ => Γ[1]? = some (.ob false w C fs vs) ∧ Q .lf .none, rt := fun s2 r Γ => Γ[1]? = some (.ob false w C fs vs) ∧ Q s2 r }) :
    FnOk P wd K mg base CX0 (k + 1) f fd ps (spA2 K C pre) := by
  refine F.ok S (fun vs H G E ⟨u, a, dx, fs, vals, d, L, Q, e, _⟩ => by rw [e]; exact l.symm) (fun cdv A outer s0 H vs G E hr ⟨u, a, dx, fs, vals, d, L, Q, e, l2, R, hp, kk⟩ => ?_)
  subst e
  obtain ⟨t, h1, h2⟩ := hb cdv A outer s0 H E hr
  have drop : ∀ {H' : Hp} (A : List It) {B : List It}, Rp K H' (A ++ B) → Rp K H' B := fun {H'} A => by
    induction A with
    | nil => exact id
    | cons m A ih => exact fun R => ih R.tail
  have fin : ∀ {Γ' σ' H' s2 v r}, Γ'[1]? = some (.ob false (.ref a) C fs vals) → Q s2 r → Stt K Γ' σ' H' (.ow s2 v r :: L) → G v H' := fun {Γ' σ' H' s2 v r} h q S' => by
    obtain ⟨a', dx', M, e, l3, _, R2, _, _⟩ := S'.focusO h
    cases e
    have R2 : Rp K H' (.ob a (.ins C dx' (fvals fs vals)) :: (fits fs vals ++ (M ++ .ow s2 v r :: L))) := R2
    refine kk s2 r v dx' H' q (drop M (R2.perm ?_))
    refine List.Perm.trans ?_ (List.perm_middle.symm)
    refine List.Perm.trans (List.Perm.cons _ (?_ : (fits fs vals ++ (M ++ .ow s2 v r :: L)).Perm (.ow s2 v r :: (M ++ (fits fs vals ++ L))))) ?_
    · rw [← List.append_assoc, ← List.append_assoc]
      exact List.perm_middle.trans (List.Perm.cons _ (List.perm_append_comm.append_right L))
    · refine (List.Perm.swap _ _ _).trans (List.Perm.cons _ ?_)
      exact List.perm_middle.symm
  refine ⟨t, h1, h2 (.ref a) vals d fs Q l2 hp (start N [u, .ref a]) H L _ ⟨.ow .lf u d :: .ob a (.ins C dx (fvals fs vals)) :: (fits fs vals ++ []), ?_, ?_⟩ ⟨fun Γ' σ' H' ⟨h, q⟩ S' => fin h q (S'.flat .non rfl), fun s2 r Γ' σ' v H' ⟨h, q⟩ S' => fin h q S', fun _ _ _ q => q.elim, fun _ _ _ q => q.elim, fun _ _ => trivial⟩⟩
  · have u : EnvR (List.replicate (N.length - 2) Sl.un) (List.replicate (N.length - 2) none) [] := by
      have := EnvR.uns (Γ := []) (σ := []) (I := []) .nil (σ' := List.replicate (N.length - 2) none) (k := N.length - 2) (by rw [List.length_replicate])
      exact this
    exact .v (.ob (b := false) u l2)
  · rw [List.append_nil, List.cons_append, List.cons_append]; exact R
end
/-! ### boxes: instances, as the walk asks for them -/
class PutC (fs : Flds) (f : Str) (s : Own) (d : PyData) (fs' : outParam Flds) : Prop where
  pf : ∃ i s0 d0, FldC fs f i s0 d0 ∧ fs' = fs.set i (f, s, d)
class PutN (fs : Flds) (f : Str) (s : Own) (d : PyData) (fs' : outParam Flds) : Prop where
  pf : NoF fs f ∧ fs' = fs ++ [(f, s, d)]
section
variable {fs fs' : Flds} {f g : Str} {s s0 : Own} {d d0 : PyData} {x : Own × PyData}
instance (priority := 900) : PutC ((f, s0, d0) :: fs) f s d ((f, s, d) :: fs) := ⟨0, s0, d0, inferInstance, rfl⟩
instance (priority := 800) [h : PutC fs f s d fs'] [n : NeS g f] : PutC ((g, x) :: fs) f s d ((g, x) :: fs') := ⟨by
  obtain ⟨i, s0, d0, h1, rfl⟩ := h.pf
  exact ⟨i + 1, s0, d0, inferInstance, rfl⟩⟩
instance : PutN [] f s d [(f, s, d)] := ⟨inferInstance, rfl⟩
instance [h : PutN fs f s d fs'] [n : NeS g f] : PutN ((g, x) :: fs) f s d ((g, x) :: fs') := ⟨by
  obtain ⟨h1, rfl⟩ := h.pf
  exact ⟨inferInstance, rfl⟩⟩
end
section
variable {K : PySem.W.Frag} {Γ Γ1 : Ev} {σ : L2.St} {H H' : Hp} {L L' I : List It} {s s' s1 s0 : Own} {d d' d0 : PyData} {w v : V} {n i : Nat} {b : Bool} {C : Addr} {fs fs' : Flds} {vs : List V} {f g m : Str} {te ti tv : TE} {tr : TA} {QE : Own → PyData → Ev → Prop} {ds es : List PyData} {P : Po} {e : PyData}
theorem FldC.put (c : FldC fs f i s0 d0) (p : PutC fs f s d fs') : fs' = fs.set i (f, s, d) := by
  obtain ⟨j, s2, d2, h, rfl⟩ := p.pf
  have e : j = i := by
    rcases Nat.lt_trichotomy j i with l | l | l
    · exact absurd rfl (c.no j _ l h.at_)
    · exact l
    · exact absurd rfl (h.no i _ l c.at_)
  rw [e]
def PutB (fs : Flds) (f : Str) (s : Own) (d : PyData) (F : Flds → Prop) : Prop := ∃ fs', PutC fs f s d fs' ∧ F fs'
theorem PutB_i {F : Flds → Prop} (c : PutC fs f s d fs') (q : F fs') : PutB fs f s d F := ⟨fs', c, q⟩
def OwnAt (Γ : Ev) (n : Nat) (x : Sl) (F : Prop) : Prop := Γ[n]? = some x ∧ F
theorem OwnAt_i {x : Sl} {F : Prop} (h : Γ[n]? = some x) (q : F) : OwnAt Γ n x F := ⟨h, q⟩
theorem EW_fldI (h : Γ[n]? = some (.ob b w C fs vs)) (k : HasF K C f) (c : FldC fs f i .lf d) (q : QE .lf d Γ) : EW K (tFld K (tVar n) f) Γ QE := EW_fld h q
theorem EW_fldFI (h : Γ[n]? = some (.ob b w C fs vs)) (k : HasF K C f) (c : FldC fs f i s d) (p : PutC fs f .lf d fs') (q : QE .lf d (Γ.set n (.ob b w C fs' vs))) : EW K (tFld K (tVar n) f) Γ QE := EW_fldF (s := s) h (by rw [← c.put p]; exact q)
theorem EW_ixFI (h : Γ[n]? = some (.ob b w C fs vs)) (k : HasF K C f) (c : FldC fs f i (.li .lf) (.list ds)) (q : EW K ti Γ fun _ e Γ2 => OwnAt Γ2 n (.ob b w C fs vs) (IxB (.li .lf) (.list ds) e fun d' => QE .lf d' Γ2)) : EW K (tOp (rIxL K) (tFld K (tVar n) f) ti) Γ QE := EW_ixF h (q.mono fun _ e Γ2 ⟨h2, ds', j, d', e1, e2, h3, _, q⟩ => by
  cases e1
  exact ⟨h2, j, d', e2, h3, q⟩)
theorem EW_cbF {r : List V → Hp → VK → Prop} (h : Γ[n]? = some (.ob b w C fs vs)) (k : HasF K C f) (c : FldC fs f i s d) (q : CM K r d fun s2 d2 => QE s2 d2 Γ) : EW K (tCB r (tCons (tFld K (tVar n) f) tNil)) Γ QE := fun σ H L G S kk => by
  obtain ⟨v, M, rd, hv, R, put⟩ := S.focusF h (f := f)
  refine rd _ (q H _ G v s R mem_here fun s2 d2 u H' q3 R3 => kk _ _ _ _ _ q3 (Stt.keepF h (put _ _ _ _ R3.swq)))
/-- one that reads an attribute alone -/
theorem EW_opFW {r : R2} (h : Γ[n]? = some (.ob b w C fs vs)) (k : HasF K C f) (c : FldC fs f i (.li s1) d) (q : EW K te Γ fun s' e Γ2 => OwnAt Γ2 n (.ob b w C fs vs) (OM K r e d fun s2 d2 => QE s2 d2 Γ2)) : EW K (tOp r te (tFld K (tVar n) f)) Γ QE := fun σ H L G S kk => q σ H L _ S fun s' e Γ2 x H1 ⟨h2, om⟩ S1 => by
  obtain ⟨v, M, rd, hv, R, put⟩ := S1.focusF h2 (f := f)
  exact rd _ (om H1 _ G x v s' (.li s1) R (.tail _ (List.mem_append_right _ mem_here)) mem_here fun s2 d2 u H' q3 R3 => kk _ _ _ _ _ q3 (Stt.keepF h2 (put _ _ _ _ R3.swp)))
theorem EW_appFI (h : Γ[n]? = some (.ob b w C fs vs)) (k : HasF K C f) (c : FldC fs f i (.li s1) (.list ds)) (q : EW K te Γ fun s d Γ1 => OwnAt Γ1 n (.ob b w C fs vs) ((s = s1 ∨ s1 = .lf) ∧ ds.length < 100000 ∧ PutB fs f (.li s1) (.list (ds ++ [d])) fun fs' => QE .lf .none (Γ1.set n (.ob b w C fs' vs)))) :
    EW K (tBM K "list" rAppend (tFld K (tVar n) f) (tCons te tNil)) Γ QE := EW_appF h (q.mono fun s d Γ1 ⟨h1, h2, h3, fs', p, h4⟩ => ⟨h1, h2, h3, by rw [← c.put p]; exact h4⟩)
theorem GW_setFI {Q : Ev → Prop} (h : Γ[n]? = some (.ob b w C fs vs)) (k : HasF K C f) (c : FldC fs f i (.li s1) (.list ds)) (q : EW K ti Γ fun _ e Γ2 => ∃ j : Nat, e = .int (j : Int) ∧ OwnAt Γ2 n (.ob b w C fs vs) (j < ds.length ∧ (s = s1 ∨ s1 = .lf) ∧ PutB fs f (.li s1) (.list (ds.set j d)) fun fs' => Q (Γ2.set n (.ob b w C fs' vs)))) :
    GW K (gSub (tFld K (tVar n) f) ti rSetL) s d Γ Q := GW_setF h (q.mono fun _ e Γ2 ⟨j, e1, h1, h2, h3, fs', p, h4⟩ => ⟨j, e1, h1, h2, h3, by rw [← c.put p]; exact h4⟩)
theorem FldS_put {F : Ev → Prop} (h : Γ1[n]? = some (.ob false w C fs vs)) (k : HasF K C f) (c : PutC fs f s d fs') (l : fs.length < 1000) (q : ∀ vs', vs'.length = fs'.length → F (Γ1.set n (.ob false w C fs' vs'))) : FldS K Γ1 n f s d F := by
  obtain ⟨i, s0, d0, h1, rfl⟩ := c.pf
  exact FldS_set h l q
theorem FldS_putN {F : Ev → Prop} (h : Γ1[n]? = some (.ob false w C fs vs)) (k : HasF K C f) (c : PutN fs f s d fs') (l : fs.length < 1000) (q : ∀ vs', vs'.length = fs'.length → F (Γ1.set n (.ob false w C fs' vs'))) : FldS K Γ1 n f s d F := by
  obtain ⟨h1, rfl⟩ := c.pf
  exact FldS_new h l q
/-- an instance stands at a name -/
def ObB (Γ : Ev) (n : Nat) (w : V) (C : Addr) (F : Flds → List V → Prop) : Prop := ∃ fs vs, Γ[n]? = some (.ob false w C fs vs) ∧ F fs vs
theorem ObB_i {F : Flds → List V → Prop} (h : Γ[n]? = some (.ob false w C fs vs)) (q : F fs vs) : ObB Γ n w C F := ⟨fs, vs, h, q⟩
theorem EW_methI {pre : Flds → List PyData → (Own → PyData → Flds → Prop) → Prop} {E : XK} (h : Γ[n]? = some (.ob b w C fs vs)) (c : NoF fs m) (q : AW K tr Γ fun bs Γ1 => SndB bs fun ds => ObB Γ1 n w C fun fs _ => pre fs ds fun s2 r fs' => ∀ vs', vs'.length = fs'.length → QE s2 r (Γ1.set n (.ob false w C fs' vs'))) :
    EW K (tMeth C m (spO K C pre) [] E (tVar n) tr) Γ QE := fun σ H L G S k => by
  refine EW_meth h ?_ σ H L G S k
  intro σ2 H2 L2 G2 S2 k2
  exact q σ2 H2 L2 G2 S2 fun bs Γ1 us H3 ⟨_, fs1, vs1, h1, q1⟩ l S3 => k2 bs Γ1 us H3 ⟨fs1, vs1, h1, q1⟩ l S3
instance : St1 (SW K (sFld K (tVar n) tv f) Γ P) (EW K tv Γ fun s d Γ1 => FldS K Γ1 n f s d P.nx) := ⟨SW_fld⟩
end
instance : NeS "main_count" "number_rows" := ⟨by decide +kernel⟩
instance : NeS "main_count" "goal_row" := ⟨by decide +kernel⟩
instance : NeS "main_count" "stand_columns" := ⟨by decide +kernel⟩
instance : NeS "main_count" "unit_number" := ⟨by decide +kernel⟩
instance : NeS "main_count" "turned_row" := ⟨by decide +kernel⟩
instance : NeS "main_count" "turn_about" := ⟨by decide +kernel⟩
instance : NeS "main_count" "entering_column" := ⟨by decide +kernel⟩
instance : NeS "main_count" "leaving_row" := ⟨by decide +kernel⟩
instance : NeS "main_count" "lead_down" := ⟨by decide +kernel⟩
instance : NeS "main_count" "helping_row" := ⟨by decide +kernel⟩
instance : NeS "main_count" "aim_at" := ⟨by decide +kernel⟩
instance : NeS "main_count" "has_some" := ⟨by decide +kernel⟩
instance : NeS "main_count" "lead_to" := ⟨by decide +kernel⟩
instance : NeS "number_rows" "main_count" := ⟨by decide +kernel⟩
instance : NeS "number_rows" "goal_row" := ⟨by decide +kernel⟩
instance : NeS "number_rows" "stand_columns" := ⟨by decide +kernel⟩
instance : NeS "number_rows" "unit_number" := ⟨by decide +kernel⟩
instance : NeS "number_rows" "turned_row" := ⟨by decide +kernel⟩
instance : NeS "number_rows" "turn_about" := ⟨by decide +kernel⟩
instance : NeS "number_rows" "entering_column" := ⟨by decide +kernel⟩
instance : NeS "number_rows" "leaving_row" := ⟨by decide +kernel⟩
instance : NeS "number_rows" "lead_down" := ⟨by decide +kernel⟩
instance : NeS "number_rows" "helping_row" := ⟨by decide +kernel⟩
instance : NeS "number_rows" "aim_at" := ⟨by decide +kernel⟩
instance : NeS "number_rows" "has_some" := ⟨by decide +kernel⟩
instance : NeS "number_rows" "lead_to" := ⟨by decide +kernel⟩
instance : NeS "goal_row" "main_count" := ⟨by decide +kernel⟩
instance : NeS "goal_row" "number_rows" := ⟨by decide +kernel⟩
instance : NeS "goal_row" "stand_columns" := ⟨by decide +kernel⟩
instance : NeS "goal_row" "unit_number" := ⟨by decide +kernel⟩
instance : NeS "goal_row" "turned_row" := ⟨by decide +kernel⟩
instance : NeS "goal_row" "turn_about" := ⟨by decide +kernel⟩
instance : NeS "goal_row" "entering_column" := ⟨by decide +kernel⟩
instance : NeS "goal_row" "leaving_row" := ⟨by decide +kernel⟩
instance : NeS "goal_row" "lead_down" := ⟨by decide +kernel⟩
instance : NeS "goal_row" "helping_row" := ⟨by decide +kernel⟩
instance : NeS "goal_row" "aim_at" := ⟨by decide +kernel⟩
instance : NeS "goal_row" "has_some" := ⟨by decide +kernel⟩
instance : NeS "goal_row" "lead_to" := ⟨by decide +kernel⟩
instance : NeS "stand_columns" "main_count" := ⟨by decide +kernel⟩
instance : NeS "stand_columns" "number_rows" := ⟨by decide +kernel⟩
instance : NeS "stand_columns" "goal_row" := ⟨by decide +kernel⟩
instance : NeS "stand_columns" "unit_number" := ⟨by decide +kernel⟩
instance : NeS "stand_columns" "turned_row" := ⟨by decide +kernel⟩
instance : NeS "stand_columns" "turn_about" := ⟨by decide +kernel⟩
instance : NeS "stand_columns" "entering_column" := ⟨by decide +kernel⟩
instance : NeS "stand_columns" "leaving_row" := ⟨by decide +kernel⟩
instance : NeS "stand_columns" "lead_down" := ⟨by decide +kernel⟩
instance : NeS "stand_columns" "helping_row" := ⟨by decide +kernel⟩
instance : NeS "stand_columns" "aim_at" := ⟨by decide +kernel⟩
instance : NeS "stand_columns" "has_some" := ⟨by decide +kernel⟩
instance : NeS "stand_columns" "lead_to" := ⟨by decide +kernel⟩
instance : NeS "unit_number" "main_count" := ⟨by decide +kernel⟩
instance : NeS "unit_number" "number_rows" := ⟨by decide +kernel⟩
instance : NeS "unit_number" "goal_row" := ⟨by decide +kernel⟩
instance : NeS "unit_number" "stand_columns" := ⟨by decide +kernel⟩
instance : NeS "unit_number" "turned_row" := ⟨by decide +kernel⟩
instance : NeS "unit_number" "turn_about" := ⟨by decide +kernel⟩
instance : NeS "unit_number" "entering_column" := ⟨by decide +kernel⟩
instance : NeS "unit_number" "leaving_row" := ⟨by decide +kernel⟩
instance : NeS "unit_number" "lead_down" := ⟨by decide +kernel⟩
instance : NeS "unit_number" "helping_row" := ⟨by decide +kernel⟩
instance : NeS "unit_number" "aim_at" := ⟨by decide +kernel⟩
instance : NeS "unit_number" "has_some" := ⟨by decide +kernel⟩
instance : NeS "unit_number" "lead_to" := ⟨by decide +kernel⟩
/-- a board -/
abbrev bF (m : Int) (rows : List (List Int)) (og : Own) (goal : List Int) (st : List Int) (u : Int) : Flds := [("main_count", .lf, .int m), ("number_rows", .li .lf, LD rows), ("goal_row", og, IL goal), ("stand_columns", .li .lf, IL st), ("unit_number", .lf, .int u)]
example {m u : Int} {rows : List (List Int)} {og : Own} {goal st : List Int} : FldC (bF m rows og goal st u) "stand_columns" 3 (.li .lf) (IL st) := inferInstance
example {m u : Int} {rows : List (List Int)} {og : Own} {goal st : List Int} : NoF (bF m rows og goal st u) "lead_to" := inferInstance
example {m u : Int} {rows : List (List Int)} {og : Own} {goal st : List Int} : ∃ x, PutC (bF m rows og goal st u) "goal_row" .lf (IL []) x := ⟨_, inferInstance⟩
/-! ### boxes: iterators that hand over things of one's own -/
section
variable {K : PySem.W.Frag} {Γ Γ1 : Ev} {P : Po} {g : TG} {tt : TT} {te tb : TE} {tbd : L2.TS} {wi : L2.TI} {vs : List Nat} {n p q : Nat} {b : Sl} {s0 s1 s2 : Own} {d1 d2 : PyData} {ds es : List PyData} {QE : Own → PyData → Ev → Prop}
structure WalksA (K : PySem.W.Frag) (J : L2.It) (s : Own) (ds : List PyData) (A : Nat → List It) : Prop where
  stop : ∀ H M, Rp K H (A ds.length ++ M) → J.stop ds.length H
  go : ∀ i H M, i < ds.length → Rp K H (A i ++ M) → J.go i H
  yld : ∀ i d H v H' M, ds[i]? = some d → Rp K H (A i ++ M) → J.yld i H v H' → Rp K H' (.ow s v d :: (A (i + 1) ++ M))
  fin : ∀ H M, Rp K H (A ds.length ++ M) → Rp K H M
def IWA (K : PySem.W.Frag) (wi : L2.TI) (Γ : Ev) (Q : Own → List PyData → Ev → Prop) : Prop := ∀ (σ : L2.St) (H : Hp) (L : List It) (R : L2.It → Hp → Prop), Stt K Γ σ H L → (∀ s ds Γ' J A H', Q s ds Γ' → WalksA K J s ds A → Stt K Γ' σ H' (A 0 ++ L) → R J H') → wi σ H R
theorem Rp.dropLs : ∀ {A M : List It} {H : Hp}, Rp K H (A ++ M) → Rp K H M
  | [], _, _, R => R
  | _ :: A, _, _, R => Rp.dropLs (A := A) R.tail
def AL (a : Addr) (s : Own) (xs : List V) (ds : List PyData) (i : Nat) : List It := .top a xs :: each s (xs.drop i) (ds.drop i)
theorem walksA_list {a : Addr} {xs : List V} (l : xs.length = ds.length) : WalksA K (Itl K a) s0 ds (AL a s0 xs ds) where
  stop := fun H M R => ⟨xs, SqL.of (K := K) (Rp.topAt R), by omega⟩
  go := fun i H M hi R => ⟨xs, xs[i]'(by omega), SqL.of (K := K) (Rp.topAt R), List.getElem?_eq_getElem (by omega)⟩
  yld := fun i d H v H' M hd R hy => by
    obtain ⟨rfl, hy⟩ := hy
    have hi := (List.getElem?_eq_some_iff.mp hd).1
    have cx : i < xs.length := by omega
    have ev := hy xs (SqL.of (K := K) (Rp.topAt R))
    rw [List.getElem?_eq_getElem cx] at ev
    cases ev
    have ed : ds[i] = d := (List.getElem?_eq_some_iff.mp hd).2
    have exd : xs.drop i = xs[i] :: xs.drop (i + 1) := List.drop_eq_getElem_cons cx
    have edd : ds.drop i = d :: ds.drop (i + 1) := by rw [List.drop_eq_getElem_cons hi, ed]
    unfold AL at R ⊢
    rw [exd, edd] at R
    exact R.perm (.swap _ _ _)
  fin := fun H M R => Rp.dropLs R
def AZ (K : PySem.W.Frag) (a b : Addr) (s : Own) (xs ys : List V) (ds es : List PyData) (i : Nat) : List It := .top a xs :: .ps (Sv K b ys es) :: each s (xs.drop i) (ds.drop i)
theorem walksA_zip {a b : Addr} {xs ys : List V} (l : xs.length = ds.length) (l2 : ys.length = es.length) (le : ds.length ≤ es.length) : WalksA K (Itz K a b) (.t2 s0 .lf) (List.zipWith (fun x y => .tuple [x, y]) ds es) (AZ K a b s0 xs ys ds es) where
  stop := fun H M R => by
    have h1 := SqL.of (K := K) (Rp.topAt R)
    have h2 := (Rp.psAt (Rp.tail R)).1
    exact ⟨xs, ys, h1, SqL.of h2, by rw [List.length_zipWith]; omega⟩
  go := fun i H M hi R => by
    have h1 := SqL.of (K := K) (Rp.topAt R)
    have h2 := (Rp.psAt (Rp.tail R)).1
    rw [List.length_zipWith] at hi
    exact ⟨xs, ys, xs[i]'(by omega), ys[i]'(by omega), h1, SqL.of h2, List.getElem?_eq_getElem (by omega), List.getElem?_eq_getElem (by omega)⟩
  yld := fun i d H v H' M hd R hy => by
    obtain ⟨T, x, y, rfl, nT, rfl, hx, hy⟩ := hy
    have h1 := SqL.of (K := K) (Rp.topAt R)
    have h2 := (Rp.psAt (Rp.tail R)).1
    have hi := (List.getElem?_eq_some_iff.mp hd).1
    rw [List.length_zipWith] at hi
    have cx : i < xs.length := by omega
    have cd : i < ds.length := by omega
    have ce : i < es.length := by omega
    have ex := hx xs h1
    rw [List.getElem?_eq_getElem cx] at ex
    cases ex
    rw [List.getElem?_zipWith, List.getElem?_eq_getElem cd, List.getElem?_eq_getElem ce] at hd
    cases hd
    have exd : xs.drop i = xs[i] :: xs.drop (i + 1) := List.drop_eq_getElem_cons cx
    have edd : ds.drop i = ds[i] :: ds.drop (i + 1) := List.drop_eq_getElem_cons cd
    unfold AZ at R ⊢
    rw [exd, edd] at R
    have R1 : Rp K H (.top a xs :: .ps (Sv K b ys es) :: .ow s0 xs[i] ds[i] :: (each s0 (xs.drop (i + 1)) (ds.drop (i + 1)) ++ M)) := R
    have R2 := R1.svAt (.tail _ mem_here) (hy ys (SqL.of h2)) (List.getElem?_eq_getElem ce)
    have R3 : Rp K H (.ow s0 xs[i] ds[i] :: .ow .lf y es[i] :: .top a xs :: .ps (Sv K b ys es) :: (each s0 (xs.drop (i + 1)) (ds.drop (i + 1)) ++ M)) := R2.perm (List.perm_middle (l₁ := [It.ow .lf y es[i], .top a xs, .ps (Sv K b ys es)]))
    exact Rp.mk2 R3 nT
  fin := fun H M R => Rp.dropLs R
/-- a list of one's own is gone through, its things handed over -/
theorem IWA_list {QI : Own → List PyData → Ev → Prop} (h : Γ[n]? = some b) (hb : b.bx = some (.li s0, .list ds)) (q : QI s0 ds (Γ.set n .un)) : IWA K (iList K (tVar n)) Γ QI := fun σ H L R S k => by
  obtain ⟨w, M0, hw, R0, _, drop⟩ := S.focus h hb
  obtain ⟨a, xs, rfl, l, R1⟩ := R0.take
  have ea := R1.topAt
  have S1 : Stt K (Γ.set n .un) σ H (AL a s0 xs ds 0 ++ L) := drop H _ (R1.perm (by
    unfold AL
    rw [List.drop_zero, List.drop_zero]
    refine (List.Perm.cons _ ?_).trans List.perm_middle.symm
    exact List.perm_append_comm_assoc _ _ _))
  exact ⟨.ref a, hw, a, rfl, ⟨xs, SqL.of ea⟩, k s0 ds _ _ _ H q (walksA_list l) S1⟩
/-- zip of such a list and another -/
theorem IWA_zip {QI : Own → List PyData → Ev → Prop} (h : Γ[n]? = some b) (hb : b.bx = some (.li s0, .list ds)) (q : EW K tb (Γ.set n .un) fun _ e Γ1 => ∃ es, e = .list es ∧ ds.length ≤ es.length ∧ QI (.t2 s0 .lf) (List.zipWith (fun x y => .tuple [x, y]) ds es) Γ1) : IWA K (iZip K (tCons (tVar n) (tCons tb tNil))) Γ QI := fun σ H L R S k => by
  obtain ⟨w, M0, hw, R0, _, drop⟩ := S.focus h hb
  obtain ⟨a, xs, rfl, l, R1⟩ := R0.take
  have S1 : Stt K (Γ.set n .un) σ H (.top a xs :: (each s0 xs ds ++ L)) := drop H _ (R1.perm (by
    refine (List.Perm.cons _ ?_).trans List.perm_middle.symm
    exact List.perm_append_comm_assoc _ _ _))
  refine ⟨.ref a, hw, q σ H _ _ S1 fun s e Γ1 y H1 ⟨es, he, le, q1⟩ S2 => ?_⟩
  subst he
  obtain ⟨M, R2, back⟩ := S2.lift (A := [.ow s y (.list es), .top a xs])
  have R3 : Rp K H1 (.ow s y (.list es) :: .top a xs :: M) := R2
  have R4 := R3.fz
  obtain ⟨c, ys, rfl, l2, h2, R5⟩ := R4.sv mem_here
  have ea : H1 a = some (.lst xs) := (R3.tail).topAt
  have R6 : Rp K H1 ([.top a xs, .ps (Sv K c ys es)] ++ M) := R5.wk (.take (.there (.there .here)) (.take .here (.drop .refl)))
  have S3 := back H1 [.top a xs, .ps (Sv K c ys es)] R6
  exact ⟨a, c, xs, ys, rfl, SqL.of ea, SqL.of h2, k (.t2 s0 .lf) _ Γ1 _ _ H1 q1 (walksA_zip l l2 le) (by
    unfold AZ
    rw [List.drop_zero, List.drop_zero]
    exact S3)⟩
/-- a comprehension that takes them over -/
def LcA (K : PySem.W.Frag) (s0 : Own) (ds : List PyData) (g : TG) (tt : TT) (te : TE) (vs : List Nat) (Γ : Ev) (Q : Own → PyData → Ev → Prop) : Prop := ∃ (s : Own) (Pv : Nat → List PyData → Ev → Prop), Pv 0 [] (clr Γ vs) ∧ (∀ i d acc Γ', ds[i]? = some d → Pv i acc Γ' → GC K g s0 d Γ' vs fun Γ2 => TW K tt Γ2 fun b Γ3 => if b = true then EW K te Γ3 fun s2 d2 Γ4 => (s2 = s ∨ s = .lf) ∧ acc.length < 100000 ∧ Pv (i + 1) (acc ++ [d2]) (clr Γ4 vs) else Pv (i + 1) acc (clr Γ3 vs)) ∧ ∀ acc Γ', Pv ds.length acc Γ' → Q (.li s) (.list acc) Γ'
theorem EW_lcA (q : IWA K wi Γ fun s0 ds Γ1 => LcA K s0 ds g tt te vs Γ1 QE) : EW K (tLc wi g tt te vs) Γ QE := fun σ H L G S k => q σ H L _ S fun s0 ds Γ1 J A H1 ⟨s, Pv, h0, hs, hd⟩ wk S1 D nD => by
  have S2 : Stt K (clr Γ1 vs) (wipe σ vs) (upd H1 D (.lst [])) (.ow (.li s) (.ref D) (.list []) :: (A 0 ++ L)) := by
    obtain ⟨I, E, R⟩ := S1.clr vs
    exact ⟨I, E, (R.mkL0 s nD).dim⟩
  refine ⟨fun i m H => m = ds.length - i ∧ i ≤ ds.length ∧ ∃ acc Γ', Pv i acc Γ' ∧ Stt K Γ' (wipe σ vs) H (.ow (.li s) (.ref D) (.list acc) :: (A i ++ L)), ⟨_, rfl, Nat.zero_le _, [], _, h0, S2⟩, ?_⟩
  rintro i m H ⟨rfl, hi, acc, Γ', pv, S⟩
  have S' : Stt K Γ' (wipe σ vs) H (A i ++ (.ow (.li s) (.ref D) (.list acc) :: L)) := S.perm List.perm_middle.symm
  by_cases c : i < ds.length
  · have hx : ds[i]? = some ds[i] := List.getElem?_eq_getElem c
    obtain ⟨M, R, back⟩ := S'.lift (A := A i)
    refine .inr ⟨wk.go i H M c R, fun H' => ∃ acc Γ', Pv (i + 1) acc Γ' ∧ Stt K Γ' (wipe σ vs) H' (.ow (.li s) (.ref D) (.list acc) :: (A (i + 1) ++ L)), fun H' h => ⟨ds.length - (i + 1), by omega, rfl, c, h⟩, fun v H' hy => ?_⟩
    have S2 : Stt K Γ' (wipe σ vs) H' ((.ow s0 v ds[i] :: A (i + 1)) ++ (.ow (.li s) (.ref D) (.list acc) :: L)) := back H' (.ow s0 v ds[i] :: A (i + 1)) (wk.yld i _ H v H' M hx R hy)
    have S3 : Stt K Γ' (wipe σ vs) H' (.ow s0 v ds[i] :: .ow (.li s) (.ref D) (.list acc) :: (A (i + 1) ++ L)) := S2.perm (List.Perm.cons _ List.perm_middle)
    refine hs i _ acc Γ' hx pv (wipe σ vs) H' _ v _ S3 fun Γ2 σ2 H2 q2 hw S3 => ?_
    rw [wipe_wipe] at hw
    refine ⟨hw, q2 σ2 H2 _ _ S3 fun b Γ3 H3 q3 S4 => ?_⟩
    cases b with
    | false =>
      rw [if_neg (by decide)] at q3 ⊢
      have S5 := S4.clr vs
      rw [hw] at S5
      exact ⟨acc, _, q3, S5⟩
    | true =>
      rw [if_pos rfl] at q3 ⊢
      refine q3 σ2 H3 _ _ S4 fun s2 d2 Γ4 y H4 ⟨hs2, z, q4⟩ S5 => ?_
      have S5 : Stt K Γ4 σ2 H4 (.ow s y d2 :: .ow (.li s) (.ref D) (.list acc) :: (A (i + 1) ++ L)) := by
        rcases hs2 with rfl | rfl
        · exact S5
        · obtain ⟨I, E, R⟩ := S5
          exact ⟨I, E, Rp.dim R.mid.fz⟩
      obtain ⟨M, R, back⟩ := S5.lift (A := [.ow s y d2, .ow (.li s) (.ref D) (.list acc)])
      obtain ⟨ac, e1, l1, R2⟩ := Rp.app R
      have S6 := (back _ [.ow (.li s) (.ref D) (.list (acc ++ [d2]))] R2).clr vs
      rw [hw] at S6
      exact ⟨ac, e1, sz_lt (by rw [l1]; exact z), _, _, q4, S6⟩
  · have e : i = ds.length := by omega
    subst e
    obtain ⟨M, R, back⟩ := S'.lift (A := A ds.length)
    refine .inl ⟨wk.stop H M R, k _ _ _ _ _ (hd acc Γ' pv) ?_⟩
    have S7 : Stt K Γ' (wipe σ vs) H (.ow (.li s) (.ref D) (.list acc) :: L) := back H [] (wk.fin H M R)
    exact S7.unwipe
/-- filter and map, all handed over -/
theorem LcA_mf {α : Type} {xs : List α} {f : α → PyData} (s : Own) (pr : α → Bool) (r : α → PyData) (sz : xs.length ≤ 100000)
    (hs : ∀ x ∈ xs, GC K g s0 (f x) (clr Γ vs) vs fun Γ2 => TW K tt Γ2 fun b Γ3 => b = pr x ∧ if b = true then EW K te Γ3 fun s2 d2 Γ4 => (s2 = s ∨ s = .lf) ∧ d2 = r x ∧ clr Γ4 vs = clr Γ vs else clr Γ3 vs = clr Γ vs)
    (hd : QE (.li s) (.list ((xs.filter pr).map r)) (clr Γ vs)) : LcA K s0 (xs.map f) g tt te vs Γ QE := by
  refine ⟨s, fun i acc Γ' => acc = ((xs.take i).filter pr).map r ∧ Γ' = clr Γ vs, ⟨rfl, rfl⟩, ?_, ?_⟩
  · rintro i d acc Γ' hd0 ⟨rfl, rfl⟩
    rw [List.getElem?_map] at hd0
    obtain ⟨x, hx, rfl⟩ := Option.map_eq_some_iff.mp hd0
    clear hd0
    have hi := (List.getElem?_eq_some_iff.mp hx).1
    have ht : xs.take (i + 1) = xs.take i ++ [x] := by rw [List.take_add_one, hx]; rfl
    intro σ H L v G S k
    refine hs x (mem_of_at hx) σ H L v G S fun Γ2 σ' H' q hw S' => k Γ2 σ' H' ?_ hw S'
    intro σ1 H1 L1 G1 S1 k1
    refine q σ1 H1 L1 G1 S1 fun b Γ3 H3 ⟨e, q3⟩ S3 => k1 b Γ3 H3 ?_ S3
    subst e
    have l : (((xs.take i).filter pr).map r).length < 100000 := by
      rw [List.length_map]
      have h1 := List.length_filter_le pr (xs.take i)
      rw [List.length_take] at h1
      omega
    by_cases c : pr x = true
    · rw [if_pos c] at q3 ⊢
      refine q3.mono fun s2 d2 Γ4 ⟨h1, h2, h3⟩ => ⟨h1, l, ?_, h3⟩
      rw [h2, ht, List.filter_append, List.map_append, List.filter_cons_of_pos c]; rfl
    · rw [if_neg c] at q3 ⊢
      refine ⟨?_, q3⟩
      rw [ht, List.filter_append, List.filter_cons_of_neg c]
      simp
  · rintro acc Γ' ⟨rfl, rfl⟩
    rw [List.length_map, List.take_length]
    exact hd
theorem PoOk.dropsA {D : Ends} {A L : List It} (k : PoOk K P D L) : PoOk K P D (A ++ L) := ⟨fun Γ' σ' H' q S => k.nx _ _ _ q (S.wk (.dropA .refl)), fun s d Γ' σ' v H' q S => k.rt _ _ _ _ _ _ q (S.wk (.take .here (.dropA .refl))), fun Γ' σ' H' q S => k.bk _ _ _ q (S.wk (.dropA .refl)), fun Γ' σ' H' q S => k.ct _ _ _ q (S.wk (.dropA .refl)), fun H' R => k.er H' (Rp.dropLs R)⟩
/-- a for that takes them over -/
def ForA (K : PySem.W.Frag) (s0 : Own) (ds : List PyData) (g : TG) (tbd : L2.TS) (Γ : Ev) (P : Po) : Prop := ∃ Pv : Nat → Ev → Prop, Pv 0 Γ ∧ (∀ i d Γ', ds[i]? = some d → Pv i Γ' → GW K g s0 d Γ' fun Γ2 => SW K tbd Γ2 { P with nx := Pv (i + 1), ct := Pv (i + 1), bk := P.nx }) ∧ ∀ Γ', Pv ds.length Γ' → P.nx Γ'
theorem SW_forA (q : IWA K wi Γ fun s0 ds Γ1 => ForA K s0 ds g tbd Γ1 P) : SW K (tFor wi g tbd) Γ P := fun σ H L D S k => q σ H L _ S fun s0 ds Γ1 J A H1 ⟨Pv, h0, hs, hd⟩ wk S1 => by
  refine ⟨fun i m σ H => m = ds.length - i ∧ i ≤ ds.length ∧ ∃ Γ', Pv i Γ' ∧ Stt K Γ' σ H (A i ++ L), ⟨_, rfl, Nat.zero_le _, Γ1, h0, S1⟩, ?_⟩
  rintro i m σ H ⟨rfl, hi, Γ', pv, S⟩
  obtain ⟨M, R, back⟩ := S.lift (A := A i)
  by_cases c : i < ds.length
  · have hx : ds[i]? = some ds[i] := List.getElem?_eq_getElem c
    refine .inr ⟨wk.go i H M c R, fun σ' H' => ∃ Γ', Pv (i + 1) Γ' ∧ Stt K Γ' σ' H' (A (i + 1) ++ L), fun σ' H' h => ⟨ds.length - (i + 1), by omega, rfl, c, h⟩, fun v H' hy => ?_⟩
    have S2 : Stt K Γ' σ H' (.ow s0 v ds[i] :: (A (i + 1) ++ L)) := back H' (.ow s0 v ds[i] :: A (i + 1)) (wk.yld i _ H v H' M hx R hy)
    exact hs i _ Γ' hx pv σ H' (A (i + 1) ++ L) v _ S2 fun Γ2 σ2 H2 q2 S3 => q2 σ2 H2 (A (i + 1) ++ L) _ S3 ⟨fun Γ' σ' H' q S => ⟨Γ', q, S⟩, k.dropsA.rt, k.dropsA.nx, fun Γ' σ' H' q S => ⟨Γ', q, S⟩, k.dropsA.er⟩
  · have e : i = ds.length := by omega
    subst e
    exact .inl ⟨wk.stop H M R, k.nx _ _ _ (hd Γ' pv) (back H [] (wk.fin H M R))⟩
/-- a pair of one's own taken apart -/
theorem GW_t2 {QV : Ev → Prop} (k : QV ((Γ.set p (.v s1 d1)).set q (.v s2 d2))) : GW K (gTup K 2 (gCons (gName p) (gCons (gName q) gNil))) (.t2 s1 s2) (.tuple [d1, d2]) Γ QV := fun σ H L v G S kk => by
  obtain ⟨M, R, back⟩ := S.lift (A := [.ow (.t2 s1 s2) v (.tuple [d1, d2])])
  obtain ⟨t, x, y, rfl, R1⟩ := R.take2
  have st := R1.psAt
  have S1 : Stt K Γ σ H (.ow s1 x d1 :: .ow s2 y d2 :: L) := back H [.ow s1 x d1, .ow s2 y d2] R1.tail
  exact ⟨t, [x, y], rfl, st, rfl, _, _, rfl, _, _, rfl, rfl, kk _ _ _ k ((S1.bind p).bind q)⟩
theorem GC_t2 {QV : Ev → Prop} (hp : p ∈ vs) (hq : q ∈ vs) (k : QV ((Γ.set p (.v s1 d1)).set q (.v s2 d2))) : GC K (gTup K 2 (gCons (gName p) (gCons (gName q) gNil))) (.t2 s1 s2) (.tuple [d1, d2]) Γ vs QV := fun σ H L v G S kk => by
  obtain ⟨M, R, back⟩ := S.lift (A := [.ow (.t2 s1 s2) v (.tuple [d1, d2])])
  obtain ⟨t, x, y, rfl, R1⟩ := R.take2
  have st := R1.psAt
  have S1 : Stt K Γ σ H (.ow s1 x d1 :: .ow s2 y d2 :: L) := back H [.ow s1 x d1, .ow s2 y d2] R1.tail
  exact ⟨t, [x, y], rfl, st, rfl, _, _, rfl, _, _, rfl, rfl, kk _ _ _ k (by rw [wipe_set hq, wipe_set hp]) ((S1.bind p).bind q)⟩
end
/-! ### boxes: a thing of one's own put into a list, read once more for the next one put there -/
section
variable {K : PySem.W.Frag} {Γ : Ev} {P : Po} {t s : Nat} {s1 : Own} {ds : List PyData} {d D1 D2 : PyData} {e1 te2 : TE}
/-- xs.append((x, e1)); xs.append(e2), where e2 reads x -/
theorem SW_appTwo (ht : Γ[t]? = some (.v (.li (.t2 s1 .lf)) (.list ds))) (hs : Γ[s]? = some (.v s1 d)) (ne : t ≠ s) (l : ds.length < 99999)
    (q1 : EW K e1 (Γ.set t .un) fun sx dx Γ1 => sx = .lf ∧ dx = D1 ∧ Γ1 = Γ.set t .un)
    (q2 : EW K te2 (Γ.set t .un) fun sx dx Γ1 => sx = .t2 s1 .lf ∧ dx = D2 ∧ Γ1 = Γ.set t .un)
    (k : P.nx (((Γ.set t .un).set s .un).set t (.v (.li (.t2 s1 .lf)) (.list (ds ++ [.tuple [d, D1]] ++ [D2]))))) :
    SW K (tSeq (tDrop (tBM K "list" rAppend (tVar t) (tCons (tTup (tCons (tVar s) (tCons e1 tNil))) tNil))) (tDrop (tBM K "list" rAppend (tVar t) (tCons te2 tNil)))) Γ P := by
  intro σ H L D S k0
  obtain ⟨wt, M, hwt, R, _, drop⟩ := S.focus ht rfl
  obtain ⟨a, rfl, ty⟩ := list_tyV R
  obtain ⟨a', xs, ea, lx, R1⟩ := R.take
  cases ea
  have S1 : Stt K (Γ.set t .un) σ H (.top a xs :: (each (.t2 s1 .lf) xs ds ++ L)) := drop H _ (R1.perm (by
    refine (List.Perm.cons _ ?_).trans List.perm_middle.symm
    exact List.perm_append_comm_assoc _ _ _))
  have hs1 : (Γ.set t .un)[s]? = some (.v s1 d) := by rw [List.getElem?_set_ne ne]; exact hs
  obtain ⟨ws, _, hws, _, _, _⟩ := S1.focus hs1 rfl
  refine ⟨.ref a, hwt, ty, ⟨ws, hws, q1 σ H _ _ S1 fun sx dx Γ1 v1 H1 ⟨h1, h2, h3⟩ S2 => ?_⟩⟩
  subst h1 h2 h3
  refine ⟨sz_le (show 2 ≤ 100000 by decide), fun p np => ?_⟩
  obtain ⟨M2, R2, back2⟩ := S2.lift (A := [.ow .lf v1 dx, .top a xs])
  have R3 := R2.tup (xs := [ws, v1]) np
  have R4 : Rp K (upd H1 p (.tup [ws, v1])) (.top a xs :: .ps (fun H => SqT K H p [ws, v1]) :: .ow .lf v1 dx :: M2) := R3.perm (List.perm_middle (l₁ := [It.ps (fun H => SqT K H p [ws, v1]), .ow .lf v1 dx]))
  have R5 := R4.mut (ys := xs ++ [.ref p])
  refine ⟨a, xs, .ref p, rfl, rfl, R4.topAt, sz_lt (by rw [lx]; omega), ?_⟩
  have S3 : Stt K (Γ.set t .un) σ _ (.top a (xs ++ [.ref p]) :: .ps (fun H => SqT K H p [ws, v1]) :: .ow .lf v1 dx :: (each (.t2 s1 .lf) xs ds ++ L)) := back2 _ [.top a (xs ++ [.ref p]), .ps (fun H => SqT K H p [ws, v1]), .ow .lf v1 dx] R5
  refine ⟨.ref a, hwt, ty_l R5.topAt, q2 σ _ _ _ S3 fun sx dx2 Γ1 y H4 ⟨h1, h2, h3⟩ S4 => ?_⟩
  subst h1 h2 h3
  obtain ⟨ws', Ms, hws', R6, _, drop4⟩ := S4.focus hs1 rfl
  rw [hws] at hws'
  cases hws'
  have R7 : Rp K H4 (.ps (fun H => SqT K H p [ws, v1]) :: .ow s1 ws d :: .ow .lf v1 dx :: (.top a (xs ++ [.ref p]) :: (each (.t2 s1 .lf) xs ds ++ (.ow (.t2 s1 .lf) y dx2 :: (Ms ++ L))))) := R6.perm (by
    have e1 : (.ow s1 ws d :: (Ms ++ (.ow (.t2 s1 .lf) y dx2 :: .top a (xs ++ [.ref p]) :: .ps (fun H => SqT K H p [ws, v1]) :: .ow .lf v1 dx :: (each (.t2 s1 .lf) xs ds ++ L))) : List It).Perm (.ow s1 ws d :: (.ow (.t2 s1 .lf) y dx2 :: .top a (xs ++ [.ref p]) :: .ps (fun H => SqT K H p [ws, v1]) :: .ow .lf v1 dx :: (each (.t2 s1 .lf) xs ds ++ (Ms ++ L)))) := by
      refine List.Perm.cons _ ?_
      refine (List.perm_append_comm_assoc Ms [It.ow (.t2 s1 .lf) y dx2, .top a (xs ++ [.ref p]), .ps (fun H => SqT K H p [ws, v1]), .ow .lf v1 dx] _).trans ?_
      exact List.Perm.append_left _ (List.perm_append_comm_assoc _ _ _)
    refine e1.trans ?_
    have e2 : (.top a (xs ++ [.ref p]) :: (each (.t2 s1 .lf) xs ds ++ (.ow (.t2 s1 .lf) y dx2 :: (Ms ++ L))) : List It).Perm (.ow (.t2 s1 .lf) y dx2 :: .top a (xs ++ [.ref p]) :: (each (.t2 s1 .lf) xs ds ++ (Ms ++ L))) := (List.Perm.cons _ List.perm_middle).trans (.swap _ _ _)
    refine (List.Perm.trans ?_ ((e2.symm.cons _).cons _ |>.cons _))
    -- [A, Y, T, P, V] ~ [P, A, V, Y, T]
    have e3 : ∀ (A Y T P V : It) (r : List It), (A :: Y :: T :: P :: V :: r).Perm (P :: A :: V :: Y :: T :: r) := fun A Y T P V r => by
      refine (List.perm_middle (l₁ := [A, Y, T]) (a := P) (l₂ := V :: r)).trans (List.Perm.cons _ (List.Perm.cons _ ?_))
      exact List.perm_middle (l₁ := [Y, T]) (a := V) (l₂ := r)
    exact e3 _ _ _ _ _ _)
  have R8 := R7.put2
  have R9 : Rp K H4 (.top a (xs ++ [.ref p]) :: (each (.t2 s1 .lf) (xs ++ [.ref p]) (ds ++ [.tuple [d, dx]]) ++ (.ow (.t2 s1 .lf) y dx2 :: (Ms ++ L)))) := R8.perm (by
    rw [each_snoc lx, List.append_assoc]
    refine (List.Perm.swap _ _ _).trans (List.Perm.cons _ ?_)
    exact List.perm_middle.symm)
  have R10 := R9.put (by rw [List.length_append, List.length_append, lx]; rfl)
  have R11 : Rp K H4 (.ow (.t2 s1 .lf) y dx2 :: .ow (.li (.t2 s1 .lf)) (.ref a) (.list (ds ++ [.tuple [d, dx]])) :: (Ms ++ L)) := R10.flip
  obtain ⟨acc, ea, la, R12⟩ := Rp.app R11
  refine ⟨a, acc, y, rfl, rfl, ea, sz_lt (by rw [la, List.length_append]; show ds.length + 1 < _; omega), k0.nx _ _ _ k ?_⟩
  have S5 : Stt K ((Γ.set t .un).set s .un) σ _ (.ow (.li (.t2 s1 .lf)) (.ref a) (.list (ds ++ [.tuple [d, dx]] ++ [dx2])) :: L) := drop4 _ (.ow (.li (.t2 s1 .lf)) (.ref a) (.list (ds ++ [.tuple [d, dx]] ++ [dx2])) :: L) R12.dim
  have S6 := S5.bind t
  rw [set_self hwt] at S6
  exact S6
/-- what a call tells is gone through, its things handed over -/
theorem IWA_E {te : TE} {QI : Own → List PyData → Ev → Prop} (q : EW K te Γ fun sx dx Γ1 => ∃ s0 ds, sx = .li s0 ∧ dx = .list ds ∧ QI s0 ds Γ1) : IWA K (iList K te) Γ QI := fun σ H L R S k => q σ H L _ S fun sx dx Γ1 v H1 ⟨s0, ds, e1, e2, q1⟩ S1 => by
  subst e1 e2
  obtain ⟨M, R0, back⟩ := S1.lift (A := [.ow (.li s0) v (.list ds)])
  obtain ⟨a, xs, rfl, l, R1⟩ := R0.take
  have ea := R1.topAt
  exact ⟨a, rfl, ⟨xs, SqL.of ea⟩, k s0 ds Γ1 _ _ H1 q1 (walksA_list l) (back H1 (AL a s0 xs ds 0) (by
    unfold AL
    rw [List.drop_zero, List.drop_zero]
    exact R1))⟩
/-- sorted of a list of things of one's own, just made -/
theorem CW_sortO {QC : Own → PyData → Prop} (hal : PySem.W.AllAlike ds) (hs : PySem.W.Sortable ds) (hd : ∀ d ∈ ds, d.depth ≤ 50) (k : ∀ ds', ds'.Perm ds → ds'.Pairwise (fun a b => PySem.W.dataLe false id a b = true) → QC (.li s1) (.list ds')) : CW K (rSortedD K) [(.li s1, .list ds)] QC := fun H L G vs l R kk => by
  match vs, l with
  | [x], _ =>
  have R : Rp K H (.ow (.li s1) x (.list ds) :: L) := R
  obtain ⟨a, xs, rfl, lx, R1⟩ := R.take
  have ea := R1.topAt
  have R2 : Rp K H (each s1 xs ds ++ L) := R1.tail
  refine ⟨a, xs, ds, rfl, SqL.of ea, Rp.eachDp lx R2, hal, hs, hd, fun p np => ?_⟩
  have R3 : Rp K (upd H p (.lst ((sortD xs ds).map Prod.fst))) (.ow (.li s1) (.ref p) (.list ((sortD xs ds).map Prod.snd)) :: L) := Rp.mkL (R2.perm ((each_sort lx).append_right _)) (by rw [List.length_map, List.length_map]) np
  exact kk _ _ _ _ (k _ (sortD_dperm lx) (sortD_pair xs ds)) R3
end
local macro_rules | `(tactic| walk_at "sq") => `(tactic| first
  | with_reducible assumption
  | (with_reducible refine Rp.fr (by assumption) ?_; walk_at "mem")
  | exact fr_one_at | exact fr_zero_at | exact fr_neg_at | exact fr_int_at | exact sqT_at | exact sqL_at
  | (refine' sqT_new ?e ?h; (case e => assumption); (case h => walk_at "sq"))
  | (refine' sqT_mut ?e ?h; (case e => assumption); (case h => walk_at "sq"))
  | (refine' sqT_same ?e ?h; (case e => assumption); (case h => walk_at "sq"))
  | (refine' sqT_but ?e ?e2 ?h; (case e => assumption); (case e2 => assumption); (case h => walk_at "sq"))
  | (refine' sqL_new ?e ?h; (case e => assumption); (case h => walk_at "sq"))
  | (refine' sqL_same ?e ?h; (case e => assumption); (case h => walk_at "sq")) | fail)
local macro_rules | `(tactic| walk_at "same") => `(tactic| first
  | assumption
  | exact Same.refl _
  | (refine Same.trans ?_ (same_new (by assumption)); walk_at "same")
  | (refine Same.trans ?_ (by assumption); walk_at "same") | fail)
local macro_rules | `(tactic| walk_at "k") => `(tactic| try dsimp only [L2.cxOf, L2.Cx.nox])
local macro_rules | `(tactic| walk_at "step") => `(tactic| first
  | with_reducible refine St1.pf ?_
  | (with_reducible refine' g_var ?h ?q; (case h => with_unfolding_all rfl))
  | (with_reducible refine' g_ixT ?h ?a ?q; (case h => walk_at "sq"); (case a => with_unfolding_all rfl))
  | (with_reducible refine' g_mod ?h ?q; (case h => first | assumption | omega | decide))
  | (with_reducible refine' g_powE ?h ?a ?q; (case h => exact cpow_ok (by decide)); (case a => simp only [Int.reduceToNat, Int.reducePow]; rfl))
  | (with_reducible refine' g_isiT ?h ?q; (case h => walk_at "sq"))
  | (with_reducible refine' g_lenT ?h ?q; (case h => walk_at "sq"))
  | (with_reducible refine' g_aug ?h ?q; (case h => with_unfolding_all rfl))
  | (with_reducible refine' g_eq ?h ?q; (case h => rfl)) | (with_reducible refine' g_ne ?h ?q; (case h => rfl)))
local macro_rules | `(tactic| walk_at "go") => `(tactic| repeat (walk_at "step"))
local macro_rules | `(tactic| walk_at "bd") => `(tactic| (with_reducible refine g_mul ?c ?_; (case c => first | exact mulW 4000 4000 (Bd.num (by assumption)) (Bd.de (by assumption)) | exact mulW 4000 4000 (Bd.num (by assumption)) (Bd.num (by assumption)) | exact mulW 4000 4000 (Bd.de (by assumption)) (Bd.de (by assumption)) | exact mulW 4000 4000 (Bd.de (by assumption)) (Bd.num (by assumption)))))
local macro_rules | `(tactic| walk_at "gob") => `(tactic| repeat (first | walk_at "step" | walk_at "bd"))
local macro_rules | `(tactic| walk_at "sq") => `(tactic| first | (refine' sqT_pool ?b ?e ?h; (case b => assumption); (case e => assumption); (case h => walk_at "sq")) | fail)
local macro_rules | `(tactic| walk_at "pool") => `(tactic| first | assumption | (refine Pool.new ?h ?e; (case e => assumption); (case h => walk_at "pool")) | (refine Pool.same ?h ?e; (case e => assumption); (case h => walk_at "pool")) | fail)
local macro_rules | `(tactic| walk_at "but") => `(tactic| first | assumption | exact But.refl _ _ | (refine But.newp ?h ?e; (case e => assumption); (case h => walk_at "but")) | (refine But.trans ?h ?e; (case e => first | assumption | exact But.same (by assumption)); (case h => walk_at "but")) | fail)
local macro_rules | `(tactic| walk_at "bds") => `(tactic| first
  | assumption
  | exact Bd_zero (n := 1) (by decide) | exact Bd_one | exact Bd_int (by walk_at "ibs")
  | (refine' Bd_add ?a ?b; (case a => walk_at "bds"); (case b => walk_at "bds"))
  | (refine' Bd_sub ?a ?b; (case a => walk_at "bds"); (case b => walk_at "bds"))
  | (refine' Bd_mul ?a ?b; (case a => walk_at "bds"); (case b => walk_at "bds"))
  | (refine' Bd_div ?a ?b ?c; (case a => walk_at "bds"); (case b => walk_at "bds"); (case c => first | assumption | grind | fail))
  | fail)
local macro_rules | `(tactic| walk_at "ibs") => `(tactic| first
  | assumption
  | exact IB.num (by assumption)
  | exact IB.den (by assumption)
  | (refine' IB.mul ?a ?b; (case a => walk_at "ibs"); (case b => walk_at "ibs"))
  | (refine' IB.add ?a ?b; (case a => walk_at "ibs"); (case b => walk_at "ibs"))
  | (refine' IB.sub ?a ?b; (case a => walk_at "ibs"); (case b => walk_at "ibs"))
  | exact IB.lit
  | fail)
local macro_rules | `(tactic| walk_at "deed") => `(tactic| first
  | (with_reducible refine' g_plus ?hx ?hy ?bx ?bu ?q; (case hx => walk_at "sq"); (case hy => walk_at "sq"); (case bx => exact Bd.mono (by walk_at "bds") (by decide)); (case bu => exact Bd.mono (by walk_at "bds") (by decide)); intro p np)
  | (with_reducible refine' g_minus ?hx ?hy ?bx ?bu ?q; (case hx => walk_at "sq"); (case hy => walk_at "sq"); (case bx => exact Bd.mono (by walk_at "bds") (by decide)); (case bu => exact Bd.mono (by walk_at "bds") (by decide)); intro p np)
  | (with_reducible refine' g_times ?hx ?hy ?bx ?bu ?q; (case hx => walk_at "sq"); (case hy => walk_at "sq"); (case bx => exact Bd.mono (by walk_at "bds") (by decide)); (case bu => exact Bd.mono (by walk_at "bds") (by decide)); intro p np)
  | (with_reducible refine' g_divided ?hx ?hy ?bx ?bu ?h0 ?q; (case hx => walk_at "sq"); (case hy => walk_at "sq"); (case bx => exact Bd.mono (by walk_at "bds") (by decide)); (case bu => exact Bd.mono (by walk_at "bds") (by decide)); (case h0 => first | assumption | exact den_cast _ | grind | fail); intro p np)
  | (with_reducible refine' g_below ?hx ?hy ?bx ?bu ?q; (case hx => walk_at "sq"); (case hy => walk_at "sq"); (case bx => exact Bd.mono (by walk_at "bds") (by decide)); (case bu => exact Bd.mono (by walk_at "bds") (by decide)))
  | (with_reducible refine' g_neF ?hx ?hy ?q; (case hx => walk_at "sq"); (case hy => walk_at "sq"))
  | (with_reducible refine' g_eqF ?hx ?hy ?q; (case hx => walk_at "sq"); (case hy => walk_at "sq"))
  | (with_reducible refine' g_mul ?h ?q; (case h => exact IB.mulW (by walk_at "ibs") (by walk_at "ibs") (by decide)))
  | (with_reducible refine' g_frac ?h0 ?h ?q; (case h0 => walk_at "nz"); (case h => exact IB.mono (by walk_at "ibs") (by decide)); intro p np)
  | fail)
local macro_rules | `(tactic| walk_at "nz") => `(tactic| first | assumption | exact den_ne _ | exact num_ne (by assumption) | exact neg_ne (den_ne _) | (refine Int.mul_ne_zero ?a ?b; (case a => walk_at "nz"); (case b => walk_at "nz")) | fail)
local macro_rules | `(tactic| walk_at "rat") => `(tactic| (simp only [Rat.divInt_eq_div, Rat.intCast_add, Rat.intCast_sub, Rat.intCast_mul, Rat.intCast_zero, Rat.intCast_one, num_cast]; grind [den_cast]))
local macro_rules | `(tactic| walk_at "known") => `(tactic| first | walk_at "rat" | grind | fail)
local macro_rules | `(tactic| walk_at "god") => `(tactic| repeat (first | walk_at "step" | walk_at "deed" | (with_reducible refine And.intro two_le ?_; intro p np) | with_reducible refine ifN_known (by walk_at "known") ?_ | with_reducible refine ifY_known (by walk_at "known") ?_ | fail))
local macro_rules | `(tactic| walk_at "goe") => `(tactic| repeat (first | walk_at "step" | walk_at "deed" | (with_reducible refine And.intro two_le ?_; intro p np) | with_reducible refine ifN_known (by grind) ?_ | with_reducible refine ifY_known (by grind) ?_ | with_reducible refine ifY_no (by grind) ?_ | with_reducible refine ifN_no (by grind) ?_ | fail))
local macro_rules | `(tactic| walk_at "mem") => `(tactic| (repeat (first | exact List.mem_cons_self | with_reducible refine List.mem_cons_of_mem _ ?_ | with_reducible refine List.mem_append_right _ ?_)); done)
local macro_rules | `(tactic| walk_at "sel") => `(tactic| (repeat (first | exact Sel.here | with_reducible apply Sel.there | with_reducible apply Sel.app)); done)
local macro_rules | `(tactic| walk_at "wk0") => `(tactic| (repeat (first
  | with_reducible exact Wk.refl
  | with_reducible exact Wk.nil
  | refine Wk.dup (L1 := _) (by walk_at "sel") ?_
  | refine Wk.dupP (L1 := _) (by walk_at "sel") ?_
  | refine Wk.take (L1 := _) (by walk_at "sel") ?_
  | refine Wk.drop ?_
  | refine Wk.dropA ?_)); done)
local macro_rules | `(tactic| walk_at "wk1") => `(tactic| first | exact WkC.pf | walk_at "wk0")
local macro_rules | `(tactic| walk_at "wk") => `(tactic| exact Rp.wk (by assumption) (by walk_at "wk1"))
local macro_rules | `(tactic| walk_at "stepR") => `(tactic| first
  | walk_at "step"
  | (with_reducible refine' g_lenS ?R ?m ?q; (case R => assumption); (case m => walk_at "mem"))
  | (with_reducible refine' g_lenTS ?R ?m ?q; (case R => assumption); (case m => walk_at "mem"))
  | (with_reducible refine' g_inR ?R ?m ?q; (case R => assumption); (case m => walk_at "mem"))
  | (with_reducible refine' g_niR ?R ?m ?q; (case R => assumption); (case m => walk_at "mem"))
  | (with_reducible refine' g_isiLR ?R ?m ?q; (case R => assumption); (case m => walk_at "mem"))
  | (with_reducible refine' g_isiTR ?R ?m ?q; (case R => assumption); (case m => walk_at "mem"))
  | (with_reducible refine' g_isiLTR ?R ?m ?q; (case R => assumption); (case m => walk_at "mem"))
  | (with_reducible refine' g_isiTLR ?R ?m ?q; (case R => assumption); (case m => walk_at "mem"))
  | (with_reducible refine' g_eqFR ?R ?m ?m2 ?q; (case R => assumption); (case m => walk_at "mem"); (case m2 => walk_at "mem"))
  | (with_reducible refine' g_neFR ?R ?m ?m2 ?q; (case R => assumption); (case m => walk_at "mem"); (case m2 => walk_at "mem"))
  | (with_reducible refine' g_eqNI ?R ?m ?m2 ?q; (case R => assumption); (case m => walk_at "mem"); (case m2 => walk_at "mem"))
  | (with_reducible refine' g_neNI ?R ?m ?m2 ?q; (case R => assumption); (case m => walk_at "mem"); (case m2 => walk_at "mem"))
  | (with_reducible refine' g_gTup ?h ?l ?q; (case h => walk_at "sq"); (case l => with_unfolding_all rfl))
  | (refine' tBMq ?h ?q; (case h => refine' tyLR ?R ?m; (case R => assumption); (case m => walk_at "mem")))
  | fail)
local macro_rules | `(tactic| walk_at "goR") => `(tactic| repeat (walk_at "stepR"))
local macro_rules | `(tactic| walk_at "dtake") => `(tactic| (refine' g_dtakeR ?R ?h ?a ?b ?q; (case R => assumption); (case h => walk_at "sel"); (case a => first | decide | omega); (case b => first | decide | omega)))
local macro_rules | `(tactic| walk_at "take") => `(tactic| (refine' g_takeR ?R ?h ?n ?a ?b ?q; (case R => assumption); (case h => walk_at "sel"); (case n => first | decide | omega); (case a => first | decide | omega); (case b => first | decide | omega)))
local macro_rules | `(tactic| walk_at "side") => `(tactic| first | exact True.intro | omega | assumption | (simp only [List.length_map, List.length_append, List.length_cons, List.length_nil, List.length_range, rowG_len, tabG_len, List.length_take, List.length_drop] at *; omega) | fail)
local macro_rules | `(tactic| walk_at "W") => `(tactic| first
  | (with_reducible refine' EW_callSB ?h ?q; (case h => with_unfolding_all rfl))
  | (with_reducible refine' EW_lenScr ?h ?q; (case h => with_unfolding_all rfl))
  | (with_reducible refine' EW_ixScrB ?h ?q; (case h => with_unfolding_all rfl))
  | (with_reducible refine' SameS_i ?h ?q; (case h => with_unfolding_all rfl))
  | (with_reducible refine' IxSB_i ?h ?c ?q; (case h => with_unfolding_all rfl); (case c => walk_at "side"))
  | (with_reducible refine' EW_listO ?h ?hb ?q; (case h => with_unfolding_all rfl); (case hb => with_unfolding_all rfl))
  | (with_reducible refine' EW_ix2B ?h ?hb ?q; (case h => with_unfolding_all rfl); (case hb => with_unfolding_all rfl))
  | with_reducible refine St1.pf ?_
  | (with_reducible refine' EW_var ?h ?hb ?q; (case h => with_unfolding_all rfl); (case hb => with_unfolding_all rfl))
  | (with_reducible refine' AtB_i ?h ?hb ?q; (case h => with_unfolding_all rfl); (case hb => with_unfolding_all rfl))
  | (with_reducible refine' IxB_c ?hc ?hs ?q; (case hc => walk_at "side"); (case hs => first | exact .inl rfl | exact .inr rfl))
  | (with_reducible refine' IxB_r ?h ?hs ?q; (case h => with_unfolding_all rfl); (case hs => first | exact .inl rfl | exact .inr rfl))
  | (with_reducible refine' IxTB_r ?h ?q; (case h => with_unfolding_all rfl))
  | (with_reducible refine' IxTB_c ?hc ?q; (case hc => walk_at "side"))
  | (with_reducible refine' IxA_cL ?hc ?q; (case hc => walk_at "side"))
  | (with_reducible refine' IxA_cT ?hc ?q; (case hc => walk_at "side"))
  | (with_reducible refine' AppB_c ?h ?hb ?c ?hs ?z ?q; (case h => with_unfolding_all rfl); (case hb => with_unfolding_all rfl); (case c => exact inferInstance); (case hs => first | exact .inl rfl | exact .inr rfl); (case z => walk_at "side"))
  | (with_reducible refine' ExtB_c ?h ?hb ?c ?hs ?z ?q; (case h => with_unfolding_all rfl); (case hb => with_unfolding_all rfl); (case c => exact inferInstance); (case hs => first | exact .inl rfl | exact .inr rfl); (case z => walk_at "side"))
  | (with_reducible refine' Rg1C_n ?h ?q; (case h => walk_at "side"))
  | (with_reducible refine' Rg1C_s ?h ?q; (case h => walk_at "side"))
  | (with_reducible refine' Rg1C_i ?h ?q; (case h => walk_at "side"))
  | (with_reducible refine' Rg3C_i ?h ?q; (case h => walk_at "side"))
  | (with_reducible refine' Rg2C_1 ?h ?q; (case h => walk_at "side"))
  | (with_reducible refine' Rg2C_n ?h1 ?h ?q; (case h1 => walk_at "side"); (case h => walk_at "side"))
  | (with_reducible refine' Rg2C_i ?h ?q; (case h => walk_at "side"))
  | (with_reducible refine' OW_catC ?z ?q; (case z => walk_at "side"))
  | (with_reducible refine' OW_catAC ?z ?q; (case z => walk_at "side"))
  | (with_reducible refine' NoLB_i ?h ?q; (case h => with_unfolding_all rfl))
  | (with_reducible refine' OW_repC ?h1 ?z ?q; (case h1 => walk_at "side"); (case z => walk_at "side"))
  | (with_reducible refine' OW_div ?c ?q; (case c => exact wide_div (b := 200) (by decide) (by decide +kernel) (by decide) (by decide)))
  | (with_reducible refine' GW_set2T ?h ?hb ?p1 ?p2 ?h1 ?h2 ?q; (case h => with_unfolding_all rfl); (case hb => with_unfolding_all rfl); (case p1 => walk_at "pu"); (case p2 => walk_at "pu"); (case h1 => walk_at "side"); (case h2 => walk_at "side"))
  | (with_reducible refine' GW_setR ?h ?hb ?p1 ?h1 ?q; (case h => with_unfolding_all rfl); (case hb => with_unfolding_all rfl); (case p1 => walk_at "pu"); (case h1 => walk_at "side"))
  | (with_reducible refine' OW_mod ?h ?q; (case h => first | assumption | omega | decide))
  | (with_reducible refine' OW_pow ?h ?a ?q; (case h => exact cpow_ok (by decide)); (case a => simp only [Int.reduceToNat, Int.reducePow]; rfl))
  | (with_reducible refine' EW_glF ?h ?q; (case h => assumption))
  | fail)
local macro_rules | `(tactic| walk_at "goW") => `(tactic| repeat (walk_at "W"))
local macro_rules | `(tactic| walk_at "goK") => `(tactic| (walk_at "k"; walk_at "goW"))
local macro_rules | `(tactic| walk_at "pu") => `(tactic| first | exact Pu_c | (refine' Pu_var ?h ?hb; (case h => with_unfolding_all rfl); (case hb => with_unfolding_all rfl)) | (refine' Pu_op ?a ?b; (case a => walk_at "pu"); (case b => walk_at "pu")) | fail)
local macro_rules | `(tactic| walk_at "fz") => `(tactic| (with_reducible refine' EW_fz ?h ?hb ?q; (case h => with_unfolding_all rfl); (case hb => with_unfolding_all rfl)))
local macro_rules | `(tactic| walk_at "goF") => `(tactic| repeat (first | walk_at "W" | walk_at "fz"))
local macro_rules | `(tactic| walk_at "goKF") => `(tactic| (walk_at "k"; walk_at "goF"))
local macro_rules | `(tactic| walk_at "goZ") => `(tactic| repeat (first | with_reducible refine TupB_f ?_ | with_reducible refine LstB_f ?_ | walk_at "W" | walk_at "fz"))
/-! ### the text -/
def topS (i : Nat) : Stmt := PySem.Challenge.pw_farcuts_k20_trees_of_drawn_cuts.main.body.getD i (.Pass ⟨0, 0, 0, 0⟩)
abbrev s_common_of : Stmt := topS 4
abbrev N_common_of : List Str := ["one", "other"]
abbrev P_common_of : List Str := ["one", "other"]
theorem sc_common_of : FnScope N_common_of P_common_of (defScope s_common_of) := ⟨rfl, rfl, rfl, by decide +kernel, rfl, by decide +kernel, by decide +kernel⟩
abbrev s_fraction : Stmt := topS 5
abbrev N_fraction : List Str := ["top", "bottom", "by"]
abbrev P_fraction : List Str := ["top", "bottom"]
theorem sc_fraction : FnScope N_fraction P_fraction (defScope s_fraction) := ⟨rfl, rfl, rfl, by decide +kernel, rfl, by decide +kernel, by decide +kernel⟩
abbrev s_plus : Stmt := topS 6
abbrev N_plus : List Str := ["q", "r"]
abbrev P_plus : List Str := ["q", "r"]
theorem sc_plus : FnScope N_plus P_plus (defScope s_plus) := ⟨rfl, rfl, rfl, by decide +kernel, rfl, by decide +kernel, by decide +kernel⟩
abbrev s_is_below : Stmt := topS 7
abbrev N_is_below : List Str := ["q", "r"]
abbrev P_is_below : List Str := ["q", "r"]
theorem sc_is_below : FnScope N_is_below P_is_below (defScope s_is_below) := ⟨rfl, rfl, rfl, by decide +kernel, rfl, by decide +kernel, by decide +kernel⟩
abbrev s_first_short : Stmt := topS 9
abbrev N_first_short : List Str := ["table", "many", "i", "j", "k"]
abbrev P_first_short : List Str := ["table"]
theorem sc_first_short : FnScope N_first_short P_first_short (defScope s_first_short) := ⟨rfl, rfl, rfl, by decide +kernel, rfl, by decide +kernel, by decide +kernel⟩
abbrev s_whole_rows : Stmt := topS 11
abbrev N_whole_rows : List Str := ["table", "bottom", "row", "top", "low"]
abbrev P_whole_rows : List Str := ["table"]
theorem sc_whole_rows : FnScope N_whole_rows P_whole_rows (defScope s_whole_rows) := ⟨rfl, rfl, rfl, by decide +kernel, rfl, by decide +kernel, by decide +kernel⟩
abbrev s_three_sums : Stmt := topS 12
abbrev N_three_sums : List Str := ["rows", "i", "j", "k", "l"]
abbrev P_three_sums : List Str := ["rows", "i", "j", "k", "l"]
theorem sc_three_sums : FnScope N_three_sums P_three_sums (defScope s_three_sums) := ⟨rfl, rfl, rfl, by decide +kernel, rfl, by decide +kernel, by decide +kernel⟩
abbrev s_first_odd_four : Stmt := topS 13
abbrev N_first_odd_four : List Str := ["rows", "many", "i", "j", "k", "l", "least", "middle", "most"]
abbrev P_first_odd_four : List Str := ["rows"]
theorem sc_first_odd_four : FnScope N_first_odd_four P_first_odd_four (defScope s_first_odd_four) := ⟨rfl, rfl, rfl, by decide +kernel, rfl, by decide +kernel, by decide +kernel⟩
abbrev s_least_between : Stmt := topS 14
abbrev N_least_between : List Str := ["rows", "a", "ones", "others", "found", "b", "c", "e"]
abbrev P_least_between : List Str := ["rows", "a", "ones", "others"]
theorem sc_least_between : FnScope N_least_between P_least_between (defScope s_least_between) := ⟨rfl, rfl, rfl, by decide +kernel, rfl, by decide +kernel, by decide +kernel⟩
abbrev s_parts_with : Stmt := topS 15
abbrev N_parts_with : List Str := ["rows", "point", "side", "rest", "other"]
abbrev P_parts_with : List Str := ["rows", "point", "side"]
theorem sc_parts_with : FnScope N_parts_with P_parts_with (defScope s_parts_with) := ⟨rfl, rfl, rfl, by decide +kernel, rfl, by decide +kernel, by decide +kernel⟩
abbrev s_tree_sides : Stmt := topS 16
abbrev N_tree_sides : List Str := ["rows", "sides", "point", "tried", "side", "twice"]
abbrev P_tree_sides : List Str := ["rows"]
theorem sc_tree_sides : FnScope N_tree_sides P_tree_sides (defScope s_tree_sides) := ⟨rfl, rfl, rfl, by decide +kernel, rfl, by decide +kernel, by decide +kernel⟩
abbrev s_tree_told : Stmt := topS 17
abbrev N_tree_told : List Str := ["table", "short", "rows", "bottom", "odd", "side", "twice"]
abbrev P_tree_told : List Str := ["table"]
theorem sc_tree_told : FnScope N_tree_told P_tree_told (defScope s_tree_told) := ⟨rfl, rfl, rfl, by decide +kernel, rfl, by decide +kernel, by decide +kernel⟩
abbrev s_l_cell_at : Stmt := topS 19
abbrev N_l_cell_at : List Str := ["script", "k"]
abbrev P_l_cell_at : List Str := ["script", "k"]
theorem sc_l_cell_at : FnScope N_l_cell_at P_l_cell_at (defScope s_l_cell_at) := ⟨rfl, rfl, rfl, by decide +kernel, rfl, by decide +kernel, by decide +kernel⟩
abbrev s_l_stir : Stmt := topS 20
abbrev N_l_stir : List Str := ["cell", "k", "one"]
abbrev P_l_stir : List Str := ["cell", "k"]
theorem sc_l_stir : FnScope N_l_stir P_l_stir (defScope s_l_stir) := ⟨rfl, rfl, rfl, by decide +kernel, rfl, by decide +kernel, by decide +kernel⟩
abbrev s_l_numbers : Stmt := topS 21
abbrev N_l_numbers : List Str := ["cell", "many", "found", "digits", "k", "number"]
abbrev P_l_numbers : List Str := ["cell", "many"]
theorem sc_l_numbers : FnScope N_l_numbers P_l_numbers (defScope s_l_numbers) := ⟨rfl, rfl, rfl, by decide +kernel, rfl, by decide +kernel, by decide +kernel⟩
abbrev s_l_low : Stmt := topS 22
abbrev N_l_low : List Str := ["top", "bottom", "one", "other", "left"]
abbrev P_l_low : List Str := ["top", "bottom"]
theorem sc_l_low : FnScope N_l_low P_l_low (defScope s_l_low) := ⟨rfl, rfl, rfl, by decide +kernel, rfl, by decide +kernel, by decide +kernel⟩
abbrev s_l_alike : Stmt := topS 23
abbrev N_l_alike : List Str := ["found", "due", "one", "other"]
abbrev P_l_alike : List Str := ["found", "due"]
theorem sc_l_alike : FnScope N_l_alike P_l_alike (defScope s_l_alike) := ⟨rfl, rfl, rfl, by decide +kernel, rfl, by decide +kernel, by decide +kernel⟩
abbrev s_l_clusters : Stmt := topS 24
abbrev N_l_clusters : List Str := ["cell", "n", "numbers", "left", "point", "found", "k", "one", "other"]
abbrev P_l_clusters : List Str := ["cell", "n"]
theorem sc_l_clusters : FnScope N_l_clusters P_l_clusters (defScope s_l_clusters) := ⟨rfl, rfl, rfl, by decide +kernel, rfl, by decide +kernel, by decide +kernel⟩
abbrev s_l_weights : Stmt := topS 25
abbrev N_l_weights : List Str := ["script", "start", "many", "cell", "base", "found", "k", "number"]
abbrev P_l_weights : List Str := ["script", "start", "many", "cell"]
theorem sc_l_weights : FnScope N_l_weights P_l_weights (defScope s_l_weights) := ⟨rfl, rfl, rfl, by decide +kernel, rfl, by decide +kernel, by decide +kernel⟩
abbrev s_l_bottom : Stmt := topS 26
abbrev N_l_bottom : List Str := ["cell"]
abbrev P_l_bottom : List Str := ["cell"]
theorem sc_l_bottom : FnScope N_l_bottom P_l_bottom (defScope s_l_bottom) := ⟨rfl, rfl, rfl, by decide +kernel, rfl, by decide +kernel, by decide +kernel⟩
abbrev s_l_rows : Stmt := topS 27
abbrev N_l_rows : List Str := ["n", "sides", "weights", "rows", "point", "side", "weight", "i", "j"]
abbrev P_l_rows : List Str := ["n", "sides", "weights"]
theorem sc_l_rows : FnScope N_l_rows P_l_rows (defScope s_l_rows) := ⟨rfl, rfl, rfl, by decide +kernel, rfl, by decide +kernel, by decide +kernel⟩
abbrev s_l_table : Stmt := topS 28
abbrev N_l_table : List Str := ["rows", "bottom", "row", "one"]
abbrev P_l_table : List Str := ["rows", "bottom"]
theorem sc_l_table : FnScope N_l_table P_l_table (defScope s_l_table) := ⟨rfl, rfl, rfl, by decide +kernel, rfl, by decide +kernel, by decide +kernel⟩
abbrev s_l_weighted : Stmt := topS 29
abbrev N_l_weighted : List Str := ["sides", "weights", "bottom", "side", "weight"]
abbrev P_l_weighted : List Str := ["sides", "weights", "bottom"]
theorem sc_l_weighted : FnScope N_l_weighted P_l_weighted (defScope s_l_weighted) := ⟨rfl, rfl, rfl, by decide +kernel, rfl, by decide +kernel, by decide +kernel⟩
abbrev s_l_size : Stmt := topS 30
abbrev N_l_size : List Str := ["cell", "least", "most", "great"]
abbrev P_l_size : List Str := ["cell", "least", "most", "great"]
theorem sc_l_size : FnScope N_l_size P_l_size (defScope s_l_size) := ⟨rfl, rfl, rfl, by decide +kernel, rfl, by decide +kernel, by decide +kernel⟩
abbrev s_law : Stmt := topS 31
abbrev N_law : List Str := ["script", "n", "cell", "sides", "weights", "bottom", "k", "weight", "table", "due", "handed", "row", "found", "side"]
abbrev P_law : List Str := ["script"]
theorem sc_law : FnScope N_law P_law (defScope s_law) := ⟨rfl, rfl, rfl, by decide +kernel, rfl, by decide +kernel, by decide +kernel⟩
/-- the built-in names that the text leaves as they are -/
structure Tx (K : PySem.W.Frag) (mg : Str → Option Value) : Prop where
  abs_ : mg "abs" = none
  bool_ : mg "bool" = none
  int_ : mg "int" = none
  isinstance_ : mg "isinstance" = none
  len_ : mg "len" = none
  list_ : mg "list" = none
  min_ : mg "min" = none
  range_ : mg "range" = none
  sorted_ : mg "sorted" = none
  str_ : mg "str" = none
  tuple_ : mg "tuple" = none
  zip_ : mg "zip" = none
section
variable {P : Program} {w : World} {K : PySem.W.Frag} {mg : Str → Option Value} {base : Heap}
def pCommon : Pre := fun ds Q => ∃ a b : Int, ds = [.int a, .int b] ∧ Q .lf (.int (Int.gcd a b))
theorem ok_common_of {f : Addr} {fd : FuncData} (F : Fun K "common_of" "common_of" s_common_of f fd) (T : Tx K mg) : FnOk P w K mg base CX0 1 f fd P_common_of (spV K pCommon) := by
  refine okV F sc_common_of (fun ds Q h => ?_) fun cdv A outer s H E hr => ⟨_, (pss_cons (ps_while PassesOwn.never (pt_cmpR op_ne (pv 1) pe_int (nomark _))
  (pss_one (ps_par (i := 0) (j := 1) rfl sc_common_of.nd rfl rfl (by decide) rfl rfl (pa_cons (pv 1) (pa_cons (pe_op op_modN (pv 0) (pv 1)) pa_nil)) rfl)))
  (pss_one (ps_ret (pe_callB cr_abs (by rfl) T.abs_ (by decide +kernel) (pa_cons (pv 0) pa_nil))))), fun ds Q h => ?_⟩
  · obtain ⟨a, b, rfl, _⟩ := h
    rfl
  · obtain ⟨a, b, rfl, q⟩ := h
    walk_at "goK"
    refine SW_while ⟨fun m Γ => ∃ x y : Int, Γ = [.v .lf (.int x), .v .lf (.int y)] ∧ Int.gcd x y = Int.gcd a b ∧ m = y.natAbs, ⟨_, a, b, rfl, rfl, rfl⟩, ?_⟩
    rintro m Γ ⟨x, y, rfl, e, rfl⟩
    walk_at "goW"
    refine ifND (fun h => ?_) (fun h => ?_)
    · walk_at "goW"
      refine OW_modN h ?_
      walk_at "goW"
      exact ⟨_, fmod_small x y h, y, x.fmod y, rfl, (gcd_fmod x y).trans e, rfl⟩
    · walk_at "goW"
      subst h
      rw [abs_gcd0, e]
      exact q
end
section
variable {P : Program} {w : World} {K : PySem.W.Frag} {mg : Str → Option Value} {base : Heap}
def pFraction : Pre := fun ds Q => ∃ t b : Int, ds = [.int t, .int b] ∧ b ≠ 0 ∧ IB 8500 b ∧ Q .lf (FD (Rat.divInt t b))
theorem ok_fraction {f : Addr} {fd : FuncData} (F : Fun K "fraction" "fraction" s_fraction f fd) (T : Tx K mg) (c_common_of : Cal P w K mg base 1 "common_of" (spV K pCommon) []) : FnOk P w K mg base CX0 2 f fd P_fraction (spV K pFraction) := by
  refine okV F sc_fraction (fun ds Q h => ?_) fun cdv A outer s H E hr => ⟨_, (pss_cons (ps_if (pt_cmpR op_eq (pv 1) pe_int (nomark _))
  (pss_one ps_never)
  pss_nil)
  (pss_cons (ps_set (i := 2) sc_fraction.nd rfl (Or.inl rfl) (pe_c c_common_of hr (by decide) rfl (pa_cons (pv 0) (pa_cons (pv 1) pa_nil))))
  (pss_cons (ps_if (pt_cmpR op_lt (pv 1) pe_int (nomark _))
  (pss_one (ps_set (i := 2) sc_fraction.nd rfl (Or.inl rfl) (pe_op op_sub pe_int (pv 2))))
  pss_nil)
  (pss_one (ps_ret (pe_tup (pa_cons (pe_op op_fdivV (pv 0) (pv 2)) (pa_cons (pe_op op_fdivV (pv 1) (pv 2)) pa_nil)))))))), fun ds Q h => ?_⟩
  · obtain ⟨a, b, rfl, _⟩ := h
    rfl
  · obtain ⟨t, b, rfl, hb, hl, q⟩ := h
    walk_at "goK"
    refine ifD (fun h => absurd h hb) (fun _ => ?_)
    walk_at "goW"
    refine ⟨t, b, rfl, ?_⟩
    walk_at "goW"
    have hg := gcd_lt (t := t) hb hl
    have hp := gcd_pos' (t := t) hb
    refine ifD (fun h => ?_) (fun h => ?_)
    · walk_at "goW"
      refine OW_divV (divV 8500 (by omega) (by omega)) ?_
      walk_at "goW"
      refine OW_divV (divV 8500 (by omega) (by omega)) ?_
      walk_at "goW"
      have := q
      unfold FD at this
      rw [divInt_num t b hb, divInt_den t b hb, if_pos h, if_pos h] at this
      rw [Int.zero_sub]
      exact this
    · walk_at "goW"
      refine OW_divV (divV 8500 (by omega) (by omega)) ?_
      walk_at "goW"
      refine OW_divV (divV 8500 (by omega) (by omega)) ?_
      walk_at "goW"
      have := q
      unfold FD at this
      rw [divInt_num t b hb, divInt_den t b hb, if_neg h, if_neg h] at this
      exact this
end
section
variable {P : Program} {w : World} {K : PySem.W.Frag} {mg : Str → Option Value} {base : Heap}
def pCell : PreS := fun ns ds Q => ∃ k : Int, ds = [.int k] ∧ 0 ≤ k ∧ ∀ z, Q .lf (.int z)
theorem ok_l_cell_at {f : Addr} {fd : FuncData} (F : Fun K "_law_cell_at" "_law_cell_at" s_l_cell_at f fd) (T : Tx K mg) : FnOk P w K mg base CX0 1 f fd P_l_cell_at (spS K pCell) := by
  refine okS F sc_l_cell_at (fun ns ds Q h => ?_) fun cdv A outer s H E hr => ⟨_, (pss_cons (ps_if (pt_cmpR op_lt (pv 1) (pe_callB (k_len (K := K)) (by rfl) T.len_ (by decide +kernel) (pa_cons (pv 0) pa_nil)) (nomark _))
  (pss_one (ps_ret (pe_ix (k_ixL (K := K)) (pv 0) (pv 1) (fun _ _ => rfl))))
  pss_nil)
  (pss_one (ps_ret pe_int))), fun a ns ds Q h => ?_⟩
  · obtain ⟨a, rfl, _⟩ := h
    rfl
  · obtain ⟨k, rfl, h0, q⟩ := h
    walk_at "goK"
    refine ifD (fun h => ?_) (fun h => ?_)
    · walk_at "goW"
      exact q _
    · walk_at "goW"
      exact q 0
def pStir : Pre := fun ds Q => ∃ c k : Int, ds = [.int c, .int k] ∧ 0 ≤ k ∧ k < 10 ^ 9 ∧ ∀ z, 0 ≤ z → z < 2 ^ 28 → Q .lf (.int z)
theorem ok_l_stir {f : Addr} {fd : FuncData} (F : Fun K "_law_stir" "_law_stir" s_l_stir f fd) (T : Tx K mg) : FnOk P w K mg base CX0 1 f fd P_l_stir (spV K pStir) := by
  refine okV F sc_l_stir (fun ds Q h => ?_) fun cdv A outer s H E hr => ⟨_, (pss_cons (ps_set (i := 2) sc_l_stir.nd rfl (Or.inl rfl) (pe_op op_mod (pe_op op_mulW (pe_op op_add (pe_op op_add (pe_op op_mod (pv 0) pe_int) (pe_op op_mulW pe_int (pv 1))) pe_int) pe_int) pe_int))
  (pss_cons (ps_set (i := 2) sc_l_stir.nd rfl (Or.inl rfl) (pe_op op_mod (pe_op op_mulW (pv 2) (pv 2)) pe_int))
  (pss_one (ps_ret (pe_op op_fdivW (pe_op op_mod (pe_op op_mulW (pe_op op_add (pv 2) (pe_op op_mulW pe_int (pv 1))) pe_int) pe_int) pe_int))))), fun ds Q h => ?_⟩
  · obtain ⟨a, b, rfl, _⟩ := h
    rfl
  · obtain ⟨c, k, rfl, h0, h1, q⟩ := h
    walk_at "goK"
    refine OW_mul (IB.mulW (n := 64) (m := 64) (by unfold IB; omega) (by unfold IB; omega) (by decide)) ?_
    walk_at "goW"
    generalize hx : c % 2147483629 = x
    have x1 : 0 ≤ x ∧ x < 2147483629 := by omega
    refine OW_mul (IB.mulW (n := 64) (m := 64) (by unfold IB; omega) (by unfold IB; omega) (by decide)) ?_
    walk_at "goW"
    generalize hy : (x + 9973 * k + 5) * 48271 % 2147483647 = y
    have y1 : 0 ≤ y ∧ y < 2147483647 := by omega
    refine OW_mul (IB.mulW (n := 64) (m := 64) (by unfold IB; omega) (by unfold IB; omega) (by decide)) ?_
    walk_at "goW"
    generalize hu : y * y % 2147483587 = u
    have u1 : 0 ≤ u ∧ u < 2147483587 := by omega
    refine OW_mul (IB.mulW (n := 64) (m := 64) (by unfold IB; omega) (by unfold IB; omega) (by decide)) ?_
    walk_at "goW"
    refine OW_mul (IB.mulW (n := 64) (m := 64) (by unfold IB; omega) (by unfold IB; omega) (by decide)) ?_
    walk_at "goW"
    exact q _ (by omega) (by omega)
def pNumbers : Pre := fun ds Q => ∃ (c : Int) (n : Nat), ds = [.int c, .int n] ∧ n ≤ 1000 ∧ ∀ ns : List Int, ns.length = n → (∀ z ∈ ns, 0 ≤ z ∧ z < 2 ^ 28) → Q (.li .lf) (IL ns)
theorem ok_l_numbers {f : Addr} {fd : FuncData} (F : Fun K "_law_numbers" "_law_numbers" s_l_numbers f fd) (T : Tx K mg) (c_l_stir : Cal P w K mg base 1 "_law_stir" (spV K pStir) []) : FnOk P w K mg base CX0 2 f fd P_l_numbers (spV K pNumbers) := by
  refine okV F sc_l_numbers (fun ds Q h => ?_) fun cdv A outer s H E hr => ⟨_, (pss_cons (ps_set (i := 2) sc_l_numbers.nd rfl (Or.inl rfl) (pe_lst pa_nil))
  (pss_cons (ps_set (i := 3) sc_l_numbers.nd rfl (Or.inl rfl) (pv 0))
  (pss_cons (ps_for PassesOwn.never rfl (pi_range1 (by rfl) T.range_ (pa_cons (pv 1) pa_nil)) (pg_name (i := 4) sc_l_numbers.nd rfl (Or.inl rfl))
  (pss_cons (ps_set (i := 5) sc_l_numbers.nd rfl (Or.inl rfl) (pe_c c_l_stir hr (by decide) rfl (pa_cons (pv 0) (pa_cons (pv 4) pa_nil))))
  (C8.pss_cut (ps_if (pt_cmpR op_ge (pv 0) (pe_op op_pow pe_int pe_int) (nomark _))
  (pss_one (ps_set (i := 5) sc_l_numbers.nd rfl (Or.inl rfl) (pe_op op_mod (pv 3) pe_int)))
  pss_nil)
  (pss_cons (ps_set (i := 3) sc_l_numbers.nd rfl (Or.inl rfl) (pe_op op_fdivW (pv 3) pe_int))
  (pss_one (ps_expr (pe_bm PySem.F.plainAttrs_list PySem.F.slot_list_append PySem.F.type_list_append mt_append (pv 2) (pa_cons (pv 5) pa_nil))))))))
  (pss_one (ps_ret (pv 2)))))), fun ds Q h => ?_⟩
  · obtain ⟨a, b, rfl, _⟩ := h
    rfl
  · obtain ⟨c, n, rfl, hn, q⟩ := h
    walk_at "goK"
    refine ForB_rng (fun i Γ => ∃ (ns : List Int) (g : Int) (x y : Sl), Γ = [.v .lf (.int c), .v .lf (.int n), .v (.li .lf) (IL ns), .v .lf (.int g), x, y] ∧ ns.length = i ∧ ∀ z ∈ ns, 0 ≤ z ∧ z < 2 ^ 28) ⟨[], c, _, _, rfl, rfl, fun z h => (by cases h)⟩ ?_ ?_
    · rintro i Γ hi ⟨ns, g, x, y, rfl, l, hz⟩
      walk_at "goW"
      refine ⟨c, i, rfl, by omega, by omega, fun z z0 z1 => ?_⟩
      walk_at "goW"
      refine SW_cut (fun Γ => ∃ z, 0 ≤ z ∧ z < 2 ^ 28 ∧ Γ = [.v .lf (.int c), .v .lf (.int n), .v (.li .lf) (IL ns), .v .lf (.int g), .v .lf (.int i), .v .lf (.int z)]) ?_ ?_
      · walk_at "goW"
        refine ifD (fun h => ?_) (fun h => ?_)
        · walk_at "goW"
          exact ⟨g % 720720, by omega, by omega, rfl⟩
        · walk_at "goW"
          exact ⟨z, z0, z1, rfl⟩
      · rintro Γ ⟨z, z0, z1, rfl⟩
        walk_at "goW"
        refine ⟨ns ++ [z], _, _, _, rfl, by rw [List.length_append, l]; rfl, fun u hu => ?_⟩
        rcases List.mem_append.mp hu with hu | hu
        · exact hz u hu
        · rw [List.mem_singleton.mp hu]; exact ⟨z0, z1⟩
    · rintro Γ ⟨ns, g, x, y, rfl, l, hz⟩
      walk_at "goW"
      exact q ns (by omega) hz
def pLow : Pre := fun ds Q => ∃ t b : Int, ds = [.int t, .int b] ∧ 0 < b ∧ IB 8500 b ∧ Q .lf (FD (Rat.divInt t b))
theorem ok_l_low {f : Addr} {fd : FuncData} (F : Fun K "_law_low" "_law_low" s_l_low f fd) (T : Tx K mg) : FnOk P w K mg base CX0 1 f fd P_l_low (spV K pLow) := by
  refine okV F sc_l_low (fun ds Q h => ?_) fun cdv A outer s H E hr => ⟨_, (pss_cons (ps_set (i := 2) sc_l_low.nd rfl (Or.inl rfl) (pe_callB cr_abs (by rfl) T.abs_ (by decide +kernel) (pa_cons (pv 0) pa_nil)))
  (pss_cons (ps_set (i := 3) sc_l_low.nd rfl (Or.inl rfl) (pv 1))
  (pss_cons (ps_while PassesOwn.never (pt_cmpR op_ne (pv 3) pe_int (nomark _))
  (pss_cons (ps_set (i := 4) sc_l_low.nd rfl (Or.inl rfl) (pe_op op_mod (pv 2) (pv 3)))
  (pss_cons (ps_set (i := 2) sc_l_low.nd rfl (Or.inl rfl) (pv 3))
  (pss_one (ps_set (i := 3) sc_l_low.nd rfl (Or.inl rfl) (pv 4))))))
  (pss_one (ps_ret (pe_tup (pa_cons (pe_op op_fdivW (pv 0) (pv 2)) (pa_cons (pe_op op_fdivW (pv 1) (pv 2)) pa_nil)))))))), fun ds Q h => ?_⟩
  · obtain ⟨a, b, rfl, _⟩ := h
    rfl
  · obtain ⟨t, b, rfl, hb, hl, q⟩ := h
    have hb' : b ≠ 0 := by omega
    walk_at "goK"
    refine SW_while ⟨fun m Γ => ∃ (x y : Int) (z : Sl), Γ = [.v .lf (.int t), .v .lf (.int b), .v .lf (.int x), .v .lf (.int y), z] ∧ 0 ≤ x ∧ 0 ≤ y ∧ Int.gcd x y = Int.gcd t b ∧ m = y.natAbs, ⟨_, _, b, _, rfl, by split <;> omega, by omega, ?_, rfl⟩, ?_⟩
    · split
      · rw [Int.neg_gcd]
      · rfl
    rintro m Γ ⟨x, y, z, rfl, x0, y0, e, rfl⟩
    walk_at "goW"
    refine ifND (fun h => ?_) (fun h => ?_)
    · walk_at "goW"
      have := Int.emod_lt_of_pos x (show 0 < y by omega)
      have := Int.emod_nonneg x h
      refine ⟨_, ?_, y, x % y, _, rfl, y0, by omega, ?_, rfl⟩
      · omega
      · rw [← e, ← gcd_fmod x y, Int.fmod_eq_emod_of_nonneg x y0]
    · walk_at "goW"
      subst h
      have hx : x = ((Int.gcd t b : Nat) : Int) := by rw [← e, Int.gcd_zero_right]; omega
      have hg := gcd_lt (t := t) hb' hl
      have hp := gcd_pos' (t := t) hb'
      refine OW_div (wide_div (b := 8500) (by omega) (by rw [hx]; omega) (by decide) (by decide)) ?_
      walk_at "goW"
      refine OW_div (wide_div (b := 8500) (by omega) (by rw [hx]; omega) (by decide) (by decide)) ?_
      walk_at "goW"
      have := q
      unfold FD at this
      rw [divInt_num t b hb', divInt_den t b hb', if_neg (by omega), if_neg (by omega), ← hx, Int.fdiv_eq_ediv_of_nonneg _ x0, Int.fdiv_eq_ediv_of_nonneg _ x0] at this
      exact this
end
section
variable {P : Program} {w : World} {K : PySem.W.Frag} {mg : Str → Option Value} {base : Heap}
def pSize : Pre := fun ds Q => ∃ c l m g : Int, ds = [.int c, .int l, .int m, .int g] ∧ l ≤ m ∧ m < g ∧ ∀ z, l ≤ z → z ≤ g → Q .lf (.int z)
theorem ok_l_size {f : Addr} {fd : FuncData} (F : Fun K "_law_size" "_law_size" s_l_size f fd) (T : Tx K mg) : FnOk P w K mg base CX0 1 f fd P_l_size (spV K pSize) := by
  refine okV F sc_l_size (fun ds Q h => ?_) fun cdv A outer s H E hr => ⟨_, (pss_cons (ps_if (pt_cmpR op_eq (pe_op op_mod (pe_op op_fdivW (pv 0) pe_int) pe_int) pe_int (nomark _))
  (pss_one (ps_ret (pe_op op_add (pe_op op_add (pv 2) pe_int) (pe_op op_mod (pe_op op_fdivW (pv 0) pe_int) (pe_op op_sub (pv 3) (pv 2))))))
  pss_nil)
  (pss_one (ps_ret (pe_op op_add (pv 1) (pe_op op_mod (pv 0) (pe_op op_sub (pe_op op_add (pv 2) pe_int) (pv 1))))))), fun ds Q h => ?_⟩
  · obtain ⟨a, b, _, _, rfl, _⟩ := h
    rfl
  · obtain ⟨c, l, m, g, rfl, h1, h2, q⟩ := h
    walk_at "goK"
    refine ifD (fun h => ?_) (fun h => ?_)
    · walk_at "goW"
      have := Int.emod_nonneg (c / 56) (show g - m ≠ 0 by omega)
      have := Int.emod_lt_of_pos (c / 56) (show 0 < g - m by omega)
      exact q _ (by omega) (by omega)
    · walk_at "goW"
      have := Int.emod_nonneg c (show m + 1 - l ≠ 0 by omega)
      have := Int.emod_lt_of_pos c (show 0 < m + 1 - l by omega)
      exact q _ (by omega) (by omega)
def pBottom : Pre := fun ds Q => ∃ c : Int, ds = [.int c] ∧ ∀ z, 0 < z → z < 2 ^ 60 → Q .lf (.int z)
theorem ok_l_bottom {f : Addr} {fd : FuncData} (F : Fun K "_law_bottom" "_law_bottom" s_l_bottom f fd) (T : Tx K mg) : FnOk P w K mg base CX0 1 f fd P_l_bottom (spV K pBottom) := by
  refine okV F sc_l_bottom (fun ds Q h => ?_) fun cdv A outer s H E hr => ⟨_, (pss_one (ps_ret (pe_ix (k_ixL (K := K)) (pe_lst (pa_cons pe_int (pa_cons pe_int (pa_cons pe_int (pa_cons (pe_op op_add (pe_op op_pow pe_int pe_int) pe_int) pa_nil))))) (pe_op op_mod (pe_op op_fdivW (pv 0) pe_int) pe_int) (fun _ _ => rfl)))), fun ds Q h => ?_⟩
  · obtain ⟨a, rfl, _⟩ := h
    rfl
  · obtain ⟨c, rfl, q⟩ := h
    walk_at "goK"
    refine IxB_any (by omega) (by show _ < (4 : Int); omega) ?_ (.inl rfl)
    intro d hd
    simp only [List.mem_cons, List.not_mem_nil, or_false] at hd
    rcases hd with rfl | rfl | rfl | rfl <;> exact q _ (by decide) (by decide)
def pWeights : PreS := fun ns ds Q => ∃ (st : Int) (m : Nat) (c : Int), ds = [.int st, .int m, .int c] ∧ 0 ≤ st ∧ m ≤ 1000 ∧ ∀ ws : List Int, ws.length = m → (∀ z ∈ ws, 0 ≤ z ∧ z < 10 ^ 20) → Q (.li .lf) (IL ws)
theorem ok_l_weights {f : Addr} {fd : FuncData} (F : Fun K "_law_weights" "_law_weights" s_l_weights f fd) (T : Tx K mg) (c_l_stir : Cal P w K mg base 1 "_law_stir" (spV K pStir) []) : FnOk P w K mg base CX0 2 f fd P_l_weights (spS K pWeights) := by
  refine okS F sc_l_weights (fun ns ds Q h => ?_) fun cdv A outer s H E hr => ⟨_, (pss_cons (ps_set (i := 4) sc_l_weights.nd rfl (Or.inl rfl) (pe_ix (k_ixL (K := K)) (pe_lst (pa_cons pe_int (pa_cons pe_int (pa_cons (pe_op op_pow pe_int pe_int) pa_nil)))) (pe_op op_mod (pv 3) pe_int) (fun _ _ => rfl)))
  (pss_cons (ps_set (i := 5) sc_l_weights.nd rfl (Or.inl rfl) (pe_lst pa_nil))
  (pss_cons (ps_for PassesOwn.never rfl (pi_range1 (by rfl) T.range_ (pa_cons (pv 2) pa_nil)) (pg_name (i := 6) sc_l_weights.nd rfl (Or.inl rfl))
  (pss_cons (ps_set (i := 7) sc_l_weights.nd rfl (Or.inl rfl) (pe_c c_l_stir hr (by decide) rfl (pa_cons (pv 3) (pa_cons (pe_op op_add pe_int (pv 6)) pa_nil))))
  (C8.pss_cut (ps_if (pt_cmpR op_lt (pe_op op_add (pv 1) (pv 6)) (pe_callB (k_len (K := K)) (by rfl) T.len_ (by decide +kernel) (pa_cons (pv 0) pa_nil)) (nomark _))
  (pss_one (ps_set (i := 7) sc_l_weights.nd rfl (Or.inl rfl) (pe_ix (k_ixL (K := K)) (pv 0) (pe_op op_add (pv 1) (pv 6)) (fun _ _ => rfl))))
  pss_nil)
  (pss_one (ps_expr (pe_bm PySem.F.plainAttrs_list PySem.F.slot_list_append PySem.F.type_list_append mt_append (pv 5) (pa_cons (pe_op op_mod (pv 7) (pv 4)) pa_nil)))))))
  (pss_one (ps_ret (pv 5)))))), fun a ns ds Q h => ?_⟩
  · obtain ⟨_, _, _, rfl, _⟩ := h
    rfl
  · obtain ⟨st, m, c, rfl, s0, hm, q⟩ := h
    walk_at "goK"
    refine IxB_any (by omega) (by show _ < (3 : Int); omega) ?_ (.inl rfl)
    intro d hd
    obtain ⟨b, rfl, b1, b2⟩ : ∃ b : Int, d = .int b ∧ 0 < b ∧ b ≤ 10 ^ 20 := by
      simp only [List.mem_cons, List.not_mem_nil, or_false] at hd
      rcases hd with rfl | rfl | rfl <;> exact ⟨_, rfl, by decide, by decide⟩
    walk_at "goW"
    refine ForB_rng (fun i Γ => ∃ (ws : List Int) (x y : Sl), Γ = [.fact (.ref a) (fun H => SqL K H a (ns.map V.int)), .v .lf (.int st), .v .lf (.int m), .v .lf (.int c), .v .lf (.int b), .v (.li .lf) (IL ws), x, y] ∧ ws.length = i ∧ ∀ z ∈ ws, 0 ≤ z ∧ z < 10 ^ 20) ⟨[], _, _, rfl, rfl, fun z h => (by cases h)⟩ ?_ ?_
    · rintro i Γ hi ⟨ws, x, y, rfl, l, hz⟩
      walk_at "goW"
      refine ⟨c, _, rfl, by omega, by omega, fun z z0 z1 => ?_⟩
      walk_at "goW"
      refine SW_cut (fun Γ => ∃ z : Int, Γ = [.fact (.ref a) (fun H => SqL K H a (ns.map V.int)), .v .lf (.int st), .v .lf (.int m), .v .lf (.int c), .v .lf (.int b), .v (.li .lf) (IL ws), .v .lf (.int i), .v .lf (.int z)]) ?_ ?_
      · walk_at "goW"
        refine ifD (fun h => ?_) (fun h => ?_)
        · walk_at "goW"
          exact ⟨_, rfl⟩
        · walk_at "goW"
          exact ⟨z, rfl⟩
      · rintro Γ ⟨z, rfl⟩
        walk_at "goW"
        have := Int.emod_nonneg z (show b ≠ 0 by omega)
        have := Int.emod_lt_of_pos z b1
        refine ⟨ws ++ [z % b], _, _, rfl, by rw [List.length_append, l]; rfl, fun u hu => ?_⟩
        rcases List.mem_append.mp hu with hu | hu
        · exact hz u hu
        · rw [List.mem_singleton.mp hu]; omega
    · rintro Γ ⟨ws, x, y, rfl, l, hz⟩
      walk_at "goW"
      exact q ws (by omega) hz
/-- the sum of the weights of the sides that part two points -/
def sumS (sw : List (List Int × Int)) (i j : Nat) : Int := sw.foldl (fun a u => if parts u.1 i j then a + u.2 else a) 0
theorem sumS_snoc (sw : List (List Int × Int)) (u : List Int × Int) (i j : Nat) : sumS (sw ++ [u]) i j = if parts u.1 i j then sumS sw i j + u.2 else sumS sw i j := by
  unfold sumS; rw [List.foldl_append]; rfl
theorem parts_ite {c : List Int} {i j : Nat} : (decide (((i : Int) ∈ c) ≠ ((j : Int) ∈ c))) = parts c i j := by
  unfold parts
  by_cases h1 : (i : Int) ∈ c <;> by_cases h2 : (j : Int) ∈ c <;> simp [h1, h2]
def pRows : Pre := fun ds Q => ∃ (n : Nat) (S : List (List Int)) (ws : List Int), ds = [.int n, LD S, IL ws] ∧ n ≤ 100 ∧ S.length = ws.length ∧ Q (.li (.li .lf)) (LD (tabG n (sumS (S.zip ws))))
theorem zip_at {α β : Type} {xs : List α} {ys : List β} {f : α → PyData} {g : β → PyData} {i : Nat} {d : PyData} (h : (List.zipWith (fun x y => PyData.tuple [x, y]) (xs.map f) (ys.map g))[i]? = some d) : ∃ x y, xs[i]? = some x ∧ ys[i]? = some y ∧ d = .tuple [f x, g y] := by
  rw [List.getElem?_zipWith, List.getElem?_map, List.getElem?_map] at h
  cases h1 : xs[i]? with
  | none => rw [h1] at h; cases h
  | some x =>
    cases h2 : ys[i]? with
    | none => rw [h1, h2] at h; cases h
    | some y =>
      rw [h1, h2] at h
      exact ⟨x, y, rfl, rfl, (Option.some.inj h).symm⟩
theorem ok_l_rows {f : Addr} {fd : FuncData} (F : Fun K "_law_rows" "_law_rows" s_l_rows f fd) (T : Tx K mg) : FnOk P w K mg base CX0 1 f fd P_l_rows (spV K pRows) := by
  refine okV F sc_l_rows (fun ds Q h => ?_) fun cdv A outer s H E hr => ⟨_, (pss_cons (ps_setLc (i := 3) (own := [("point", 4)]) (g := gName 4) (tt := tYes) rfl sc_l_rows.nd rfl rfl (sw_true rfl rfl rfl (by decide +kernel)) (pi_range1 (by rfl) T.range_ (pa_cons (pv 0) pa_nil)) (blkOk_by (own := [("point", 4)]) (N := N_l_rows) (sc := defScope s_l_rows) (by decide +kernel)) (fun _ _ _ _ _ => (pg_name (i := 4) sc_l_rows.nd rfl (Or.inl rfl))) (fun _ _ _ _ _ => pts_nil) (fun _ _ _ _ _ => (pe_op op_rep (pe_lst (pa_cons pe_int pa_nil)) (pv 0))))
  (pss_cons (ps_for PassesOwn.never rfl (k_zip (K := K) (by rfl) T.zip_ (pa_cons (pv 1) (pa_cons (pv 2) pa_nil))) (k_tup (K := K) (n := 2) rfl (pgs_cons (pg_name (i := 5) sc_l_rows.nd rfl (Or.inl rfl)) (pgs_cons (pg_name (i := 6) sc_l_rows.nd rfl (Or.inl rfl)) pgs_nil)))
  (pss_one (ps_for PassesOwn.never rfl (pi_range1 (by rfl) T.range_ (pa_cons (pv 0) pa_nil)) (pg_name (i := 7) sc_l_rows.nd rfl (Or.inl rfl))
  (pss_one (ps_for PassesOwn.never rfl (pi_range1 (by rfl) T.range_ (pa_cons (pv 0) pa_nil)) (pg_name (i := 8) sc_l_rows.nd rfl (Or.inl rfl))
  (pss_one (ps_if (pt_cmpR op_ne (pe_cmpR (k_in (K := K)) (pv 7) (pv 5) rfl) (pe_cmpR (k_in (K := K)) (pv 8) (pv 5) rfl) (nomark _))
  (pss_one (ps_asg (pe_op op_add (pe_ix (k_ixL (K := K)) (pe_ix (k_ixL (K := K)) (pv 3) (pv 7) (fun _ _ => rfl)) (pv 8) (fun _ _ => rfl)) (pv 6)) (pg_sub (pe_ix (k_ixL (K := K)) (pv 3) (pv 7) (fun _ _ => rfl)) (pv 8) set_list)))
  pss_nil)))))))
  (pss_one (ps_ret (pv 3))))), fun ds Q h => ?_⟩
  · obtain ⟨_, _, _, rfl, _⟩ := h
    rfl
  · obtain ⟨n, S, ws, rfl, hn, hl, q⟩ := h
    walk_at "goK"
    refine LcB_m (.li .lf) (fun _ => IL (rowG n fun _ => 0)) (by rw [List.length_range]; omega) (fun x hx => ?_) ?_
    · refine GC_name (by decide) ?_
      walk_at "goW"
      exact ⟨.inl rfl, rfl, rfl⟩
    rw [show (List.range n).map (fun _ => IL (rowG n fun _ => (0 : Int))) = (tabG n (sumS ((S.zip ws).take 0))).map IL from by unfold tabG; rw [List.map_map]; rfl]
    walk_at "goW"
    refine ⟨fun i Γ => ∃ (x y u v z : Sl), Γ = [.v .lf (.int n), .v .lf (LD S), .v .lf (IL ws), .v (.li (.li .lf)) (LD (tabG n (sumS ((S.zip ws).take i)))), x, y, u, v, z], ⟨_, _, _, _, _, rfl⟩, ?_, ?_⟩
    · rintro i d Γ hd ⟨x, y, u, v, z, rfl⟩
      obtain ⟨side, wt, h1, h2, rfl⟩ := zip_at hd
      have hz : (S.zip ws).take (i + 1) = (S.zip ws).take i ++ [(side, wt)] := take_snoc (List.getElem?_zip_eq_some.mpr ⟨h1, h2⟩)
      generalize (S.zip ws).take i = sw at hz
      walk_at "goW"
      refine ForB_rng (fun a Γ => ∃ (g : Nat → Nat → Int) (u v : Sl), Γ = [.v .lf (.int n), .v .lf (LD S), .v .lf (IL ws), .v (.li (.li .lf)) (LD (tabG n g)), x, .v .lf (IL side), .v .lf (.int wt), u, v] ∧ ∀ p q, g p q = if p < a ∧ q < n then sumS (sw ++ [(side, wt)]) p q else sumS sw p q) ⟨_, _, _, rfl, fun p q => by simp⟩ ?_ ?_
      · rintro a Γ ha ⟨g, u, v, rfl, hg⟩
        have ha : a < n := ha
        walk_at "goW"
        refine ForB_rng (fun b Γ => ∃ (g : Nat → Nat → Int) (v : Sl), Γ = [.v .lf (.int n), .v .lf (LD S), .v .lf (IL ws), .v (.li (.li .lf)) (LD (tabG n g)), x, .v .lf (IL side), .v .lf (.int wt), .v .lf (.int a), v] ∧ ∀ p q, g p q = if p < a ∧ q < n ∨ p = a ∧ q < b then sumS (sw ++ [(side, wt)]) p q else sumS sw p q) ⟨_, _, rfl, fun p q => by rw [hg]; simp⟩ ?_ ?_
        · rintro b Γ hb ⟨g, v, rfl, hg⟩
          have hb : b < n := hb
          have hab : g a b = sumS sw a b := by rw [hg, if_neg (by omega)]
          walk_at "goW"
          rw [show (!decide (decide ((a : Int) ∈ side) = decide ((b : Int) ∈ side))) = parts side a b from rfl]
          refine ifB (fun h => ?_) (fun h => ?_)
          · walk_at "goW"
            refine ⟨_, _, rfl, fun p q => ?_⟩
            by_cases c : p = a ∧ q = b
            · rw [if_pos c, c.1, c.2, if_pos (by omega), sumS_snoc, if_pos h, hab]
            · rw [if_neg c, hg]
              by_cases c2 : p < a ∧ q < n ∨ p = a ∧ q < b
              · rw [if_pos c2, if_pos (by omega)]
              · rw [if_neg c2, if_neg (by omega)]
          · walk_at "goW"
            refine ⟨g, _, rfl, fun p q => ?_⟩
            rw [hg]
            by_cases c : p = a ∧ q = b
            · rw [c.1, c.2, if_neg (by omega), if_pos (by omega), sumS_snoc, if_neg (by rw [h]; decide)]
            · by_cases c2 : p < a ∧ q < n ∨ p = a ∧ q < b
              · rw [if_pos c2, if_pos (by omega)]
              · rw [if_neg c2, if_neg (by omega)]
        · rintro Γ ⟨g, v, rfl, hg⟩
          refine ⟨g, _, _, rfl, fun p q => ?_⟩
          rw [hg]
          by_cases c2 : p < a ∧ q < n ∨ p = a ∧ q < n
          · rw [if_pos c2, if_pos (by omega)]
          · rw [if_neg c2, if_neg (by omega)]
      · rintro Γ ⟨g, u, v, rfl, hg⟩
        rw [tabG_congr (g' := sumS (sw ++ [(side, wt)])) fun p q hp hq => by rw [hg, if_pos ⟨hp, hq⟩], ← hz]
        exact ⟨_, _, _, _, _, rfl⟩
    · rintro Γ ⟨x, y, u, v, z, rfl⟩
      rw [List.length_zipWith, List.length_map, List.length_map, List.take_of_length_le (by rw [List.length_zip]; exact Nat.le_refl _)]
      walk_at "goW"
      exact q
def pTable : Pre := fun ds Q => ∃ (n : Nat) (g : Nat → Nat → Int) (b : Int), ds = [LD (tabG n g), .int b] ∧ n ≤ 100 ∧ 0 < b ∧ IB 8500 b ∧ Q (.li (.li .lf)) (TD (tabG n fun i j => Rat.divInt (g i j) b))
theorem ok_l_table {f : Addr} {fd : FuncData} (F : Fun K "_law_table" "_law_table" s_l_table f fd) (T : Tx K mg) (c_l_low : Cal P w K mg base 1 "_law_low" (spV K pLow) []) : FnOk P w K mg base CX0 2 f fd P_l_table (spV K pTable) := by
  refine okV F sc_l_table (fun ds Q h => ?_) fun cdv A outer s H E hr => ⟨_, (pss_one (ps_ret (pe_lc (own := [("row", 2)]) (g := gName 2) (tt := tYes) rfl sc_l_table.nd (k_piL (K := K) (pv 0)) (blkOk_by (own := [("row", 2)]) (N := N_l_table) (sc := defScope s_l_table) (by decide +kernel)) (fun _ _ _ _ _ => (pg_name (i := 2) sc_l_table.nd rfl (Or.inl rfl))) (fun _ _ _ _ _ => pts_nil) (fun _ _ _ _ _ => (pe_lc (own := [("one", 3)]) (g := gName 3) (tt := tYes) rfl sc_l_table.nd (k_piL (K := K) (pv 2)) (blkOk_by (own := [("one", 3)]) (by rfl)) (fun _ _ _ _ _ => (pg_name (i := 3) sc_l_table.nd rfl (Or.inl rfl))) (fun _ _ _ _ _ => pts_nil) (fun _ _ _ _ _ => (pe_c c_l_low hr (by decide) rfl (pa_cons (pv 3) (pa_cons (pv 1) pa_nil))))))))), fun ds Q h => ?_⟩
  · obtain ⟨_, _, _, rfl, _⟩ := h
    rfl
  · obtain ⟨n, g, b, rfl, hn, b0, bb, q⟩ := h
    walk_at "goK"
    refine LcB_m (.li .lf) (fun r => FL (r.map fun z => Rat.divInt z b)) (by rw [tabG_len]; omega) (fun r hr => ?_) ?_
    · have lr : r.length = n := by
        unfold tabG at hr
        obtain ⟨i, _, rfl⟩ := List.mem_map.mp hr
        rw [List.length_map, List.length_range]
      refine GC_name (by decide) ?_
      walk_at "goW"
      refine LcB_m .lf (fun z => FD (Rat.divInt z b)) (by omega) (fun z hz => ?_) ?_
      · refine GC_name (by decide) ?_
        walk_at "goW"
        exact ⟨z, b, rfl, b0, bb, .inl rfl, rfl, rfl⟩
      · rw [show r.map (fun z => FD (Rat.divInt z b)) = (r.map fun z => Rat.divInt z b).map FD by rw [List.map_map]; rfl]
        exact ⟨.inl rfl, rfl, rfl⟩
    · rw [show (tabG n g).map (fun r => FL (r.map fun z => Rat.divInt z b)) = (tabG n fun i j => Rat.divInt (g i j) b).map FL by
        unfold tabG
        rw [List.map_map, List.map_map]
        apply List.map_congr_left
        intro i _
        show FL _ = FL _
        rw [List.map_map]; rfl]
      exact q
end
/-! ### clusters -/
/-- sides of 1 .. n - 1, of which no two cross -/
structure Clu (n : Nat) (F : List (List Int)) : Prop where
  ok : ∀ C ∈ F, C ≠ [] ∧ C.Pairwise (· < ·) ∧ ∀ x ∈ C, 0 < x ∧ x < n
  lam : ∀ A ∈ F, ∀ B ∈ F, (∀ x ∈ A, x ∈ B) ∨ (∀ x ∈ B, x ∈ A) ∨ ∀ x ∈ A, x ∉ B
  nd : F.Nodup
  len : F.length ≤ 2 * n
/-- those not yet put together -/
structure Roots (n : Nat) (R F : List (List Int)) : Prop where
  clu : Clu n F
  sub : ∀ A ∈ R, A ∈ F
  dis : R.Pairwise fun A B => ∀ x ∈ A, x ∉ B
  top : ∀ A ∈ F, ∃ B ∈ R, ∀ x ∈ A, x ∈ B
theorem Clu.inh {n : Nat} {F : List (List Int)} (h : Clu n F) {C : List Int} (hC : C ∈ F) : ∃ x, x ∈ C := List.exists_mem_of_ne_nil _ (h.ok C hC).1
theorem pair_at {α : Type} {p : α → α → Prop} {l : List α} (h : l.Pairwise p) {i j : Nat} {x y : α} (hi : l[i]? = some x) (hj : l[j]? = some y) (l : i < j) : p x y := by
  obtain ⟨h1, e1⟩ := List.getElem?_eq_some_iff.mp hi
  obtain ⟨h2, e2⟩ := List.getElem?_eq_some_iff.mp hj
  rw [← e1, ← e2]
  exact List.pairwise_iff_getElem.mp h i j h1 h2 l
theorem erase_perm {α : Type} {l : List α} {i : Nat} {x : α} (h : l[i]? = some x) : l.Perm (x :: l.eraseIdx i) := by
  obtain ⟨hi, e⟩ := List.getElem?_eq_some_iff.mp h
  rw [List.eraseIdx_eq_take_drop_succ]
  have e0 : l = l.take i ++ x :: l.drop (i + 1) := by rw [← e, ← List.drop_eq_getElem_cons hi, List.take_append_drop]
  conv => lhs; rw [e0]
  exact List.perm_middle
theorem erase_map {α β : Type} (f : α → β) (l : List α) (i : Nat) : (l.map f).eraseIdx i = (l.eraseIdx i).map f := by
  rw [List.eraseIdx_eq_take_drop_succ, List.eraseIdx_eq_take_drop_succ, List.map_append, List.map_take, List.map_drop]
theorem rise_len : ∀ {l : List Int} {lo hi : Int}, l.Pairwise (· < ·) → (∀ x ∈ l, lo < x ∧ x < hi) → lo < hi → (l.length : Int) < hi - lo
  | [], lo, hi, _, _, h => by simp; omega
  | x :: l, lo, hi, hp, hx, _ => by
    rw [List.pairwise_cons] at hp
    have h1 := hx x List.mem_cons_self
    have := rise_len (lo := x) (hi := hi) hp.2 (fun y hy => ⟨hp.1 y hy, (hx y (.tail _ hy)).2⟩) h1.2
    rw [List.length_cons]
    omega
/-- two are put together -/
theorem Roots.step {n : Nat} {R F : List (List Int)} (h : Roots n R F) {i j : Nat} {A B N : List Int} (hA : R[i]? = some A) (hB : (R.eraseIdx i)[j]? = some B) (hp : N.Perm (A ++ B)) (hs : N.Pairwise (· ≤ ·)) (hl : F.length + 1 ≤ 2 * n) : Roots n ((R.eraseIdx i).eraseIdx j ++ [N]) (F ++ [N]) := by
  have hAm := List.mem_of_getElem? hA
  have hi := (List.getElem?_eq_some_iff.mp hA).1
  have R1 : R.Perm (A :: R.eraseIdx i) := erase_perm hA
  have hj := (List.getElem?_eq_some_iff.mp hB).1
  have R2 : (R.eraseIdx i).Perm (B :: (R.eraseIdx i).eraseIdx j) := erase_perm hB
  generalize (R.eraseIdx i).eraseIdx j = S at R2 ⊢
  have RP : R.Perm (A :: B :: S) := R1.trans (R2.cons A)
  have sym : ∀ {X Y : List Int}, (∀ x ∈ X, x ∉ Y) → ∀ x ∈ Y, x ∉ X := fun h x h1 h2 => h x h2 h1
  have dis : (A :: B :: S).Pairwise fun A B => ∀ x ∈ A, x ∉ B := (RP.pairwise_iff sym).mp h.dis
  rw [List.pairwise_cons, List.pairwise_cons] at dis
  obtain ⟨dA, dB, dS⟩ := dis
  have dAB := dA B List.mem_cons_self
  have hBm : B ∈ R := RP.mem_iff.mpr (.tail _ List.mem_cons_self)
  have hAF := h.sub A hAm
  have hBF := h.sub B hBm
  have mN : ∀ x, x ∈ N ↔ x ∈ A ∨ x ∈ B := fun x => by rw [hp.mem_iff, List.mem_append]
  have okA := h.clu.ok A hAF
  have okB := h.clu.ok B hBF
  have inF : ∀ C ∈ F, (∀ x ∈ C, x ∈ N) ∨ ∀ x ∈ C, x ∉ N := fun C hC => by
    obtain ⟨D, hD, hCD⟩ := h.top C hC
    rcases List.mem_cons.mp (RP.mem_iff.mp hD) with rfl | hD
    · exact .inl fun x hx => (mN x).mpr (.inl (hCD x hx))
    · rcases List.mem_cons.mp hD with rfl | hD
      · exact .inl fun x hx => (mN x).mpr (.inr (hCD x hx))
      · exact .inr fun x hx z => by
          rcases (mN x).mp z with z | z
          · exact dA D (.tail _ hD) x z (hCD x hx)
          · exact dB D hD x z (hCD x hx)
  have nN : N ∉ F := fun z => by
    obtain ⟨D, hD, hND⟩ := h.top N z
    obtain ⟨a, ha⟩ := h.clu.inh hAF
    obtain ⟨b, hb⟩ := h.clu.inh hBF
    have ha' := hND a ((mN a).mpr (.inl ha))
    have hb' := hND b ((mN b).mpr (.inr hb))
    rcases List.mem_cons.mp (RP.mem_iff.mp hD) with rfl | hD
    · exact dAB b hb' hb
    · rcases List.mem_cons.mp hD with rfl | hD
      · exact dAB a ha ha'
      · exact dA D (.tail _ hD) a ha ha'
  have ndN : N.Nodup := hp.nodup_iff.mpr (List.nodup_append.mpr ⟨okA.2.1.imp fun h => Int.ne_of_lt h, okB.2.1.imp fun h => Int.ne_of_lt h, fun x hx y hy e => dAB x hx (e ▸ hy)⟩)
  have sN : N.Pairwise (· < ·) := (hs.and ndN).imp fun h => by have := h.1; have := h.2; omega
  refine ⟨⟨fun C hC => ?_, fun X hX Y hY => ?_, ?_, by rw [List.length_append]; exact hl⟩, fun X hX => ?_, ?_, fun X hX => ?_⟩
  · rcases List.mem_append.mp hC with hC | hC
    · exact h.clu.ok C hC
    · rw [List.mem_singleton.mp hC]
      refine ⟨fun z => ?_, sN, fun x hx => ?_⟩
      · obtain ⟨a, ha⟩ := h.clu.inh hAF
        have := (mN a).mpr (.inl ha)
        rw [z] at this; cases this
      · rcases (mN x).mp hx with hx | hx
        · exact okA.2.2 x hx
        · exact okB.2.2 x hx
  · rcases List.mem_append.mp hX with hX | hX <;> rcases List.mem_append.mp hY with hY | hY
    · exact h.clu.lam X hX Y hY
    · rw [List.mem_singleton.mp hY]
      rcases inF X hX with h1 | h1
      · exact .inl h1
      · exact .inr (.inr h1)
    · rw [List.mem_singleton.mp hX]
      rcases inF Y hY with h1 | h1
      · exact .inr (.inl h1)
      · exact .inr (.inr (sym h1))
    · rw [List.mem_singleton.mp hX, List.mem_singleton.mp hY]
      exact .inl fun x hx => hx
  · rw [List.nodup_append]
    exact ⟨h.clu.nd, by simp, fun x hx y hy e => by rw [List.mem_singleton.mp hy] at e; exact nN (e ▸ hx)⟩
  · rcases List.mem_append.mp hX with hX | hX
    · exact List.mem_append_left _ (h.sub X (RP.mem_iff.mpr (.tail _ (.tail _ hX))))
    · exact List.mem_append_right _ hX
  · rw [List.pairwise_append]
    refine ⟨dS, by simp, fun X hX Y hY x hx => ?_⟩
    rw [List.mem_singleton.mp hY]
    intro z
    rcases (mN x).mp z with z | z
    · exact dA X (.tail _ hX) x z hx
    · exact dB X hX x z hx
  · rcases List.mem_append.mp hX with hX | hX
    · obtain ⟨D, hD, hXD⟩ := h.top X hX
      rcases List.mem_cons.mp (RP.mem_iff.mp hD) with rfl | hD
      · exact ⟨N, List.mem_append_right _ List.mem_cons_self, fun x hx => (mN x).mpr (.inl (hXD x hx))⟩
      · rcases List.mem_cons.mp hD with rfl | hD
        · exact ⟨N, List.mem_append_right _ List.mem_cons_self, fun x hx => (mN x).mpr (.inr (hXD x hx))⟩
        · exact ⟨D, List.mem_append_left _ hD, hXD⟩
    · rw [List.mem_singleton.mp hX]
      exact ⟨N, List.mem_append_right _ List.mem_cons_self, fun x hx => hx⟩
theorem roots_start (n : Nat) : Roots n ((List.range (n - 1)).map fun i => [((1 + i : Nat) : Int)]) ((List.range (n - 1)).map fun i => [((1 + i : Nat) : Int)]) := by
  have hm : ∀ C, C ∈ ((List.range (n - 1)).map fun i => [((1 + i : Nat) : Int)]) → ∃ i, i < n - 1 ∧ C = [((1 + i : Nat) : Int)] := fun C hC => by
    obtain ⟨i, hi, rfl⟩ := List.mem_map.mp hC
    exact ⟨i, List.mem_range.mp hi, rfl⟩
  refine ⟨⟨fun C hC => ?_, fun A hA B hB => ?_, ?_, by rw [List.length_map, List.length_range]; omega⟩, fun A hA => hA, ?_, fun A hA => ⟨A, hA, fun x hx => hx⟩⟩
  · obtain ⟨i, hi, rfl⟩ := hm C hC
    exact ⟨by simp, by simp, fun x hx => by rw [List.mem_singleton.mp hx]; omega⟩
  · obtain ⟨i, hi, rfl⟩ := hm A hA
    obtain ⟨j, hj, rfl⟩ := hm B hB
    by_cases c : i = j
    · subst c; exact .inl fun x hx => hx
    · exact .inr (.inr fun x hx z => by rw [List.mem_singleton.mp hx] at z; have := List.mem_singleton.mp z; omega)
  · unfold List.Nodup
    rw [List.pairwise_map]
    exact List.nodup_range.imp fun h e => h (by have := List.cons.inj e; omega)
  · rw [List.pairwise_map]
    exact List.nodup_range.imp fun h x hx z => h (by rw [List.mem_singleton.mp hx] at z; have := List.mem_singleton.mp z; omega)
section
variable {P : Program} {w : World} {K : PySem.W.Frag} {mg : Str → Option Value} {base : Heap}
def pClusters : Pre := fun ds Q => ∃ (c : Int) (n : Nat), ds = [.int c, .int n] ∧ 1 ≤ n ∧ n ≤ 12 ∧ ∀ F, Clu n F → Q (.li .lf) (LD F)
theorem ok_l_clusters {f : Addr} {fd : FuncData} (F : Fun K "_law_clusters" "_law_clusters" s_l_clusters f fd) (T : Tx K mg) (c_l_numbers : Cal P w K mg base 2 "_law_numbers" (spV K pNumbers) []) : FnOk P w K mg base CX0 3 f fd P_l_clusters (spV K pClusters) := by
  refine okV F sc_l_clusters (fun ds Q h => ?_) fun cdv A outer s H E hr => ⟨_, (pss_cons (ps_set (i := 2) sc_l_clusters.nd rfl (Or.inl rfl) (pe_c c_l_numbers hr (by decide) rfl (pa_cons (pv 0) (pa_cons (pe_op op_mulW pe_int (pv 1)) pa_nil))))
  (pss_cons (ps_setLc (i := 3) (own := [("point", 4)]) (g := gName 4) (tt := tYes) rfl sc_l_clusters.nd rfl rfl (sw_true rfl rfl rfl (by decide +kernel)) (pi_range2 (by rfl) T.range_ (pa_cons pe_int (pa_cons (pv 1) pa_nil))) (blkOk_by (own := [("point", 4)]) (N := N_l_clusters) (sc := defScope s_l_clusters) (by decide +kernel)) (fun _ _ _ _ _ => (pg_name (i := 4) sc_l_clusters.nd rfl (Or.inl rfl))) (fun _ _ _ _ _ => pts_nil) (fun _ _ _ _ _ => (pe_lst (pa_cons (pv 4) pa_nil))))
  (pss_cons (ps_set (i := 5) sc_l_clusters.nd rfl (Or.inl rfl) (pe_callTy (k_list (K := K)) (by rfl) T.list_ (by decide +kernel) (pa_cons (pv 3) pa_nil)))
  (pss_cons (ps_for PassesOwn.never rfl (pi_range1 (by rfl) T.range_ (pa_cons (pe_op op_sub (pv 1) pe_int) pa_nil)) (pg_name (i := 6) sc_l_clusters.nd rfl (Or.inl rfl))
  (pss_cons (ps_set (i := 7) sc_l_clusters.nd rfl (Or.inl rfl) (pe_bm PySem.F.plainAttrs_list PySem.F.slot_list_pop PySem.F.type_list_pop mt_popAt (pv 3) (pa_cons (pe_op op_mod (pe_ix (k_ixL (K := K)) (pv 2) (pe_op op_mulW pe_int (pv 6)) (fun _ _ => rfl)) (pe_callB (k_len (K := K)) (by rfl) T.len_ (by decide +kernel) (pa_cons (pv 3) pa_nil))) pa_nil)))
  (pss_cons (ps_set (i := 8) sc_l_clusters.nd rfl (Or.inl rfl) (pe_bm PySem.F.plainAttrs_list PySem.F.slot_list_pop PySem.F.type_list_pop mt_popAt (pv 3) (pa_cons (pe_op op_mod (pe_ix (k_ixL (K := K)) (pv 2) (pe_op op_add (pe_op op_mulW pe_int (pv 6)) pe_int) (fun _ _ => rfl)) (pe_callB (k_len (K := K)) (by rfl) T.len_ (by decide +kernel) (pa_cons (pv 3) pa_nil))) pa_nil)))
  (pss_cons (ps_expr (pe_bm PySem.F.plainAttrs_list PySem.F.slot_list_append PySem.F.type_list_append mt_append (pv 3) (pa_cons (pe_callB (k_sortedI (K := K)) (by rfl) T.sorted_ (by decide +kernel) (pa_cons (pe_op op_cat (pv 7) (pv 8)) pa_nil)) pa_nil)))
  (pss_one (ps_expr (pe_bm PySem.F.plainAttrs_list PySem.F.slot_list_append PySem.F.type_list_append mt_append (pv 5) (pa_cons (pe_ix (k_ixL (K := K)) (pv 3) (pe_un un_neg pe_int) (fun _ _ => rfl)) pa_nil))))))))
  (pss_one (ps_ret (pv 5))))))), fun ds Q h => ?_⟩
  · obtain ⟨_, _, rfl, _⟩ := h
    rfl
  · obtain ⟨c, n, rfl, n1, hn, q⟩ := h
    walk_at "goK"
    refine OW_mul (IB.mulW (n := 64) (m := 64) (by unfold IB; decide) (by unfold IB; omega) (by decide)) ?_
    rw [show (2 : Int) * (n : Int) = ((2 * n : Nat) : Int) by omega]
    walk_at "goW"
    refine ⟨c, 2 * n, rfl, by omega, fun ns ln hns => ?_⟩
    walk_at "goW"
    refine LcB_m .lf (fun i : Nat => IL [((1 + i : Nat) : Int)]) (by rw [List.length_range]; omega) (fun x hx => ?_) ?_
    · refine GC_name (by decide) ?_
      walk_at "goW"
      exact ⟨.inr rfl, rfl, rfl⟩
    rw [show (List.range (n - 1)).map (fun i : Nat => IL [((1 + i : Nat) : Int)]) = ((List.range (n - 1)).map fun i : Nat => [((1 + i : Nat) : Int)]).map IL by rw [List.map_map]; rfl]
    have r0 := roots_start n
    have l0 : ((List.range (n - 1)).map fun i : Nat => [((1 + i : Nat) : Int)]).length = n - 1 := by rw [List.length_map, List.length_range]
    generalize (List.range (n - 1)).map (fun i : Nat => [((1 + i : Nat) : Int)]) = R0 at r0 l0
    walk_at "goW"
    refine ForB_rng (fun k Γ => ∃ (R F : List (List Int)) (u x y z : Sl), Γ = [.v .lf (.int c), .v .lf (.int n), .v (.li .lf) (IL ns), .v (.li .lf) (LD R), u, .v (.li .lf) (LD F), x, y, z] ∧ Roots n R F ∧ R.length + k = n - 1 ∧ F.length = n - 1 + k) ⟨R0, R0, _, _, _, _, rfl, r0, l0, l0⟩ ?_ ?_
    · rintro k Γ hk ⟨R, F, u, x, y, z, rfl, hR, lR, lF⟩
      have hk : k + 2 < n := by omega
      have lp : (0 : Int) < (R.length : Int) := by omega
      walk_at "goW"
      refine EW_popAt rfl rfl ?_ ⟨_, rfl⟩
      walk_at "goW"
      refine OW_mul (IB.mulW (n := 64) (m := 64) (by unfold IB; decide) (by unfold IB; omega) (by decide)) ?_
      walk_at "goW"
      obtain ⟨i, hi, hi2⟩ : ∃ i : Nat, ns.getD (2 * (k : Int)).toNat 0 % (R.length : Int) = i ∧ i < R.length := by
        have a1 := Int.emod_nonneg (ns.getD (2 * (k : Int)).toNat 0) (show (R.length : Int) ≠ 0 by omega)
        have a2 := Int.emod_lt_of_pos (ns.getD (2 * (k : Int)).toNat 0) lp
        exact ⟨(ns.getD (2 * (k : Int)).toNat 0 % (R.length : Int)).toNat, by omega, by omega⟩
      rw [hi]
      have hA : R[i]? = some R[i] := List.getElem?_eq_getElem hi2
      generalize R[i] = A at hA
      refine ⟨i, rfl, ?_⟩
      walk_at "goW"
      refine ⟨_, _, IL A, rfl, rfl, by rw [List.getElem?_map, hA]; rfl, by rw [List.length_map]; omega, ?_⟩
      have le : (R.eraseIdx i).length = n - 2 - k := by rw [List.length_eraseIdx_of_lt hi2]; omega
      rw [show (R.map IL).eraseIdx i = (R.eraseIdx i).map IL from erase_map ..]
      walk_at "goW"
      refine EW_popAt rfl rfl ?_ ⟨_, rfl⟩
      walk_at "goW"
      refine OW_mul (IB.mulW (n := 64) (m := 64) (by unfold IB; decide) (by unfold IB; omega) (by decide)) ?_
      have lp2 : (0 : Int) < ((R.eraseIdx i).length : Int) := by omega
      walk_at "goW"
      obtain ⟨j, hj, hj2⟩ : ∃ j : Nat, ns.getD (2 * (k : Int) + 1).toNat 0 % ((R.eraseIdx i).length : Int) = j ∧ j < (R.eraseIdx i).length := by
        have a1 := Int.emod_nonneg (ns.getD (2 * (k : Int) + 1).toNat 0) (show ((R.eraseIdx i).length : Int) ≠ 0 by omega)
        have a2 := Int.emod_lt_of_pos (ns.getD (2 * (k : Int) + 1).toNat 0) lp2
        exact ⟨(ns.getD (2 * (k : Int) + 1).toNat 0 % ((R.eraseIdx i).length : Int)).toNat, by omega, by omega⟩
      rw [hj]
      have hB : (R.eraseIdx i)[j]? = some (R.eraseIdx i)[j] := List.getElem?_eq_getElem hj2
      generalize (R.eraseIdx i)[j] = B at hB
      refine ⟨j, rfl, ?_⟩
      walk_at "goW"
      refine ⟨_, _, IL B, rfl, rfl, by rw [List.getElem?_map, hB]; rfl, by rw [List.length_map]; omega, ?_⟩
      rw [show ((R.eraseIdx i).map IL).eraseIdx j = ((R.eraseIdx i).eraseIdx j).map IL from erase_map ..]
      have le2 : ((R.eraseIdx i).eraseIdx j).length = n - 3 - k := by rw [List.length_eraseIdx_of_lt hj2]; omega
      have cA := hR.clu.ok A (hR.sub A (List.mem_of_getElem? hA))
      have cB := hR.clu.ok B (hR.sub B (List.mem_of_mem_eraseIdx (List.mem_of_getElem? hB)))
      have lA := rise_len (lo := 0) (hi := n) cA.2.1 cA.2.2 (by omega)
      have lB := rise_len (lo := 0) (hi := n) cB.2.1 cB.2.2 (by omega)
      walk_at "goW"
      refine CM_sortI fun N hp hs => ?_
      walk_at "goW"
      refine ⟨_, _, _, _, _, _, rfl, hR.step hA hB hp hs (by omega), ?_, ?_⟩
      · rw [List.length_append, le2]
        show n - 3 - k + 1 + (k + 1) = n - 1
        omega
      · rw [List.length_append, lF]
        show n - 1 + k + 1 = _
        omega
    · rintro Γ ⟨R, F, u, x, y, z, rfl, hR, lR, lF⟩
      walk_at "goW"
      exact q F hR.clu
end
/-! ### parts of tables, and tables so many times -/
section
variable {P : Program} {w : World} {K : PySem.W.Frag} {mg : Str → Option Value} {base : Heap}
/-- the table of some of the points -/
def subT (g : Nat → Nat → Rat) (ps : List Int) (i j : Nat) : Rat := g (ps.getD i 0).toNat (ps.getD j 0).toNat
theorem subT_tab (g : Nat → Nat → Rat) (ps : List Int) : tabG ps.length (subT g ps) = ps.map fun a => ps.map fun b => g a.toNat b.toNat := by
  have key : ∀ {α : Type} (f : Int → α), (List.range ps.length).map (fun i => f (ps.getD i 0)) = ps.map f := fun f => by
    apply List.ext_getElem
    · rw [List.length_map, List.length_map, List.length_range]
    · intro i h1 h2
      rw [List.length_map] at h2
      rw [List.getElem_map, List.getElem_map, List.getElem_range, List.getD_eq_getElem?_getD, List.getElem?_eq_getElem h2]; rfl
  unfold tabG subT
  rw [← key fun a => ps.map fun b => g a.toNat b.toNat]
  apply List.map_congr_left
  intro i _
  exact key fun b => g (ps.getD i 0).toNat b.toNat
def pPartOf : Pre := fun ds Q => ∃ (n : Nat) (g : Nat → Nat → Rat) (ps : List Int), ds = [TD (tabG n g), IL ps] ∧ n ≤ 100 ∧ ps ≠ [] ∧ ps.Nodup ∧ ps.length ≤ 100 ∧ (∀ x ∈ ps, 0 ≤ x ∧ x < n) ∧ Q (.li (.li .lf)) (TD (tabG ps.length (subT g ps)))
def pTimes : Pre := fun ds Q => ∃ x y : Rat, ds = [FD x, FD y] ∧ Bd 4000 x ∧ Bd 4000 y ∧ Q .lf (FD (x * y))
def pTimesT : Pre := fun ds Q => ∃ (x : Rat) (n : Nat) (g : Nat → Nat → Rat), ds = [FD x, TD (tabG n g)] ∧ n ≤ 100 ∧ 0 ≤ x.num ∧ Bd 4000 x ∧ (∀ i j, Bd 4000 (g i j)) ∧ Q (.li (.li .lf)) (TD (tabG n fun i j => x * g i j))
end
section
variable {P : Program} {w : World} {K : PySem.W.Frag} {mg : Str → Option Value} {base : Heap}
def p2F (f : Rat → Rat → Rat) : Pre := fun ds Q => ∃ x y : Rat, ds = [FD x, FD y] ∧ Bd 4000 x ∧ Bd 4000 y ∧ Q .lf (FD (f x y))
theorem ok_plus {f : Addr} {fd : FuncData} (F : Fun K "plus" "plus" s_plus f fd) (T : Tx K mg) (c_fraction : Cal P w K mg base 2 "fraction" (spV K pFraction) []) : FnOk P w K mg base CX0 3 f fd P_plus (spV K (p2F fun x y => x + y)) := by
  refine okV F sc_plus (fun ds Q h => ?_) fun cdv A outer s H E hr => ⟨_, (pss_one (ps_ret (pe_c c_fraction hr (by decide) rfl (pa_cons (pe_op op_add (pe_op op_mulW (pe_ix (k_ixT (K := K)) (pv 0) pe_int (fun _ _ => rfl)) (pe_ix (k_ixT (K := K)) (pv 1) pe_int (fun _ _ => rfl))) (pe_op op_mulW (pe_ix (k_ixT (K := K)) (pv 1) pe_int (fun _ _ => rfl)) (pe_ix (k_ixT (K := K)) (pv 0) pe_int (fun _ _ => rfl)))) (pa_cons (pe_op op_mulW (pe_ix (k_ixT (K := K)) (pv 0) pe_int (fun _ _ => rfl)) (pe_ix (k_ixT (K := K)) (pv 1) pe_int (fun _ _ => rfl))) pa_nil))))), fun ds Q h => ?_⟩
  · obtain ⟨_, _, rfl, _⟩ := h
    rfl
  · obtain ⟨x, y, rfl, bx, by', q⟩ := h
    have dx := den_pos' x
    have dy := den_pos' y
    walk_at "goK"
    refine OW_mul (mulW 4000 4000 bx.1 by'.2) ?_
    walk_at "goW"
    refine OW_mul (mulW 4000 4000 by'.1 bx.2) ?_
    walk_at "goW"
    refine OW_mul (mulW 4000 4000 bx.2 by'.2) ?_
    walk_at "goW"
    refine ⟨_, _, rfl, Int.ne_of_gt (Int.mul_pos dx dy), Nat.lt_trans (natAbs_mul_lt bx.2 by'.2) (Nat.pow_lt_pow_right (by decide) (by decide)), ?_⟩
    rw [plus_eq]
    exact q
def pBelow : Pre := fun ds Q => ∃ x y : Rat, ds = [FD x, FD y] ∧ Bd 4000 x ∧ Bd 4000 y ∧ Q .lf (.bool (decide (x < y)))
theorem ok_is_below {f : Addr} {fd : FuncData} (F : Fun K "is_below" "is_below" s_is_below f fd) (T : Tx K mg) : FnOk P w K mg base CX0 1 f fd P_is_below (spV K pBelow) := by
  refine okV F sc_is_below (fun ds Q h => ?_) fun cdv A outer s H E hr => ⟨_, (pss_one (ps_ret (pe_cmpR op_lt (pe_op op_mulW (pe_ix (k_ixT (K := K)) (pv 0) pe_int (fun _ _ => rfl)) (pe_ix (k_ixT (K := K)) (pv 1) pe_int (fun _ _ => rfl))) (pe_op op_mulW (pe_ix (k_ixT (K := K)) (pv 1) pe_int (fun _ _ => rfl)) (pe_ix (k_ixT (K := K)) (pv 0) pe_int (fun _ _ => rfl))) (nomark _)))), fun ds Q h => ?_⟩
  · obtain ⟨_, _, rfl, _⟩ := h
    rfl
  · obtain ⟨x, y, rfl, bx, by', q⟩ := h
    walk_at "goK"
    refine OW_mul (mulW 4000 4000 bx.1 by'.2) ?_
    walk_at "goW"
    refine OW_mul (mulW 4000 4000 by'.1 bx.2) ?_
    walk_at "goW"
    rw [lt_eq]
    exact q
end
section
variable {P : Program} {w : World} {K : PySem.W.Frag} {mg : Str → Option Value} {base : Heap}
/-- what is alike to itself: ints and texts, and what a lesser look finds alike -/
def AlOk (pa : Pre) : PyData → Prop
  | .int _ => True
  | .str _ => True
  | .list ds => ds.length < 100000 ∧ ∀ x ∈ ds, ∀ Q : Own → PyData → Prop, Q .lf (.bool true) → pa [x, x] Q
  | .tuple ds => ds.length < 100000 ∧ ∀ x ∈ ds, ∀ Q : Own → PyData → Prop, Q .lf (.bool true) → pa [x, x] Q
  | _ => False
def pAl (pa : Pre) : Pre := fun ds Q => ∃ d, ds = [d, d] ∧ AlOk pa d ∧ Q .lf (.bool true)
def pAlike : Nat → Pre
  | 0 => fun _ _ => False
  | n + 1 => pAl (pAlike n)
theorem ok_alike1 {f : Addr} {fd : FuncData} {k : Nat} {pa : Pre} (F : Fun K "_law_alike" "_law_alike" s_l_alike f fd) (T : Tx K mg) (c_l_alike : Cal P w K mg base k "_law_alike" (spV K pa) []) : FnOk P w K mg base CX0 (k + 1) f fd P_l_alike (spV K (pAl pa)) := by
  refine okV F sc_l_alike (fun ds Q h => ?_) fun cdv A outer s H E hr => ⟨_, (pss_cons (ps_if (pt_val (pe_callB (k_isi (K := K)) (by rfl) T.isinstance_ (by decide +kernel) (pa_cons (pv 1) (pa_cons (pe_bltn (v := .ty "int") (by rfl) T.int_ (by decide +kernel) rfl) pa_nil))))
  (pss_one (ps_ret (pe_and (pe_callB (k_isi (K := K)) (by rfl) T.isinstance_ (by decide +kernel) (pa_cons (pv 0) (pa_cons (pe_bltn (v := .ty "int") (by rfl) T.int_ (by decide +kernel) rfl) pa_nil))) (pe_and (pe_not (pe_callB (k_isi (K := K)) (by rfl) T.isinstance_ (by decide +kernel) (pa_cons (pv 0) (pa_cons (pe_bltn (v := .ty "bool") (by rfl) T.bool_ (by decide +kernel) rfl) pa_nil)))) (pe_one (pe_cmpR op_eq (pv 0) (pv 1) (nomark _)))))))
  pss_nil)
  (pss_cons (ps_if (pt_val (pe_callB (k_isi (K := K)) (by rfl) T.isinstance_ (by decide +kernel) (pa_cons (pv 1) (pa_cons (pe_bltn (v := .ty "str") (by rfl) T.str_ (by decide +kernel) rfl) pa_nil))))
  (pss_one (ps_ret (pe_and (pe_callB (k_isi (K := K)) (by rfl) T.isinstance_ (by decide +kernel) (pa_cons (pv 0) (pa_cons (pe_bltn (v := .ty "str") (by rfl) T.str_ (by decide +kernel) rfl) pa_nil))) (pe_one (pe_cmpR op_eq (pv 0) (pv 1) (nomark _))))))
  pss_nil)
  (pss_cons (ps_if (PW.pt (pw_or (pt_cmpR op_ne (pe_callB (k_isi (K := K)) (by rfl) T.isinstance_ (by decide +kernel) (pa_cons (pv 1) (pa_cons (pe_bltn (v := .ty "tuple") (by rfl) T.tuple_ (by decide +kernel) rfl) pa_nil))) (pe_callB (k_isi (K := K)) (by rfl) T.isinstance_ (by decide +kernel) (pa_cons (pv 0) (pa_cons (pe_bltn (v := .ty "tuple") (by rfl) T.tuple_ (by decide +kernel) rfl) pa_nil))) (nomark _)) (pw_or1 (pt_cmpR op_ne (pe_callB (k_isi (K := K)) (by rfl) T.isinstance_ (by decide +kernel) (pa_cons (pv 1) (pa_cons (pe_bltn (v := .ty "list") (by rfl) T.list_ (by decide +kernel) rfl) pa_nil))) (pe_callB (k_isi (K := K)) (by rfl) T.isinstance_ (by decide +kernel) (pa_cons (pv 0) (pa_cons (pe_bltn (v := .ty "list") (by rfl) T.list_ (by decide +kernel) rfl) pa_nil))) (nomark _)))))
  (pss_one (ps_ret pe_bl))
  pss_nil)
  (pss_cons (ps_if (pt_cmpR op_ne (pe_callB (k_len (K := K)) (by rfl) T.len_ (by decide +kernel) (pa_cons (pv 0) pa_nil)) (pe_callB (k_len (K := K)) (by rfl) T.len_ (by decide +kernel) (pa_cons (pv 1) pa_nil)) (nomark _))
  (pss_one (ps_ret pe_bl))
  pss_nil)
  (pss_cons (ps_for PassesOwn.never rfl (k_zipA (K := K) (by rfl) T.zip_ (pa_cons (pv 0) (pa_cons (pv 1) pa_nil))) (k_tup (K := K) (n := 2) rfl (pgs_cons (pg_name (i := 2) sc_l_alike.nd rfl (Or.inl rfl)) (pgs_cons (pg_name (i := 3) sc_l_alike.nd rfl (Or.inl rfl)) pgs_nil)))
  (pss_one (ps_if (pt_not (pt_val (pe_c c_l_alike hr (Nat.le_refl _) rfl (pa_cons (pv 2) (pa_cons (pv 3) pa_nil)))))
  (pss_one (ps_ret pe_bl))
  pss_nil)))
  (pss_one (ps_ret pe_bl))))))), fun ds Q h => ?_⟩
  · obtain ⟨_, rfl, _⟩ := h
    rfl
  · obtain ⟨d, rfl, ha, q⟩ := h
    cases d with
    | none => exact ha.elim
    | bool b => exact ha.elim
    | dict _ => exact ha.elim
    | int i =>
      walk_at "goK"
      rw [decide_eq_true rfl]
      exact q
    | str z =>
      walk_at "goK"
      rw [decide_eq_true rfl]
      exact q
    | list ds =>
      obtain ⟨hl, ha⟩ := ha
      walk_at "goK"
      refine ifN_known rfl ?_
      walk_at "goW"
      refine ifN_known rfl ?_
      walk_at "goW"
      refine ifN_known rfl ?_
      walk_at "goW"
      refine ⟨fun i Γ => ∃ x y : Sl, Γ = [.v .lf (.list ds), .v .lf (.list ds), x, y], ⟨_, _, rfl⟩, ?_, ?_⟩
      · rintro i d Γ hd ⟨x, y, rfl⟩
        rw [List.getElem?_zipWith] at hd
        cases h1 : ds[i]? with
        | none => rw [h1] at hd; cases hd
        | some e =>
          rw [h1] at hd
          cases hd
          walk_at "goW"
          refine ha e (List.mem_of_getElem? h1) _ ?_
          walk_at "goW"
          exact ⟨_, _, rfl⟩
      · rintro Γ ⟨x, y, rfl⟩
        walk_at "goW"
        exact q
    | tuple ds =>
      obtain ⟨hl, ha⟩ := ha
      walk_at "goK"
      refine ifN_known rfl ?_
      walk_at "goW"
      refine ifN_known rfl ?_
      walk_at "goW"
      refine ifN_known rfl ?_
      walk_at "goW"
      refine ⟨fun i Γ => ∃ x y : Sl, Γ = [.v .lf (.tuple ds), .v .lf (.tuple ds), x, y], ⟨_, _, rfl⟩, ?_, ?_⟩
      · rintro i d Γ hd ⟨x, y, rfl⟩
        rw [List.getElem?_zipWith] at hd
        cases h1 : ds[i]? with
        | none => rw [h1] at hd; cases hd
        | some e =>
          rw [h1] at hd
          cases hd
          walk_at "goW"
          refine ha e (List.mem_of_getElem? h1) _ ?_
          walk_at "goW"
          exact ⟨_, _, rfl⟩
      · rintro Γ ⟨x, y, rfl⟩
        walk_at "goW"
        exact q
theorem ok_l_alike {f : Addr} {fd : FuncData} (F : Fun K "_law_alike" "_law_alike" s_l_alike f fd) (T : Tx K mg) (g : mg "_law_alike" = some (.ref f)) (b : Binds K fd P_l_alike []) : FnOk P w K mg base CX0 8 f fd P_l_alike (spV K (pAlike 8)) := by
  have : ∀ n, FnOk P w K mg base CX0 n f fd P_l_alike (spV K (pAlike n)) := fun n => by
    induction n with
    | zero => exact ⟨fun vs H Q E ⟨_, _, _, _, _, h, _⟩ => h.elim, fun A outer s H args us vs Q E hr he hb hv ⟨_, _, _, _, _, h, _⟩ => h.elim⟩
    | succ n ih => exact ok_alike1 F T (cal_of ih F b g)
  exact this 8
end
/-! ### what is alike -/
section
variable {Q : Own → PyData → Prop} {n : Nat}
theorem al_int {i : Int} (q : Q .lf (.bool true)) : pAlike (n + 1) [.int i, .int i] Q := ⟨_, rfl, trivial, q⟩
theorem al_str {z : Str} (q : Q .lf (.bool true)) : pAlike (n + 1) [.str z, .str z] Q := ⟨_, rfl, trivial, q⟩
theorem al_lst {ds : List PyData} (l : ds.length < 100000) (h : ∀ x ∈ ds, ∀ Q : Own → PyData → Prop, Q .lf (.bool true) → pAlike n [x, x] Q) (q : Q .lf (.bool true)) : pAlike (n + 1) [.list ds, .list ds] Q := ⟨_, rfl, ⟨l, h⟩, q⟩
theorem al_tup {ds : List PyData} (l : ds.length < 100000) (h : ∀ x ∈ ds, ∀ Q : Own → PyData → Prop, Q .lf (.bool true) → pAlike n [x, x] Q) (q : Q .lf (.bool true)) : pAlike (n + 1) [.tuple ds, .tuple ds] Q := ⟨_, rfl, ⟨l, h⟩, q⟩
theorem al_two {d e : PyData} (h1 : ∀ Q : Own → PyData → Prop, Q .lf (.bool true) → pAlike n [d, d] Q) (h2 : ∀ Q : Own → PyData → Prop, Q .lf (.bool true) → pAlike n [e, e] Q) (q : Q .lf (.bool true)) : pAlike (n + 1) [.tuple [d, e], .tuple [d, e]] Q := al_tup (by show 2 < 100000; decide) (fun x hx => by
  simp only [List.mem_cons, List.not_mem_nil, or_false] at hx
  rcases hx with rfl | rfl
  · exact h1
  · exact h2) q
theorem al_fd {x : Rat} (q : Q .lf (.bool true)) : pAlike (n + 2) [FD x, FD x] Q := al_two (fun _ q => al_int q) (fun _ q => al_int q) q
theorem al_map {α : Type} {f : α → PyData} {xs : List α} (l : xs.length < 100000) (h : ∀ x ∈ xs, ∀ Q : Own → PyData → Prop, Q .lf (.bool true) → pAlike n [f x, f x] Q) (q : Q .lf (.bool true)) : pAlike (n + 1) [.list (xs.map f), .list (xs.map f)] Q := al_lst (by rw [List.length_map]; exact l) (fun x hx => by
  obtain ⟨y, hy, rfl⟩ := List.mem_map.mp hx
  exact h y hy) q
theorem al_il {ns : List Int} (l : ns.length < 100000) (q : Q .lf (.bool true)) : pAlike (n + 2) [IL ns, IL ns] Q := al_map l (fun _ _ _ q => al_int q) q
theorem al_cd {u : List Int × Rat} (l : u.1.length < 100000) (q : Q .lf (.bool true)) : pAlike (n + 3) [CD u, CD u] Q := al_two (fun _ q => al_il l q) (fun _ q => al_fd q) q
theorem al_wd {us : List (List Int × Rat)} (l : us.length < 100000) (h : ∀ u ∈ us, u.1.length < 100000) (q : Q .lf (.bool true)) : pAlike (n + 4) [WD us, WD us] Q := al_map l (fun u hu _ q => al_cd (h u hu) q) q
theorem al_td {m : Nat} {g : Nat → Nat → Rat} (l : m < 100000) (q : Q .lf (.bool true)) : pAlike (n + 4) [TD (tabG m g), TD (tabG m g)] Q := al_map (by rw [tabG_len]; exact l) (fun r hr _ q => al_map (by
  unfold tabG at hr
  obtain ⟨i, _, rfl⟩ := List.mem_map.mp hr
  rw [List.length_map, List.length_range]; exact l) (fun _ _ _ q => al_fd q) q) q
theorem al_tree {us : List (List Int × Rat)} {z : Str} (l : us.length < 100000) (h : ∀ u ∈ us, u.1.length < 100000) (q : Q .lf (.bool true)) : pAlike (n + 5) [.tuple [.str z, WD us], .tuple [.str z, WD us]] Q := al_two (fun _ q => al_str q) (fun _ q => al_wd l h q) q
end
theorem zw_map {α β : Type} {f : α → PyData} {g : β → PyData} : ∀ (xs : List α) (ys : List β), List.zipWith (fun x y => PyData.tuple [x, y]) (xs.map f) (ys.map g) = (xs.zip ys).map fun u => .tuple [f u.1, g u.2]
  | [], _ => by simp
  | _ :: _, [] => by simp
  | x :: xs, y :: ys => by
    rw [List.map_cons, List.map_cons, List.zipWith_cons_cons, zw_map xs ys]; rfl
/-! ### the first three points out of order -/
def firstS (n : Nat) (f : Nat → Nat → Nat → Bool) : Option (Nat × Nat × Nat) :=
  (List.range n).findSome? fun i => (List.range n).findSome? fun j => (List.range n).findSome? fun k => if f i j k then some (i, j, k) else none
theorem fs_none {α : Type} {n : Nat} {f : Nat → Option α} : (List.range n).findSome? f = none ↔ ∀ i, i < n → f i = none := by
  rw [List.findSome?_eq_none_iff]
  exact ⟨fun h i hi => h i (List.mem_range.mpr hi), fun h i hi => h i (List.mem_range.mp hi)⟩
theorem fs_hit {α : Type} {n i : Nat} {f : Nat → Option α} {y : α} (h : ∀ j, j < i → f j = none) (e : f i = some y) (hi : i < n) : (List.range n).findSome? f = some y := by
  induction n with
  | zero => omega
  | succ n ih =>
    rw [List.range_succ, List.findSome?_append]
    by_cases c : i < n
    · rw [ih c]; rfl
    · have : i = n := by omega
      subst this
      rw [fs_none.mpr h]
      simp [e]
def shortB (g : Nat → Nat → Rat) (i j k : Nat) : Bool := decide (i ≠ j) && decide (j ≠ k) && decide (i ≠ k) && decide (g i j + g j k < g i k)
abbrev SD : Option (Nat × Nat × Nat) → PyData
  | none => .none
  | some (i, j, k) => .tuple [.int (i : Int), .int (j : Int), .int (k : Int)]
theorem nub3 (i j k : Nat) : (nub [(i : Int), (j : Int), (k : Int)]).length = 3 ↔ i ≠ j ∧ j ≠ k ∧ i ≠ k := by
  have h := nub_full (ns := [(i : Int), (j : Int), (k : Int)])
  rw [show [(i : Int), (j : Int), (k : Int)].length = 3 from rfl] at h
  rw [h]
  simp only [List.nodup_cons, List.mem_cons, List.not_mem_nil, or_false, not_or, not_false_eq_true, List.nodup_nil, and_true]
  omega
section
variable {P : Program} {w : World} {K : PySem.W.Frag} {mg : Str → Option Value} {base : Heap}
def pShort : Pre := fun ds Q => ∃ (n : Nat) (g : Nat → Nat → Rat), ds = [TD (tabG n g)] ∧ n ≤ 1000 ∧ (∀ i j, Bd 1900 (g i j)) ∧ Q .lf (SD (firstS n (shortB g)))
theorem ok_first_short {f : Addr} {fd : FuncData} (F : Fun K "first_short" "first_short" s_first_short f fd) (T : Tx K mg) (c_plus : Cal P w K mg base 3 "plus" (spV K (p2F fun x y => x + y)) []) (c_is_below : Cal P w K mg base 1 "is_below" (spV K pBelow) []) : FnOk P w K mg base CX0 4 f fd P_first_short (spV K pShort) := by
  refine okVc F sc_first_short (fun ds Q h => ?_) fun cdv hcd A outer s H E hr => ⟨_, (pss_cons (ps_set (i := 1) sc_first_short.nd rfl (Or.inl rfl) (pe_callB (k_len (K := K)) (by rfl) T.len_ (by decide +kernel) (pa_cons (pv 0) pa_nil)))
  (pss_cons (ps_for PassesOwn.never rfl (pi_range1 (by rfl) T.range_ (pa_cons (pv 1) pa_nil)) (pg_name (i := 2) sc_first_short.nd rfl (Or.inl rfl))
  (pss_one (ps_for PassesOwn.never rfl (pi_range1 (by rfl) T.range_ (pa_cons (pv 1) pa_nil)) (pg_name (i := 3) sc_first_short.nd rfl (Or.inl rfl))
  (pss_one (ps_for PassesOwn.never rfl (pi_range1 (by rfl) T.range_ (pa_cons (pv 1) pa_nil)) (pg_name (i := 4) sc_first_short.nd rfl (Or.inl rfl))
  (pss_one (ps_if (PW.pt (pw_and (pt_cmpR op_eq (pe_len3 (i := 2) (j := 3) (k := 4) (by rfl) T.len_ (kdsCode_of hcd)) pe_int (nomark _)) (pw_and1 (pt_val (pe_c c_is_below hr (by decide) rfl (pa_cons (pe_c c_plus hr (by decide) rfl (pa_cons (pe_ix (k_ixL (K := K)) (pe_ix (k_ixL (K := K)) (pv 0) (pv 2) (fun _ _ => rfl)) (pv 3) (fun _ _ => rfl)) (pa_cons (pe_ix (k_ixL (K := K)) (pe_ix (k_ixL (K := K)) (pv 0) (pv 3) (fun _ _ => rfl)) (pv 4) (fun _ _ => rfl)) pa_nil))) (pa_cons (pe_ix (k_ixL (K := K)) (pe_ix (k_ixL (K := K)) (pv 0) (pv 2) (fun _ _ => rfl)) (pv 4) (fun _ _ => rfl)) pa_nil)))))))
  (pss_one (ps_ret (pe_tup (pa_cons (pv 2) (pa_cons (pv 3) (pa_cons (pv 4) pa_nil))))))
  pss_nil)))))))
  (pss_one (ps_ret pe_non)))), fun ds Q h => ?_⟩
  · obtain ⟨_, _, rfl, _⟩ := h
    rfl
  · obtain ⟨n, g, rfl, hn, bg, q⟩ := h
    have b4 : ∀ i j, Bd 4000 (g i j) := fun i j => (bg i j).mono (by decide)
    walk_at "goK"
    refine ForB_rng (fun i Γ => ∃ (x y z : Sl), Γ = [.v .lf (TD (tabG n g)), .v .lf (.int n), x, y, z] ∧ ∀ i', i' < i → ∀ j k, j < n → k < n → shortB g i' j k = false) ⟨_, _, _, rfl, fun _ h => by omega⟩ ?_ ?_
    · rintro i Γ hi ⟨x, y, z, rfl, ni⟩
      walk_at "goW"
      refine ForB_rng (fun j Γ => ∃ (y z : Sl), Γ = [.v .lf (TD (tabG n g)), .v .lf (.int n), .v .lf (.int i), y, z] ∧ ∀ j', j' < j → ∀ k, k < n → shortB g i j' k = false) ⟨_, _, rfl, fun _ h => by omega⟩ ?_ ?_
      · rintro j Γ hj ⟨y, z, rfl, nj⟩
        walk_at "goW"
        refine ForB_rng (fun k Γ => ∃ (z : Sl), Γ = [.v .lf (TD (tabG n g)), .v .lf (.int n), .v .lf (.int i), .v .lf (.int j), z] ∧ ∀ k', k' < k → shortB g i j k' = false) ⟨_, rfl, fun _ h => by omega⟩ ?_ ?_
        · rintro k Γ hk ⟨z, rfl, nk⟩
          have step : shortB g i j k = false → ∀ k', k' < k + 1 → shortB g i j k' = false := fun h k' hk' => by
            by_cases c : k' = k
            · rw [c]; exact h
            · exact nk k' (by omega)
          have key : ∀ {b}, decide ((((nub [(i : Int), (j : Int), (k : Int)]).length : Nat) : Int) = 3) = b → b = (decide (i ≠ j) && decide (j ≠ k) && decide (i ≠ k)) := fun h => by
            rw [← h]
            have := nub3 i j k
            by_cases c : i ≠ j ∧ j ≠ k ∧ i ≠ k
            · rw [decide_eq_true (by have := this.mpr c; omega), decide_eq_true c.1, decide_eq_true c.2.1, decide_eq_true c.2.2]; rfl
            · rw [decide_eq_false (fun z => c (this.mp (by omega)))]
              by_cases c1 : i = j <;> by_cases c2 : j = k <;> by_cases c3 : i = k <;> simp [c1, c2, c3] at c ⊢
          walk_at "goW"
          generalize hb : decide ((((nub [(i : Int), (j : Int), (k : Int)]).length : Nat) : Int) = 3) = b
          have hb := key hb
          refine ifB (fun h => ?_) (fun h => ?_)
          · walk_at "goW"
            refine ⟨_, _, rfl, b4 _ _, b4 _ _, ?_⟩
            walk_at "goW"
            refine ⟨_, _, rfl, (Bd_add (bg _ _) (bg _ _)).mono (by decide), b4 _ _, ?_⟩
            walk_at "goW"
            have e : shortB g i j k = decide (g i j + g j k < g i k) := by
              unfold shortB
              rw [← hb, h, Bool.true_and]
            refine ifD (fun h2 => ?_) (fun h2 => ?_)
            · walk_at "goW"
              have : firstS n (shortB g) = some (i, j, k) := by
                unfold firstS
                refine fs_hit (i := i) (fun i' h' => fs_none.mpr fun j' hj' => fs_none.mpr fun k' hk' => ?_) (fs_hit (i := j) (fun j' h' => fs_none.mpr fun k' hk' => ?_) (fs_hit (i := k) (fun k' h' => ?_) ?_ hk) hj) hi
                · rw [ni i' h' j' k' hj' hk']; rfl
                · rw [nj j' h' k' hk']; rfl
                · rw [nk k' h']; rfl
                · rw [e, decide_eq_true h2]; rfl
              rw [this] at q
              exact q
            · walk_at "goW"
              exact ⟨_, rfl, step (by rw [e]; exact decide_eq_false h2)⟩
          · walk_at "goW"
            refine ⟨_, rfl, step ?_⟩
            unfold shortB
            rw [← hb, h, Bool.false_and]
        · rintro Γ ⟨z, rfl, nk⟩
          refine ⟨_, _, rfl, fun j' h' k hk => ?_⟩
          by_cases c : j' = j
          · rw [c]; exact nk k hk
          · exact nj j' (by omega) k hk
      · rintro Γ ⟨y, z, rfl, nj⟩
        refine ⟨_, _, _, rfl, fun i' h' j k hj hk => ?_⟩
        by_cases c : i' = i
        · rw [c]; exact nj j hj k hk
        · exact ni i' (by omega) j k hj hk
    · rintro Γ ⟨x, y, z, rfl, ni⟩
      walk_at "goW"
      have : firstS n (shortB g) = none := by
        unfold firstS
        exact fs_none.mpr fun i hi => fs_none.mpr fun j hj => fs_none.mpr fun k hk => by rw [ni i hi j k hj hk]; rfl
      rw [this] at q
      exact q
end
/-! ### whole rows, fours -/
section
variable {P : Program} {w : World} {K : PySem.W.Frag} {mg : Str → Option Value} {base : Heap}
def pWholes : Pre := fun ds Q => ∃ (n : Nat) (g : Nat → Nat → Rat) (b : Int), ds = [TD (tabG n g)] ∧ n ≤ 100 ∧ 0 < b ∧ IB 2000 b ∧ (∀ i j, i < n → j < n → ((g i j).den : Int) ∣ b) ∧ (∀ i j, Bd 4000 (g i j)) ∧
  ∀ B, 0 < B → B ∣ b → (∀ i j, i < n → j < n → ((g i j).den : Int) ∣ B) → Q (.t2 (.li (.li .lf)) .lf) (.tuple [LD (tabG n (whl g B)), .int B])
theorem ib_dvd {k : Nat} {a b : Int} (h : a ∣ b) (hb : 0 < b) (hk : IB k b) : IB k a := by
  unfold IB at *
  exact Nat.lt_of_le_of_lt (Nat.le_of_dvd (by omega) (Int.natAbs_dvd_natAbs.mpr h)) hk
theorem lcm_dvd {b d m : Int} {G : Nat} (hb : 0 < b) (hd : 0 < d) (e : G = Int.gcd b d) (h1 : b ∣ m) (h2 : d ∣ m) : b / (G : Int) * d ∣ m := by
  have g1 : (G : Int) ∣ b := by rw [e]; exact Int.gcd_dvd_left ..
  have e2 : b / (G : Int) * d = (Int.lcm b d : Int) := by
    rw [Int.mul_comm, ← Int.mul_ediv_assoc _ g1, Int.mul_comm, e]
    unfold Int.lcm Int.gcd Nat.lcm
    rw [Int.natCast_ediv, Int.natCast_mul, Int.natAbs_of_nonneg (by omega), Int.natAbs_of_nonneg (by omega)]
  rw [e2]
  exact Int.coe_lcm_dvd h1 h2
theorem ok_whole_rows {f : Addr} {fd : FuncData} (F : Fun K "whole_rows" "whole_rows" s_whole_rows f fd) (T : Tx K mg) (c_common_of : Cal P w K mg base 1 "common_of" (spV K pCommon) []) : FnOk P w K mg base CX0 2 f fd P_whole_rows (spV K pWholes) := by
  refine okV F sc_whole_rows (fun ds Q h => ?_) fun cdv A outer s H E hr => ⟨_, (pss_cons (ps_set (i := 1) sc_whole_rows.nd rfl (Or.inr rfl) pe_int)
  (pss_cons (ps_for PassesOwn.never rfl (k_piL (K := K) (pv 0)) (pg_name (i := 2) sc_whole_rows.nd rfl (Or.inl rfl))
  (pss_one (ps_for PassesOwn.never rfl (k_piL (K := K) (pv 2)) (k_tup (K := K) (n := 2) rfl (pgs_cons (pg_name (i := 3) sc_whole_rows.nd rfl (Or.inl rfl)) (pgs_cons (pg_name (i := 4) sc_whole_rows.nd rfl (Or.inl rfl)) pgs_nil)))
  (pss_one (ps_set (i := 1) sc_whole_rows.nd rfl (Or.inr rfl) (pe_op op_mulW (pe_op op_fdivW (pv 1) (pe_c c_common_of hr (by decide) rfl (pa_cons (pv 1) (pa_cons (pv 4) pa_nil)))) (pv 4)))))))
  (pss_one (ps_ret (pe_tup (pa_cons (pe_lc (own := [("row", 2)]) (g := gName 2) (tt := tYes) rfl sc_whole_rows.nd (k_piL (K := K) (pv 0)) (blkOk_by (own := [("row", 2)]) (N := N_whole_rows) (sc := defScope s_whole_rows) (by decide +kernel)) (fun _ _ _ _ _ => (pg_name (i := 2) sc_whole_rows.nd rfl (Or.inl rfl))) (fun _ _ _ _ _ => pts_nil) (fun _ _ _ _ _ => (pe_lc (own := [("top", 3), ("low", 4)]) (tt := tYes) rfl sc_whole_rows.nd (k_piL (K := K) (pv 2)) (blkOk_by (own := [("top", 3), ("low", 4)]) (by rfl)) (fun _ _ _ _ _ => (k_tup (K := K) (n := 2) rfl (pgs_cons (pg_name (i := 3) sc_whole_rows.nd rfl (Or.inl rfl)) (pgs_cons (pg_name (i := 4) sc_whole_rows.nd rfl (Or.inl rfl)) pgs_nil)))) (fun _ _ _ _ _ => pts_nil) (fun _ _ _ _ _ => (pe_op op_mulW (pv 3) (pe_op op_fdivW (pv 1) (pv 4))))))) (pa_cons (pv 1) pa_nil))))))), fun ds Q h => ?_⟩
  · obtain ⟨_, _, _, rfl, _⟩ := h
    rfl
  · obtain ⟨n, g, b, rfl, hn, b0, bb, dv, bg, q⟩ := h
    walk_at "goK"
    refine ForB_map (fun i Γ => ∃ (B : Int) (x y z : Sl), Γ = [.v .lf (TD (tabG n g)), .v .lf (.int B), x, y, z] ∧ 0 < B ∧ B ∣ b ∧ ∀ i' j, i' < i → j < n → ((g i' j).den : Int) ∣ B) ⟨1, _, _, _, rfl, by decide, Int.one_dvd _, fun _ _ h => by omega⟩ ?_ ?_
    · rintro i r Γ hr ⟨B, x, y, z, rfl, B0, Bd', hB⟩
      have hi : i < n := by
        have := (List.getElem?_eq_some_iff.mp hr).1
        rwa [tabG_len] at this
      rw [tabG_at hi] at hr
      cases hr
      walk_at "goW"
      refine ForB_map (fun j Γ => ∃ (B : Int) (y z : Sl), Γ = [.v .lf (TD (tabG n g)), .v .lf (.int B), .v .lf (FL (rowG n (g i))), y, z] ∧ 0 < B ∧ B ∣ b ∧ (∀ i' j, i' < i → j < n → ((g i' j).den : Int) ∣ B) ∧ ∀ j', j' < j → ((g i j').den : Int) ∣ B) ⟨B, _, _, rfl, B0, Bd', hB, fun _ h => by omega⟩ ?_ ?_
      · clear hB Bd' B0 B
        rintro j c Γ hc ⟨B, y, z, rfl, B0, Bd', hB, hB2⟩
        have hj : j < n := by
          have := (List.getElem?_eq_some_iff.mp hc).1
          rwa [rowG_len] at this
        rw [rowG_at hj] at hc
        cases hc
        obtain ⟨p1, d1, d2, g0, g1, q0, q1⟩ := lcm_step B0 (den_pos' (g i j)) rfl
        have dl := lcm_dvd B0 (den_pos' (g i j)) rfl Bd' (dv i j hi hj)
        walk_at "goW"
        refine ⟨_, _, rfl, ?_⟩
        walk_at "goW"
        have bB := ib_dvd Bd' b0 bb
        refine OW_div (wide_div (b := 4000) g0 (by have := (bg i j).2; omega) (by decide) (by decide)) ?_
        walk_at "goW"
        refine OW_mul (IB.mulW (n := 2000) (m := 4000) (by unfold IB at *; omega) (bg i j).2 (by decide)) ?_
        walk_at "goW"
        refine ⟨_, _, _, rfl, p1, dl, fun i' j' h1 h2 => Int.dvd_trans (hB i' j' h1 h2) d1, fun j' h => ?_⟩
        by_cases c : j' = j
        · rw [c]; exact d2
        · exact Int.dvd_trans (hB2 j' (by omega)) d1
      · clear hB Bd' B0 B
        rintro Γ ⟨B, y, z, rfl, B0, Bd', hB, hB2⟩
        rw [rowG_len] at hB2
        refine ⟨_, _, _, _, rfl, B0, Bd', fun i' j h1 h2 => ?_⟩
        by_cases c : i' = i
        · rw [c]; exact hB2 j h2
        · exact hB i' j (by omega) h2
    · rintro Γ ⟨B, x, y, z, rfl, B0, Bd', hB⟩
      rw [tabG_len] at hB
      have bB := ib_dvd Bd' b0 bb
      refine SW_un 3 (SW_un 4 ?_)
      walk_at "goW"
      refine LcB_m (.li .lf) (fun r => IL (r.map fun u : Rat => u.num * (B / (u.den : Int)))) (by rw [tabG_len]; omega) (fun r hr => ?_) ?_
      · unfold tabG at hr
        obtain ⟨i, hi, rfl⟩ := List.mem_map.mp hr
        have hi := List.mem_range.mp hi
        refine GC_name (by decide) ?_
        walk_at "goW"
        refine LcB_m .lf (fun u : Rat => .int (u.num * (B / (u.den : Int)))) (by rw [List.length_map, List.length_range]; omega) (fun u hu => ?_) ?_
        · obtain ⟨j, hj, rfl⟩ := List.mem_map.mp hu
          have hj := List.mem_range.mp hj
          walk_at "goW"
          refine GC_name (by decide) ?_
          walk_at "goW"
          refine GC_name (by decide) ?_
          walk_at "goW"
          have hd := den_pos' (g i j)
          refine OW_div (wide_div (b := 4000) hd (by have := (bg i j).2; omega) (by decide) (by decide)) ?_
          walk_at "goW"
          have hq : B / ((g i j).den : Int) ≤ B := Int.ediv_le_self _ (by omega)
          have hq0 : 0 ≤ B / ((g i j).den : Int) := Int.ediv_nonneg (by omega) (by omega)
          refine OW_mul (IB.mulW (n := 4000) (m := 2000) (bg i j).1 (by unfold IB at *; omega) (by decide)) ?_
          walk_at "goW"
          exact ⟨.inl rfl, rfl, rfl⟩
        · rw [show ((List.range n).map (g i)).map (fun u : Rat => PyData.int (u.num * (B / (u.den : Int)))) = (((List.range n).map (g i)).map fun u : Rat => u.num * (B / (u.den : Int))).map PyData.int by rw [List.map_map (g := PyData.int)]; rfl]
          exact ⟨.inl rfl, rfl, rfl⟩
      · rw [show (tabG n g).map (fun r => IL (r.map fun u : Rat => u.num * (B / (u.den : Int)))) = (tabG n (whl g B)).map IL by
          unfold tabG
          rw [List.map_map, List.map_map]
          apply List.map_congr_left
          intro i _
          show IL _ = IL _
          rw [List.map_map]; rfl]
        walk_at "goW"
        exact q B B0 Bd' hB
/-- three sums of four points -/
def sum1 (r : Nat → Nat → Int) (i j k l : Nat) : Int := r i j + r k l
def pThree : Pre := fun ds Q => ∃ (n : Nat) (r : Nat → Nat → Int) (i j k l : Nat), ds = [LD (tabG n r), .int i, .int j, .int k, .int l] ∧ i < n ∧ j < n ∧ k < n ∧ l < n ∧ ∀ x y z, [x, y, z].Perm [r i j + r k l, r i k + r j l, r i l + r j k] → x ≤ y → y ≤ z → Q (.li .lf) (.list [.int x, .int y, .int z])
theorem ok_three_sums {f : Addr} {fd : FuncData} (F : Fun K "three_sums" "three_sums" s_three_sums f fd) (T : Tx K mg) : FnOk P w K mg base CX0 1 f fd P_three_sums (spV K pThree) := by
  refine okV F sc_three_sums (fun ds Q h => ?_) fun cdv A outer s H E hr => ⟨_, (pss_one (ps_ret (pe_callB (k_sortedI (K := K)) (by rfl) T.sorted_ (by decide +kernel) (pa_cons (pe_lst (pa_cons (pe_op op_add (pe_ix (k_ixL (K := K)) (pe_ix (k_ixL (K := K)) (pv 0) (pv 1) (fun _ _ => rfl)) (pv 2) (fun _ _ => rfl)) (pe_ix (k_ixL (K := K)) (pe_ix (k_ixL (K := K)) (pv 0) (pv 3) (fun _ _ => rfl)) (pv 4) (fun _ _ => rfl))) (pa_cons (pe_op op_add (pe_ix (k_ixL (K := K)) (pe_ix (k_ixL (K := K)) (pv 0) (pv 1) (fun _ _ => rfl)) (pv 3) (fun _ _ => rfl)) (pe_ix (k_ixL (K := K)) (pe_ix (k_ixL (K := K)) (pv 0) (pv 2) (fun _ _ => rfl)) (pv 4) (fun _ _ => rfl))) (pa_cons (pe_op op_add (pe_ix (k_ixL (K := K)) (pe_ix (k_ixL (K := K)) (pv 0) (pv 1) (fun _ _ => rfl)) (pv 4) (fun _ _ => rfl)) (pe_ix (k_ixL (K := K)) (pe_ix (k_ixL (K := K)) (pv 0) (pv 2) (fun _ _ => rfl)) (pv 3) (fun _ _ => rfl))) pa_nil)))) pa_nil)))), fun ds Q h => ?_⟩
  · obtain ⟨_, _, _, _, _, _, rfl, _⟩ := h
    rfl
  · obtain ⟨n, r, i, j, k, l, rfl, hi, hj, hk, hl, q⟩ := h
    walk_at "goK"
    refine CM_sortI (ns := [r i j + r k l, r i k + r j l, r i l + r j k]) fun ns' hp hs => ?_
    have l3 := hp.length_eq
    match ns', l3 with
    | [x, y, z], _ =>
      simp at hs
      exact q x y z hp hs.1.1 hs.2
/-- one sum is greater than both others -/
def oddB (r : Nat → Nat → Int) (i j k l : Nat) : Bool :=
  decide (r i k + r j l < r i j + r k l ∧ r i l + r j k < r i j + r k l ∨ r i j + r k l < r i k + r j l ∧ r i l + r j k < r i k + r j l ∨ r i j + r k l < r i l + r j k ∧ r i k + r j l < r i l + r j k)
theorem odd_of {r : Nat → Nat → Int} {i j k l : Nat} {x y z : Int} (h : [x, y, z].Perm [r i j + r k l, r i k + r j l, r i l + r j k]) (h1 : x ≤ y) (h2 : y ≤ z) : decide (z > y) = oddB r i j k l := by
  unfold oddB
  generalize r i j + r k l = a at h ⊢
  generalize r i k + r j l = b at h ⊢
  generalize r i l + r j k = c at h ⊢
  apply decide_eq_decide.mpr
  rcases perm3 h with ⟨rfl, ⟨rfl, rfl⟩ | ⟨rfl, rfl⟩⟩ | ⟨rfl, ⟨rfl, rfl⟩ | ⟨rfl, rfl⟩⟩ | ⟨rfl, ⟨rfl, rfl⟩ | ⟨rfl, rfl⟩⟩ <;> omega
/-- the first four in order -/
def oddF (n : Nat) (r : Nat → Nat → Int) : Option (Nat × Nat × Nat × Nat) :=
  (List.range n).findSome? fun i => (List.range (n - (i + 1))).findSome? fun j' => (List.range (n - (i + 1 + j' + 1))).findSome? fun k' => (List.range (n - (i + 1 + j' + 1 + k' + 1))).findSome? fun l' =>
    if oddB r i (i + 1 + j') (i + 1 + j' + 1 + k') (i + 1 + j' + 1 + k' + 1 + l') then some (i, i + 1 + j', i + 1 + j' + 1 + k', i + 1 + j' + 1 + k' + 1 + l') else none
abbrev QD : Option (Nat × Nat × Nat × Nat) → PyData
  | none => .none
  | some (i, j, k, l) => .tuple [.int (i : Int), .int (j : Int), .int (k : Int), .int (l : Int)]
theorem oddF_none {n : Nat} {r : Nat → Nat → Int} : oddF n r = none ↔ ∀ i j k l, i < j → j < k → k < l → l < n → oddB r i j k l = false := by
  unfold oddF
  constructor
  · intro h i j k l h1 h2 h3 h4
    have h := fs_none.mp h i (by omega)
    have h := fs_none.mp h (j - (i + 1)) (by omega)
    rw [show i + 1 + (j - (i + 1)) = j by omega] at h
    have h := fs_none.mp h (k - (j + 1)) (by omega)
    rw [show j + 1 + (k - (j + 1)) = k by omega] at h
    have h := fs_none.mp h (l - (k + 1)) (by omega)
    rw [show k + 1 + (l - (k + 1)) = l by omega] at h
    cases c : oddB r i j k l with
    | false => rfl
    | true => rw [c] at h; cases h
  · intro h
    refine fs_none.mpr fun i hi => fs_none.mpr fun j hj => fs_none.mpr fun k hk => fs_none.mpr fun l hl => ?_
    rw [h _ _ _ _ (by omega) (by omega) (by omega) (by omega)]; rfl
def pOddF : Pre := fun ds Q => ∃ (n : Nat) (r : Nat → Nat → Int), ds = [LD (tabG n r)] ∧ n ≤ 100 ∧ Q .lf (QD (oddF n r))
theorem ok_first_odd_four {f : Addr} {fd : FuncData} (F : Fun K "first_odd_four" "first_odd_four" s_first_odd_four f fd) (T : Tx K mg) (c_three_sums : Cal P w K mg base 1 "three_sums" (spV K pThree) []) : FnOk P w K mg base CX0 2 f fd P_first_odd_four (spV K pOddF) := by
  refine okV F sc_first_odd_four (fun ds Q h => ?_) fun cdv A outer s H E hr => ⟨_, (pss_cons (ps_set (i := 1) sc_first_odd_four.nd rfl (Or.inl rfl) (pe_callB (k_len (K := K)) (by rfl) T.len_ (by decide +kernel) (pa_cons (pv 0) pa_nil)))
  (pss_cons (ps_for PassesOwn.never rfl (pi_range1 (by rfl) T.range_ (pa_cons (pv 1) pa_nil)) (pg_name (i := 2) sc_first_odd_four.nd rfl (Or.inl rfl))
  (pss_one (ps_for PassesOwn.never rfl (pi_range2 (by rfl) T.range_ (pa_cons (pe_op op_add (pv 2) pe_int) (pa_cons (pv 1) pa_nil))) (pg_name (i := 3) sc_first_odd_four.nd rfl (Or.inl rfl))
  (pss_one (ps_for PassesOwn.never rfl (pi_range2 (by rfl) T.range_ (pa_cons (pe_op op_add (pv 3) pe_int) (pa_cons (pv 1) pa_nil))) (pg_name (i := 4) sc_first_odd_four.nd rfl (Or.inl rfl))
  (pss_one (ps_for PassesOwn.never rfl (pi_range2 (by rfl) T.range_ (pa_cons (pe_op op_add (pv 4) pe_int) (pa_cons (pv 1) pa_nil))) (pg_name (i := 5) sc_first_odd_four.nd rfl (Or.inl rfl))
  (pss_cons (ps_asg (pe_c c_three_sums hr (by decide) rfl (pa_cons (pv 0) (pa_cons (pv 2) (pa_cons (pv 3) (pa_cons (pv 4) (pa_cons (pv 5) pa_nil)))))) (k_unl (K := K) (n := 3) rfl (pgs_cons (pg_name (i := 6) sc_first_odd_four.nd rfl (Or.inl rfl)) (pgs_cons (pg_name (i := 7) sc_first_odd_four.nd rfl (Or.inl rfl)) (pgs_cons (pg_name (i := 8) sc_first_odd_four.nd rfl (Or.inl rfl)) pgs_nil)))))
  (pss_one (ps_if (pt_cmpR op_gt (pv 8) (pv 7) (nomark _))
  (pss_one (ps_ret (pe_tup (pa_cons (pv 2) (pa_cons (pv 3) (pa_cons (pv 4) (pa_cons (pv 5) pa_nil)))))))
  pss_nil))))))))))
  (pss_one (ps_ret pe_non)))), fun ds Q h => ?_⟩
  · obtain ⟨_, _, rfl, _⟩ := h
    rfl
  · obtain ⟨n, r, rfl, hn, q⟩ := h
    walk_at "goK"
    refine ForB_rng (fun i Γ => ∃ (x3 x4 x5 x6 x7 x8 x2 : Sl), Γ = [.v .lf (LD (tabG n r)), .v .lf (.int n), x2, x3, x4, x5, x6, x7, x8] ∧ ∀ i', i' < i → ((List.range (n - (i' + 1))).findSome? fun j' => (List.range (n - (i' + 1 + j' + 1))).findSome? fun k' => (List.range (n - (i' + 1 + j' + 1 + k' + 1))).findSome? fun l' => if oddB r i' (i' + 1 + j') (i' + 1 + j' + 1 + k') (i' + 1 + j' + 1 + k' + 1 + l') then some (i', i' + 1 + j', i' + 1 + j' + 1 + k', i' + 1 + j' + 1 + k' + 1 + l') else none) = none) ⟨_, _, _, _, _, _, _, rfl, fun _ h => by omega⟩ ?_ ?_
    · rintro i Γ hi ⟨x3, x4, x5, x6, x7, x8, x2, rfl, ni⟩
      have hi : i < n := hi
      walk_at "goW"
      refine ForB_rng (fun j Γ => ∃ (x4 x5 x6 x7 x8 x3 : Sl), Γ = [.v .lf (LD (tabG n r)), .v .lf (.int n), .v .lf (.int i), x3, x4, x5, x6, x7, x8] ∧ ∀ j', j' < j → ((List.range (n - (i + 1 + j' + 1))).findSome? fun k' => (List.range (n - (i + 1 + j' + 1 + k' + 1))).findSome? fun l' => if oddB r i (i + 1 + j') (i + 1 + j' + 1 + k') (i + 1 + j' + 1 + k' + 1 + l') then some (i, i + 1 + j', i + 1 + j' + 1 + k', i + 1 + j' + 1 + k' + 1 + l') else none) = none) ⟨_, _, _, _, _, _, rfl, fun _ h => by omega⟩ ?_ ?_
      · rintro j Γ hj ⟨x4, x5, x6, x7, x8, x3, rfl, nj⟩
        walk_at "goW"
        refine ForB_rng (fun k Γ => ∃ (x5 x6 x7 x8 x4 : Sl), Γ = [.v .lf (LD (tabG n r)), .v .lf (.int n), .v .lf (.int i), .v .lf (.int ((i + 1 + j : Nat) : Int)), x4, x5, x6, x7, x8] ∧ ∀ k', k' < k → ((List.range (n - (i + 1 + j + 1 + k' + 1))).findSome? fun l' => if oddB r i (i + 1 + j) (i + 1 + j + 1 + k') (i + 1 + j + 1 + k' + 1 + l') then some (i, i + 1 + j, i + 1 + j + 1 + k', i + 1 + j + 1 + k' + 1 + l') else none) = none) ⟨_, _, _, _, _, rfl, fun _ h => by omega⟩ ?_ ?_
        · rintro k Γ hk ⟨x5, x6, x7, x8, x4, rfl, nk⟩
          walk_at "goW"
          refine ForB_rng (fun l Γ => ∃ (x6 x7 x8 x5 : Sl), Γ = [.v .lf (LD (tabG n r)), .v .lf (.int n), .v .lf (.int i), .v .lf (.int ((i + 1 + j : Nat) : Int)), .v .lf (.int ((i + 1 + j + 1 + k : Nat) : Int)), x5, x6, x7, x8] ∧ ∀ l', l' < l → (if oddB r i (i + 1 + j) (i + 1 + j + 1 + k) (i + 1 + j + 1 + k + 1 + l') then some (i, i + 1 + j, i + 1 + j + 1 + k, i + 1 + j + 1 + k + 1 + l') else none) = none) ⟨_, _, _, _, rfl, fun _ h => by omega⟩ ?_ ?_
          · rintro l Γ hl ⟨x6, x7, x8, x5, rfl, nl⟩
            walk_at "goW"
            refine ⟨n, r, i, i + 1 + j, i + 1 + j + 1 + k, i + 1 + j + 1 + k + 1 + l, rfl, hi, by omega, by omega, by omega, fun x y z hp h1 h2 => ?_⟩
            walk_at "goW"
            refine GW_unlB rfl ?_
            walk_at "goW"
            have e := odd_of hp h1 h2
            rw [e]
            refine ifB (fun h => ?_) (fun h => ?_)
            · walk_at "goW"
              have : oddF n r = some (i, i + 1 + j, i + 1 + j + 1 + k, i + 1 + j + 1 + k + 1 + l) := fs_hit ni (fs_hit nj (fs_hit nk (fs_hit nl (by rw [h]; rfl) hl) hk) hj) hi
              rw [this] at q
              exact q
            · walk_at "goW"
              refine ⟨_, _, _, _, rfl, fun l' h' => ?_⟩
              by_cases c : l' = l
              · rw [c, h]; rfl
              · exact nl l' (by omega)
          · rintro Γ ⟨x6, x7, x8, x5, rfl, nl⟩
            refine ⟨_, _, _, _, _, rfl, fun k' h' => ?_⟩
            by_cases c : k' = k
            · rw [c]; exact fs_none.mpr nl
            · exact nk k' (by omega)
        · rintro Γ ⟨x5, x6, x7, x8, x4, rfl, nk⟩
          refine ⟨_, _, _, _, _, _, rfl, fun j' h' => ?_⟩
          by_cases c : j' = j
          · rw [c]; exact fs_none.mpr nk
          · exact nj j' (by omega)
      · rintro Γ ⟨x4, x5, x6, x7, x8, x3, rfl, nj⟩
        refine ⟨_, _, _, _, _, _, _, rfl, fun i' h' => ?_⟩
        by_cases c : i' = i
        · rw [c]; exact fs_none.mpr nj
        · exact ni i' (by omega)
    · rintro Γ ⟨x3, x4, x5, x6, x7, x8, x2, rfl, ni⟩
      walk_at "goW"
      rw [show oddF n r = none from fs_none.mpr ni] at q
      exact q
end
/-! ### the least over fours -/
abbrev rz (r : Nat → Nat → Int) (x y : Int) : Int := r x.toNat y.toNat
def qT (r : Nat → Nat → Int) (a b c e : Int) : Int := rz r a c + rz r b e - rz r a b - rz r c e
/-- the ways between less those within, a on the one side -/
def QP (r : Nat → Nat → Int) (a : Int) (A B : List Int) (v : Int) : Prop := ∃ b ∈ A, ∃ c ∈ B, ∃ e ∈ B, v = qT r a b c e
theorem lst_min {P : Int → Prop} {z t : Int} (h : Lst P z) : Lst (fun v => P v ∨ v = t) (if t < z then t else z) := by
  by_cases c : t < z
  · rw [if_pos c]
    exact ⟨.inr rfl, fun y hy => by
      rcases hy with hy | rfl
      · have := h.2 y hy; omega
      · exact Int.le_refl _⟩
  · rw [if_neg c]
    exact ⟨.inl h.1, fun y hy => by
      rcases hy with hy | rfl
      · exact h.2 y hy
      · omega⟩
theorem mem_take_succ {α : Type} {xs : List α} {i : Nat} {x y : α} (h : xs[i]? = some x) : y ∈ xs.take (i + 1) ↔ y ∈ xs.take i ∨ y = x := by
  rw [take_snoc h, List.mem_append, List.mem_singleton]
section
variable {P : Program} {w : World} {K : PySem.W.Frag} {mg : Str → Option Value} {base : Heap}
def pLeast : Pre := fun ds Q => ∃ (n : Nat) (r : Nat → Nat → Int) (a : Int) (A B : List Int), ds = [LD (tabG n r), .int a, IL A, IL B] ∧ a ∈ A ∧ B ≠ [] ∧ (∀ x ∈ A, 0 ≤ x ∧ x < n) ∧ (∀ x ∈ B, 0 ≤ x ∧ x < n) ∧ (∀ i, r i i = 0) ∧ (∀ i j, IB 3000 (r i j)) ∧ ∀ z, Lst (QP r a A B) z → Q .lf (.int z)
theorem ok_least_between {f : Addr} {fd : FuncData} (F : Fun K "least_between" "least_between" s_least_between f fd) (T : Tx K mg) : FnOk P w K mg base CX0 1 f fd P_least_between (spV K pLeast) := by
  refine okV F sc_least_between (fun ds Q h => ?_) fun cdv A outer s H E hr => ⟨_, (pss_cons (ps_set (i := 4) sc_least_between.nd rfl (Or.inl rfl) (pe_op op_mulW pe_int (pe_ix (k_ixL (K := K)) (pe_ix (k_ixL (K := K)) (pv 0) (pv 1) (fun _ _ => rfl)) (pe_ix (k_ixL (K := K)) (pv 3) pe_int (fun _ _ => rfl)) (fun _ _ => rfl))))
  (pss_cons (ps_for PassesOwn.never rfl (k_piL (K := K) (pv 2)) (pg_name (i := 5) sc_least_between.nd rfl (Or.inl rfl))
  (pss_one (ps_for PassesOwn.never rfl (k_piL (K := K) (pv 3)) (pg_name (i := 6) sc_least_between.nd rfl (Or.inl rfl))
  (pss_one (ps_for PassesOwn.never rfl (k_piL (K := K) (pv 3)) (pg_name (i := 7) sc_least_between.nd rfl (Or.inl rfl))
  (pss_one (ps_set (i := 4) sc_least_between.nd rfl (Or.inl rfl) (pe_callB (cr_min2 rfl) (by rfl) T.min_ (by decide +kernel) (pa_cons (pv 4) (pa_cons (pe_op op_sub (pe_op op_sub (pe_op op_add (pe_ix (k_ixL (K := K)) (pe_ix (k_ixL (K := K)) (pv 0) (pv 1) (fun _ _ => rfl)) (pv 6) (fun _ _ => rfl)) (pe_ix (k_ixL (K := K)) (pe_ix (k_ixL (K := K)) (pv 0) (pv 5) (fun _ _ => rfl)) (pv 7) (fun _ _ => rfl))) (pe_ix (k_ixL (K := K)) (pe_ix (k_ixL (K := K)) (pv 0) (pv 1) (fun _ _ => rfl)) (pv 5) (fun _ _ => rfl))) (pe_ix (k_ixL (K := K)) (pe_ix (k_ixL (K := K)) (pv 0) (pv 6) (fun _ _ => rfl)) (pv 7) (fun _ _ => rfl))) pa_nil))))))))))
  (pss_one (ps_ret (pv 4))))), fun ds Q h => ?_⟩
  · obtain ⟨_, _, _, _, _, rfl, _⟩ := h
    rfl
  · obtain ⟨n, r, a, A, B, rfl, ha, hB, hA, hB', h0, br, q⟩ := h
    have ha' := hA a ha
    have lB : 0 < B.length := List.length_pos_iff.mpr hB
    have m0 : B.getD 0 0 ∈ B := by
      rw [List.getD_eq_getElem?_getD, List.getElem?_eq_getElem lB]
      exact List.getElem_mem _
    have hb0 := hB' _ m0
    walk_at "goK"
    rw [show (0 : Int).toNat = 0 from rfl]
    walk_at "goW"
    refine OW_mul (IB.mulW (n := 64) (m := 3000) (by unfold IB; decide) (br _ _) (by decide)) ?_
    walk_at "goW"
    have e0 : 2 * r a.toNat (B.getD 0 0).toNat = qT r a a (B.getD 0 0) (B.getD 0 0) := by
      unfold qT rz
      rw [h0, h0]; omega
    rw [e0]
    generalize hc0 : B.getD 0 0 = c0 at m0 hb0
    refine ForB_map (fun i Γ => ∃ (z : Int) (x y u : Sl), Γ = [.v .lf (LD (tabG n r)), .v .lf (.int a), .v .lf (IL A), .v .lf (IL B), .v .lf (.int z), x, y, u] ∧ Lst (fun v => v = qT r a a c0 c0 ∨ ∃ b ∈ A.take i, ∃ c ∈ B, ∃ e ∈ B, v = qT r a b c e) z) ⟨_, _, _, _, rfl, .inl rfl, fun y hy => ?_⟩ ?_ ?_
    · rcases hy with rfl | ⟨b, hb, _⟩
      · exact Int.le_refl _
      · cases hb
    · rintro i b Γ hb ⟨z, x, y, u, rfl, hz⟩
      have hbA := hA b (mem_of_at hb)
      walk_at "goW"
      refine ForB_map (fun j Γ => ∃ (z : Int) (y u : Sl), Γ = [.v .lf (LD (tabG n r)), .v .lf (.int a), .v .lf (IL A), .v .lf (IL B), .v .lf (.int z), .v .lf (.int b), y, u] ∧ Lst (fun v => (v = qT r a a c0 c0 ∨ ∃ b ∈ A.take i, ∃ c ∈ B, ∃ e ∈ B, v = qT r a b c e) ∨ ∃ c ∈ B.take j, ∃ e ∈ B, v = qT r a b c e) z) ⟨z, _, _, rfl, hz.iff fun v => ⟨fun h => .inl h, fun h => h.elim id fun ⟨c, hc, _⟩ => by cases hc⟩⟩ ?_ ?_
      · clear hz z
        rintro j c Γ hc ⟨z, y, u, rfl, hz⟩
        have hcB := hB' c (mem_of_at hc)
        walk_at "goW"
        refine ForB_map (fun k Γ => ∃ (z : Int) (u : Sl), Γ = [.v .lf (LD (tabG n r)), .v .lf (.int a), .v .lf (IL A), .v .lf (IL B), .v .lf (.int z), .v .lf (.int b), .v .lf (.int c), u] ∧ Lst (fun v => ((v = qT r a a c0 c0 ∨ ∃ b ∈ A.take i, ∃ c ∈ B, ∃ e ∈ B, v = qT r a b c e) ∨ ∃ c ∈ B.take j, ∃ e ∈ B, v = qT r a b c e) ∨ ∃ e ∈ B.take k, v = qT r a b c e) z) ⟨z, _, rfl, hz.iff fun v => ⟨fun h => .inl h, fun h => h.elim id fun ⟨c, hc, _⟩ => by cases hc⟩⟩ ?_ ?_
        · clear hz z
          rintro k e Γ he ⟨z, u, rfl, hz⟩
          have heB := hB' e (mem_of_at he)
          walk_at "goW"
          refine ⟨_, _, rfl, (lst_min (t := qT r a b c e) hz).iff fun v => ?_⟩
          constructor
          · rintro (h | h)
            · exact h.elim .inl fun ⟨e', h1, h2⟩ => .inr ⟨e', (mem_take_succ he).mpr (.inl h1), h2⟩
            · exact .inr ⟨e, (mem_take_succ he).mpr (.inr rfl), h⟩
          · rintro (h | ⟨e', h1, h2⟩)
            · exact .inl (.inl h)
            · rcases (mem_take_succ he).mp h1 with h1 | rfl
              · exact .inl (.inr ⟨e', h1, h2⟩)
              · exact .inr h2
        · clear hz z
          rintro Γ ⟨z, u, rfl, hz⟩
          rw [List.take_length] at hz
          refine ⟨z, _, _, rfl, hz.iff fun v => ?_⟩
          constructor
          · rintro (h | ⟨e', h1, h2⟩)
            · exact h.elim .inl fun ⟨c', h1, h2⟩ => .inr ⟨c', (mem_take_succ hc).mpr (.inl h1), h2⟩
            · exact .inr ⟨c, (mem_take_succ hc).mpr (.inr rfl), e', h1, h2⟩
          · rintro (h | ⟨c', h1, e', h2, h3⟩)
            · exact .inl (.inl h)
            · rcases (mem_take_succ hc).mp h1 with h1 | rfl
              · exact .inl (.inr ⟨c', h1, e', h2, h3⟩)
              · exact .inr ⟨e', h2, h3⟩
      · clear hz z
        rintro Γ ⟨z, y, u, rfl, hz⟩
        rw [List.take_length] at hz
        refine ⟨z, _, _, _, rfl, hz.iff fun v => ?_⟩
        constructor
        · rintro (h | ⟨c', h1, h2⟩)
          · exact h.elim .inl fun ⟨b', h1, h2⟩ => .inr ⟨b', (mem_take_succ hb).mpr (.inl h1), h2⟩
          · exact .inr ⟨b, (mem_take_succ hb).mpr (.inr rfl), c', h1, h2⟩
        · rintro (h | ⟨b', h1, h2⟩)
          · exact .inl (.inl h)
          · rcases (mem_take_succ hb).mp h1 with h1 | rfl
            · exact .inl (.inr ⟨b', h1, h2⟩)
            · exact .inr h2
    · rintro Γ ⟨z, x, y, u, rfl, hz⟩
      rw [List.take_length] at hz
      walk_at "goW"
      refine q z (hz.iff fun v => ⟨fun h => ?_, .inr⟩)
      rcases h with rfl | h
      · exact ⟨a, ha, c0, m0, c0, m0, rfl⟩
      · exact h
/-- the least over all fours with a point, for a side among the points up to it -/
def PP (r : Nat → Nat → Int) (p : Nat) (C : List Int) (v : Int) : Prop := QP r p (if (p : Int) ∈ C then C else ptsOut (p + 1) C) (if (p : Int) ∈ C then ptsOut (p + 1) C else C) v
def pParts : Pre := fun ds Q => ∃ (n : Nat) (r : Nat → Nat → Int) (p : Nat) (C : List Int), ds = [LD (tabG n r), .int p, IL C] ∧ p < n ∧ n ≤ 100 ∧ C ≠ [] ∧ (∀ x ∈ C, 0 < x ∧ x ≤ p) ∧ (∀ i, r i i = 0) ∧ (∀ i j, IB 3000 (r i j)) ∧ ∀ z, Lst (PP r p C) z → Q .lf (.int z)
theorem outs_int (m : Nat) (C : List Int) : ((List.range m).filter fun i : Nat => !decide ((i : Int) ∈ C)).map (fun i : Nat => PyData.int (i : Int)) = (ptsOut m C).map PyData.int := by
  unfold ptsOut rg
  rw [List.filter_map, List.map_map]
  have : ((fun x : Int => !decide (x ∈ C)) ∘ fun i : Nat => (0 : Int) + (i : Int)) = fun i : Nat => !decide ((i : Int) ∈ C) := funext fun i => by
    show (!decide ((0 : Int) + (i : Int) ∈ C)) = _
    rw [Int.zero_add]
  rw [this]
  apply List.map_congr_left
  intro i _
  show PyData.int _ = PyData.int (0 + _)
  rw [Int.zero_add]
theorem mem_outs {m : Nat} {C : List Int} {x : Int} : x ∈ ptsOut m C ↔ (0 ≤ x ∧ x < m) ∧ x ∉ C := by
  unfold ptsOut
  rw [List.mem_filter, mem_rg]
  simp
theorem ok_parts_with {f : Addr} {fd : FuncData} (F : Fun K "parts_with" "parts_with" s_parts_with f fd) (T : Tx K mg) (c_least_between : Cal P w K mg base 1 "least_between" (spV K pLeast) []) : FnOk P w K mg base CX0 2 f fd P_parts_with (spV K pParts) := by
  refine okV F sc_parts_with (fun ds Q h => ?_) fun cdv A outer s H E hr => ⟨_, (pss_cons (ps_setLc (i := 3) (own := [("other", 4)]) (g := gName 4) rfl sc_parts_with.nd rfl rfl (sw_true rfl rfl rfl (by decide +kernel)) (pi_range1 (by rfl) T.range_ (pa_cons (pe_op op_add (pv 1) pe_int) pa_nil)) (blkOk_by (own := [("other", 4)]) (N := N_parts_with) (sc := defScope s_parts_with) (by decide +kernel)) (fun _ _ _ _ _ => (pg_name (i := 4) sc_parts_with.nd rfl (Or.inl rfl))) (fun _ _ _ _ _ => (pts_one (pt_cmpR (k_notIn (K := K)) (pv 4) (pv 2) rfl))) (fun _ _ _ _ _ => (pv 4)))
  (pss_cons (ps_if (pt_cmpR (k_in (K := K)) (pv 1) (pv 2) rfl)
  (pss_one (ps_ret (pe_c c_least_between hr (by decide) rfl (pa_cons (pv 0) (pa_cons (pv 1) (pa_cons (pv 2) (pa_cons (pv 3) pa_nil)))))))
  pss_nil)
  (pss_one (ps_ret (pe_c c_least_between hr (by decide) rfl (pa_cons (pv 0) (pa_cons (pv 1) (pa_cons (pv 3) (pa_cons (pv 2) pa_nil))))))))), fun ds Q h => ?_⟩
  · obtain ⟨_, _, _, _, rfl, _⟩ := h
    rfl
  · obtain ⟨n, r, p, C, rfl, hp, hn, hC, hC', h0, br, q⟩ := h
    walk_at "goK"
    refine LcB_mf .lf (fun i : Nat => !decide ((i : Int) ∈ C)) (fun i : Nat => .int (i : Int)) (by rw [List.length_range]; omega) (fun x hx => ?_) ?_
    · refine GC_name (by decide) ?_
      walk_at "goW"
      refine ⟨rfl, ?_⟩
      split
      · walk_at "goW"
        exact ⟨.inl rfl, rfl, rfl⟩
      · rfl
    rw [outs_int]
    have hO : ∀ x ∈ ptsOut (p + 1) C, 0 ≤ x ∧ x < (n : Int) := fun x hx => by
      have := (mem_outs.mp hx).1
      omega
    have hCr : ∀ x ∈ C, 0 ≤ x ∧ x < (n : Int) := fun x hx => by have := hC' x hx; omega
    walk_at "goW"
    refine ifD (fun h => ?_) (fun h => ?_)
    · walk_at "goF"
      refine ⟨n, r, p, C, ptsOut (p + 1) C, rfl, h, fun z => ?_, hCr, hO, h0, br, fun z hz => ?_⟩
      · have : (0 : Int) ∈ ptsOut (p + 1) C := mem_outs.mpr ⟨by omega, fun h2 => by have := hC' 0 h2; omega⟩
        rw [z] at this; cases this
      · exact q z (hz.iff fun v => by unfold PP; rw [if_pos h, if_pos h])
    · walk_at "goF"
      refine ⟨n, r, p, ptsOut (p + 1) C, C, rfl, mem_outs.mpr ⟨by omega, h⟩, hC, hO, hCr, h0, br, fun z hz => ?_⟩
      exact q z (hz.iff fun v => by unfold PP; rw [if_neg h, if_neg h])
end
/-! ### the sides of a tree -/
theorem Lst.ex {P : Int → Prop} : (∃ z, Lst P z) → Lst P (Classical.epsilon (Lst P)) := fun h => Classical.epsilon_spec h
/-- the least over the fours with a point -/
noncomputable def mP (r : Nat → Nat → Int) (p : Nat) (C : List Int) : Int := Classical.epsilon (Lst (PP r p C))
theorem mP_eq {r : Nat → Nat → Int} {p : Nat} {C : List Int} {z : Int} (h : Lst (PP r p C) z) : z = mP r p C := h.uniq (Lst.ex ⟨z, h⟩)
abbrev PWd (u : List Int × Int) : PyData := .tuple [IL u.1, .int u.2]
noncomputable def tsOne (r : Nat → Nat → Int) (p : Nat) (u : List Int × Int) : List (List Int × Int) := [(u.1, if mP r p u.1 < u.2 then mP r p u.1 else u.2), (u.1 ++ [(p : Int)], if mP r p (u.1 ++ [(p : Int)]) < u.2 then mP r p (u.1 ++ [(p : Int)]) else u.2)]
noncomputable def tsTry (r : Nat → Nat → Int) (p : Nat) (S : List (List Int × Int)) : List (List Int × Int) := ([(p : Int)], mP r p [(p : Int)]) :: S.flatMap (tsOne r p)
noncomputable def tsStep (r : Nat → Nat → Int) (p : Nat) (S : List (List Int × Int)) : List (List Int × Int) := (tsTry r p S).filter fun u => decide (u.2 > 0)
/-- the sides, point by point: those of the points up to k -/
noncomputable def tsN (r : Nat → Nat → Int) : Nat → List (List Int × Int)
  | 0 => []
  | k + 1 => tsStep r (1 + k) (tsN r k)
theorem tsN_in {r : Nat → Nat → Int} : ∀ {k : Nat} {u : List Int × Int}, u ∈ tsN r k → u.1 ≠ [] ∧ (∀ x ∈ u.1, 0 < x ∧ x ≤ k) ∧ u.1.Pairwise (· < ·) ∧ u.1.length ≤ k ∧ 0 < u.2
  | 0, u, h => by cases h
  | k + 1, u, h => by
    have h3 := of_decide_eq_true (List.mem_filter.mp h).2
    have h := (List.mem_filter.mp h).1
    unfold tsTry at h
    rcases List.mem_cons.mp h with rfl | h
    · exact ⟨by simp, fun x hx => by rw [List.mem_singleton.mp hx]; omega, by simp, by simp, h3⟩
    · obtain ⟨w, hw, h⟩ := List.mem_flatMap.mp h
      obtain ⟨h1, h2, hp, hl, _⟩ := tsN_in hw
      unfold tsOne at h
      simp only [List.mem_cons, List.not_mem_nil, or_false] at h
      rcases h with rfl | rfl
      · exact ⟨h1, fun x hx => by have := h2 x hx; omega, hp, by show w.1.length ≤ _; omega, h3⟩
      · refine ⟨by simp, fun x hx => ?_, List.pairwise_append.mpr ⟨hp, by simp, fun x hx y hy => ?_⟩, by simp; exact hl, h3⟩
        · rcases List.mem_append.mp hx with hx | hx
          · have := h2 x hx; omega
          · rw [List.mem_singleton.mp hx]; omega
        · rw [List.mem_singleton.mp hy]
          have := h2 x hx; omega
theorem tsN_len {r : Nat → Nat → Int} : ∀ {k : Nat}, (tsN r k).length < 2 ^ k
  | 0 => by show 0 < 1; decide
  | k + 1 => by
    have h := tsN_len (r := r) (k := k)
    have h1 : (tsN r (k + 1)).length ≤ (tsTry r (1 + k) (tsN r k)).length := List.length_filter_le _ _
    have h2 : (tsTry r (1 + k) (tsN r k)).length = 1 + 2 * (tsN r k).length := by
      unfold tsTry
      rw [List.length_cons]
      have : ∀ S : List (List Int × Int), (S.flatMap (tsOne r (1 + k))).length = 2 * S.length := fun S => by
        induction S with
        | nil => rfl
        | cons u S ih => rw [List.flatMap_cons, List.length_append, ih]; show 2 + _ = _; rw [List.length_cons]; omega
      rw [this]; omega
    rw [Nat.pow_succ]; omega
section
variable {P : Program} {w : World} {K : PySem.W.Frag} {mg : Str → Option Value} {base : Heap}
def pTreeS : Pre := fun ds Q => ∃ (n : Nat) (r : Nat → Nat → Int), ds = [LD (tabG n r)] ∧ 1 ≤ n ∧ n ≤ 12 ∧ (∀ i, r i i = 0) ∧ (∀ i j, IB 3000 (r i j)) ∧ Q (.li .lf) (.list ((tsN r (n - 1)).map PWd))
end
/-! ### what is told of a tree -/
theorem lst_list : ∀ {l : List Int}, l ≠ [] → ∃ z, Lst (· ∈ l) z
  | [x], _ => ⟨x, List.mem_cons_self, fun y hy => by rw [List.mem_singleton.mp hy]; exact Int.le_refl _⟩
  | x :: y :: l, _ => by
    obtain ⟨z, h1, h2⟩ := lst_list (l := y :: l) (by simp)
    by_cases c : x ≤ z
    · exact ⟨x, List.mem_cons_self, fun u hu => by
        rcases List.mem_cons.mp hu with rfl | hu
        · exact Int.le_refl _
        · have := h2 u hu; omega⟩
    · exact ⟨z, .tail _ h1, fun u hu => by
        rcases List.mem_cons.mp hu with rfl | hu
        · omega
        · exact h2 u hu⟩
theorem qp_ex {r : Nat → Nat → Int} {a : Int} {A B : List Int} (hA : A ≠ []) (hB : B ≠ []) : ∃ z, Lst (QP r a A B) z := by
  obtain ⟨z, hz⟩ := lst_list (l := A.flatMap fun b => B.flatMap fun c => B.map fun e => qT r a b c e) (by
    obtain ⟨b, A, rfl⟩ := List.exists_cons_of_ne_nil hA
    obtain ⟨c, B, rfl⟩ := List.exists_cons_of_ne_nil hB
    simp)
  refine ⟨z, hz.iff fun v => ?_⟩
  unfold QP
  simp only [List.mem_flatMap, List.mem_map]
  constructor
  · rintro ⟨b, hb, c, hc, e, he, rfl⟩; exact ⟨b, hb, c, hc, e, he, rfl⟩
  · rintro ⟨b, hb, c, hc, e, he, rfl⟩; exact ⟨b, hb, c, hc, e, he, rfl⟩
theorem pp_ex {r : Nat → Nat → Int} {p : Nat} {C : List Int} (hC : C ≠ []) (h : ∀ x ∈ C, 0 < x ∧ x ≤ p) : ∃ z, Lst (PP r p C) z := by
  have hO : ptsOut (p + 1) C ≠ [] := fun z => by
    have : (0 : Int) ∈ ptsOut (p + 1) C := mem_outs.mpr ⟨by omega, fun h2 => by have := h 0 h2; omega⟩
    rw [z] at this; cases this
  by_cases c : (p : Int) ∈ C
  · obtain ⟨z, hz⟩ := qp_ex (r := r) (a := p) hC hO
    exact ⟨z, hz.iff fun v => by unfold PP; rw [if_pos c, if_pos c]⟩
  · obtain ⟨z, hz⟩ := qp_ex (r := r) (a := p) hO hC
    exact ⟨z, hz.iff fun v => by unfold PP; rw [if_neg c, if_neg c]⟩
theorem mP_lst {r : Nat → Nat → Int} {p : Nat} {C : List Int} (hC : C ≠ []) (h : ∀ x ∈ C, 0 < x ∧ x ≤ p) : Lst (PP r p C) (mP r p C) := Lst.ex (pp_ex hC h)
theorem qT_mul {r z : Nat → Nat → Int} {k : Int} {n : Nat} (h : ∀ i j, i < n → j < n → z i j = k * r i j) {a b c e : Int} (ha : 0 ≤ a ∧ a < n) (hb : 0 ≤ b ∧ b < n) (hc : 0 ≤ c ∧ c < n) (he : 0 ≤ e ∧ e < n) : qT z a b c e = k * qT r a b c e := by
  unfold qT rz
  rw [h _ _ (by omega) (by omega), h _ _ (by omega) (by omega), h _ _ (by omega) (by omega), h _ _ (by omega) (by omega), Int.mul_sub, Int.mul_sub, Int.mul_add]
theorem lst_mul {P P' : Int → Prop} {k z : Int} (hk : 0 < k) (h : Lst P z) (e : ∀ v, P' v ↔ ∃ u, P u ∧ v = k * u) : Lst P' (k * z) := ⟨(e _).mpr ⟨z, h.1, rfl⟩, fun y hy => by
  obtain ⟨u, h1, rfl⟩ := (e y).mp hy
  exact Int.mul_le_mul_of_nonneg_left (h.2 u h1) (by omega)⟩
theorem pp_mul {r z : Nat → Nat → Int} {k : Int} {n p : Nat} {C : List Int} (h : ∀ i j, i < n → j < n → z i j = k * r i j) (hp : p < n) (hC : ∀ x ∈ C, 0 < x ∧ x ≤ p) (v : Int) : PP z p C v ↔ ∃ u, PP r p C u ∧ v = k * u := by
  have hi : ∀ x ∈ C, 0 ≤ x ∧ x < (n : Int) := fun x hx => by have := hC x hx; omega
  have ho : ∀ x ∈ ptsOut (p + 1) C, 0 ≤ x ∧ x < (n : Int) := fun x hx => by have := (mem_outs.mp hx).1; omega
  have key : ∀ {A B : List Int}, (∀ x ∈ A, 0 ≤ x ∧ x < (n : Int)) → (∀ x ∈ B, 0 ≤ x ∧ x < (n : Int)) → (QP z p A B v ↔ ∃ u, QP r p A B u ∧ v = k * u) := fun {A B} hA hB => by
    constructor
    · rintro ⟨b, hb, c, hc, e, he, rfl⟩
      exact ⟨_, ⟨b, hb, c, hc, e, he, rfl⟩, qT_mul h (by omega) (hA b hb) (hB c hc) (hB e he)⟩
    · rintro ⟨u, ⟨b, hb, c, hc, e, he, rfl⟩, rfl⟩
      exact ⟨b, hb, c, hc, e, he, (qT_mul h (by omega) (hA b hb) (hB c hc) (hB e he)).symm⟩
  unfold PP
  by_cases c : (p : Int) ∈ C
  · simp only [if_pos c]; exact key hi ho
  · simp only [if_neg c]; exact key ho hi
theorem mP_mul {r z : Nat → Nat → Int} {k : Int} {n p : Nat} {C : List Int} (hk : 0 < k) (h : ∀ i j, i < n → j < n → z i j = k * r i j) (hp : p < n) (hn : C ≠ []) (hC : ∀ x ∈ C, 0 < x ∧ x ≤ p) : mP z p C = k * mP r p C :=
  (mP_eq (lst_mul hk (mP_lst hn hC) (pp_mul h hp hC))).symm
theorem tsN_mul {r z : Nat → Nat → Int} {k : Int} {n : Nat} (hk : 0 < k) (h : ∀ i j, i < n → j < n → z i j = k * r i j) : ∀ m : Nat, m < n → tsN z m = (tsN r m).map fun u => (u.1, k * u.2)
  | 0, _ => rfl
  | m + 1, hm => by
    have ih := tsN_mul hk h m (by omega)
    show tsStep z (1 + m) (tsN z m) = (tsStep r (1 + m) (tsN r m)).map _
    rw [ih]
    unfold tsStep
    have e1 : tsTry z (1 + m) ((tsN r m).map fun u => (u.1, k * u.2)) = (tsTry r (1 + m) (tsN r m)).map fun u => (u.1, k * u.2) := by
      unfold tsTry
      rw [List.map_cons, mP_mul hk h (show 1 + m < n by omega) (by simp) (fun x hx => by rw [List.mem_singleton.mp hx]; omega), List.flatMap_map, List.map_flatMap]
      congr 1
      have : ∀ S : List (List Int × Int), (∀ u ∈ S, u ∈ tsN r m) → S.flatMap (fun u => tsOne z (1 + m) (u.1, k * u.2)) = S.flatMap fun u => (tsOne r (1 + m) u).map fun u => (u.1, k * u.2) := fun S hS => by
        induction S with
        | nil => rfl
        | cons u S ih2 =>
          obtain ⟨c0, c1, _⟩ := tsN_in (hS u List.mem_cons_self)
          rw [List.flatMap_cons, List.flatMap_cons, ih2 fun w hw => hS w (.tail _ hw)]
          congr 1
          unfold tsOne
          simp only [List.map_cons, List.map_nil]
          rw [mP_mul hk h (show 1 + m < n by omega) c0 (fun x hx => by have := c1 x hx; omega), mP_mul hk h (show 1 + m < n by omega) (C := u.1 ++ [((1 + m : Nat) : Int)]) (by simp) (fun x hx => by
            rcases List.mem_append.mp hx with hx | hx
            · have := c1 x hx; omega
            · rw [List.mem_singleton.mp hx]; omega)]
          have lt : ∀ a b : Int, (k * a < k * b) ↔ a < b := fun a b => ⟨fun h => Int.lt_of_mul_lt_mul_left h (by omega), fun h => Int.mul_lt_mul_of_pos_left h hk⟩
          have ite : ∀ a b : Int, (if k * a < k * b then k * a else k * b) = k * (if a < b then a else b) := fun a b => by
            by_cases c : a < b
            · rw [if_pos c, if_pos ((lt a b).mpr c)]
            · rw [if_neg c, if_neg fun z => c ((lt a b).mp z)]
          rw [ite, ite]
      exact this _ fun _ h => h
    rw [e1, List.filter_map]
    congr 1
    apply List.filter_congr
    intro u _
    show decide (k * u.2 > 0) = decide (u.2 > 0)
    apply decide_eq_decide.mpr
    constructor
    · intro h
      by_cases c : u.2 > 0
      · exact c
      · have := Int.mul_le_mul_of_nonneg_left (show u.2 ≤ 0 by omega) (show 0 ≤ k by omega)
        rw [Int.mul_zero] at this
        omega
    · intro h; exact Int.mul_pos hk h
theorem odd_mul {r z : Nat → Nat → Int} {k : Int} {n : Nat} (hk : 0 < k) (h : ∀ i j, i < n → j < n → z i j = k * r i j) : oddF n z = oddF n r := by
  have key : ∀ i j k' l, i < n → j < n → k' < n → l < n → oddB z i j k' l = oddB r i j k' l := fun i j k' l h1 h2 h3 h4 => by
    unfold oddB
    rw [h i j h1 h2, h k' l h3 h4, h i k' h1 h3, h j l h2 h4, h i l h1 h4, h j k' h2 h3, ← Int.mul_add, ← Int.mul_add, ← Int.mul_add]
    have lt : ∀ a b : Int, (k * a < k * b) ↔ a < b := fun a b => ⟨fun h => Int.lt_of_mul_lt_mul_left h (by omega), fun h => Int.mul_lt_mul_of_pos_left h hk⟩
    simp only [lt]
  unfold oddF
  have fc : ∀ {α : Type} {m : Nat} {f g : Nat → Option α}, (∀ i, i < m → f i = g i) → (List.range m).findSome? f = (List.range m).findSome? g := fun {α m f g} hfg => by
    induction m with
    | zero => rfl
    | succ m ih => rw [List.range_succ, List.findSome?_append, List.findSome?_append, ih fun i hi => hfg i (by omega)]; simp [hfg m (by omega)]
  exact fc fun i hi => fc fun j hj => fc fun k' hk' => fc fun l hl => by rw [key _ _ _ _ (by omega) (by omega) (by omega) (by omega)]
section
variable {P : Program} {w : World} {K : PySem.W.Frag} {mg : Str → Option Value} {base : Heap}
/-- what tree_told tells of the table z over b -/
def toldT (n : Nat) (z : Nat → Nat → Int) (b : Int) (Q : Own → PyData → Prop) : Prop :=
  match firstS n (shortB fun i j => Rat.divInt (z i j) b) with
  | some s => Q .lf (.tuple [.str "bars", SD (some s)])
  | none => match oddF n z with
    | some s => Q .lf (.tuple [.str "bars", QD (some s)])
    | none => ∀ us : List (List Int × Rat), us.Perm ((tsN z (n - 1)).map fun u => (u.1, Rat.divInt u.2 (2 * b))) → us.Pairwise (fun a b => a.1 ≤ b.1) → Q (.t2 .lf (.li .lf)) (.tuple [.str "tree", WD us])
def pTold : Pre := fun ds Q => ∃ (n : Nat) (z : Nat → Nat → Int) (b : Int), ds = [TD (tabG n fun i j => Rat.divInt (z i j) b)] ∧ 1 ≤ n ∧ n ≤ 12 ∧ 0 < b ∧ IB 1400 b ∧ (∀ i, z i i = 0) ∧ (∀ i j, IB 1400 (z i j)) ∧ toldT n z b Q
theorem whl_scale {z : Nat → Nat → Int} {b B : Int} {n : Nat} (hb : 0 < b) (hB : 0 < B) (dv : ∀ i j, i < n → j < n → ((Rat.divInt (z i j) b).den : Int) ∣ B) (d : B ∣ b) : ∀ i j, i < n → j < n → z i j = (b / B) * whl (fun i j => Rat.divInt (z i j) b) B i j := fun i j hi hj => by
  have e := whl_eq (g := fun i j => Rat.divInt (z i j) b) (b := B) (dv i j hi hj)
  obtain ⟨k, rfl⟩ := d
  rw [Int.mul_ediv_cancel_left _ (by omega)]
  have hx := Rat.num_divInt_den (Rat.divInt (z i j) (B * k))
  have hd := den_pos' (Rat.divInt (z i j) (B * k))
  have h3 : Rat.divInt (Rat.divInt (z i j) (B * k)).num ((Rat.divInt (z i j) (B * k)).den : Int) = Rat.divInt (z i j) (B * k) := hx
  have h4 := (Rat.divInt_eq_divInt_iff (by omega) (by omega)).mp h3
  generalize (Rat.divInt (z i j) (B * k)).num = p at *
  generalize ((Rat.divInt (z i j) (B * k)).den : Int) = q at *
  generalize whl (fun i j => Rat.divInt (z i j) (B * k)) B i j = w at *
  -- w * q = p * B, p * (B * k) = z * q
  apply Int.eq_of_mul_eq_mul_right (show q ≠ 0 by omega)
  rw [Int.mul_assoc, e, ← h4, Int.mul_comm k, Int.mul_assoc]
end
/-! ### a tree told, its sides one's own -/
theorem SW_ifNo {K : PySem.W.Frag} {tt : TT} {t : L2.TS} {Γ : Ev} {P : Po} (q : TW K tt (Γ.map Sl.fz) fun c _ => c = false) (k : P.nx Γ) : SW K (tIfS tt t tNext) Γ P := SW_if (TW_bor fun σ H L G S g => q σ H L G S fun c Γ' H' e S' => g c Γ' H' (by
  subst e
  rw [if_neg (by decide)]
  exact SW_next k) S')
section
variable {P : Program} {w : World} {K : PySem.W.Frag} {mg : Str → Option Value} {base : Heap}
theorem lfree_pw (u : List Int × Int) : lfree (.t2 (.li .lf) .lf) (PWd u) := ⟨fun e he => by
  obtain ⟨z, _, rfl⟩ := List.mem_map.mp he
  rfl, rfl⟩
def pTreeSO : Pre := fun ds Q => ∃ (n : Nat) (r : Nat → Nat → Int), ds = [LD (tabG n r)] ∧ 1 ≤ n ∧ n ≤ 12 ∧ (∀ i, r i i = 0) ∧ (∀ i j, IB 3000 (r i j)) ∧ Q (.li (.t2 (.li .lf) .lf)) (.list ((tsN r (n - 1)).map PWd))
theorem flat_len (r : Nat → Nat → Int) (k : Nat) : ∀ S : List (List Int × Int), (S.flatMap (tsOne r k)).length = 2 * S.length := fun S => by
  induction S with
  | nil => rfl
  | cons u S ih => rw [List.flatMap_cons, List.length_append, ih]; show 2 + _ = _; rw [List.length_cons]; omega
theorem ok_tree_sides {f : Addr} {fd : FuncData} (F : Fun K "tree_sides" "tree_sides" s_tree_sides f fd) (T : Tx K mg) (c_parts_with : Cal P w K mg base 2 "parts_with" (spV K pParts) []) : FnOk P w K mg base CX0 3 f fd P_tree_sides (spV K pTreeSO) := by
  refine okV F sc_tree_sides (fun ds Q h => ?_) fun cdv A outer s H E hr => ⟨_, (pss_cons (ps_set (i := 1) sc_tree_sides.nd rfl (Or.inl rfl) (pe_lst pa_nil))
  (pss_cons (ps_for PassesOwn.never rfl (pi_range2 (by rfl) T.range_ (pa_cons pe_int (pa_cons (pe_callB (k_len (K := K)) (by rfl) T.len_ (by decide +kernel) (pa_cons (pv 0) pa_nil)) pa_nil))) (pg_name (i := 2) sc_tree_sides.nd rfl (Or.inl rfl))
  (pss_cons (ps_set (i := 3) sc_tree_sides.nd rfl (Or.inl rfl) (pe_lst (pa_cons (pe_tup (pa_cons (pe_lst (pa_cons (pv 2) pa_nil)) (pa_cons (pe_c c_parts_with hr (by decide) rfl (pa_cons (pv 0) (pa_cons (pv 2) (pa_cons (pe_lst (pa_cons (pv 2) pa_nil)) pa_nil)))) pa_nil))) pa_nil)))
  (pss_cons (ps_for PassesOwn.never rfl (k_piL (K := K) (pv 1)) (k_tup (K := K) (n := 2) rfl (pgs_cons (pg_name (i := 4) sc_tree_sides.nd rfl (Or.inl rfl)) (pgs_cons (pg_name (i := 5) sc_tree_sides.nd rfl (Or.inl rfl)) pgs_nil)))
  (pss_cons (ps_expr (pe_bm PySem.F.plainAttrs_list PySem.F.slot_list_append PySem.F.type_list_append mt_append (pv 3) (pa_cons (pe_tup (pa_cons (pv 4) (pa_cons (pe_callB (cr_min2 rfl) (by rfl) T.min_ (by decide +kernel) (pa_cons (pv 5) (pa_cons (pe_c c_parts_with hr (by decide) rfl (pa_cons (pv 0) (pa_cons (pv 2) (pa_cons (pv 4) pa_nil)))) pa_nil))) pa_nil))) pa_nil)))
  (pss_one (ps_expr (pe_bm PySem.F.plainAttrs_list PySem.F.slot_list_append PySem.F.type_list_append mt_append (pv 3) (pa_cons (pe_tup (pa_cons (pe_op op_cat (pv 4) (pe_lst (pa_cons (pv 2) pa_nil))) (pa_cons (pe_callB (cr_min2 rfl) (by rfl) T.min_ (by decide +kernel) (pa_cons (pv 5) (pa_cons (pe_c c_parts_with hr (by decide) rfl (pa_cons (pv 0) (pa_cons (pv 2) (pa_cons (pe_op op_cat (pv 4) (pe_lst (pa_cons (pv 2) pa_nil))) pa_nil)))) pa_nil))) pa_nil))) pa_nil))))))
  (pss_one (ps_setLc (i := 1) (own := [("side", 4), ("twice", 5)]) rfl sc_tree_sides.nd rfl rfl (sw_true rfl rfl rfl (by decide +kernel)) (k_piL (K := K) (pv 3)) (blkOk_by (own := [("side", 4), ("twice", 5)]) (N := N_tree_sides) (sc := defScope s_tree_sides) (by decide +kernel)) (fun _ _ _ _ _ => (k_tup (K := K) (n := 2) rfl (pgs_cons (pg_name (i := 4) sc_tree_sides.nd rfl (Or.inl rfl)) (pgs_cons (pg_name (i := 5) sc_tree_sides.nd rfl (Or.inl rfl)) pgs_nil)))) (fun _ _ _ _ _ => (pts_one (pt_cmpR op_gt (pv 5) pe_int (nomark _)))) (fun _ _ _ _ _ => (pe_tup (pa_cons (pv 4) (pa_cons (pv 5) pa_nil)))))))))
  (pss_one (ps_ret (pv 1))))), fun ds Q h => ?_⟩
  · obtain ⟨_, _, rfl, _⟩ := h
    rfl
  · obtain ⟨n, r, rfl, n1, hn, h0, br, q⟩ := h
    walk_at "k"
    refine SW_seq (SW_asg (EW_lst (.t2 (.li .lf) .lf) ?_))
    walk_at "goW"
    refine ⟨by decide, fun b hb => (by cases hb), ?_⟩
    walk_at "goW"
    refine ForB_rng (fun k Γ => ∃ (x y u v : Sl), Γ = [.v .lf (LD (tabG n r)), .v (.li (.t2 (.li .lf) .lf)) (.list ((tsN r k).map PWd)), x, y, u, v]) ⟨_, _, _, _, rfl⟩ ?_ ?_
    · rintro k Γ hk ⟨x, y, u, v, rfl⟩
      have lk := tsN_len (r := r) (k := k)
      have l2 : 2 ^ k ≤ 2 ^ 12 := Nat.pow_le_pow_right (by decide) (by omega)
      refine GW_name ?_
      refine SW_seq (SW_asg (EW_lst (.t2 (.li .lf) .lf) ?_))
      walk_at "goW"
      refine ⟨n, r, 1 + k, [((1 + k : Nat) : Int)], rfl, by omega, by omega, by simp, fun z hz => by rw [List.mem_singleton.mp hz]; omega, h0, br, fun z hz => ?_⟩
      rw [mP_eq hz]
      walk_at "goW"
      refine ⟨(show 1 ≤ 100000 by decide), fun b hb => by rw [List.mem_singleton.mp hb], ?_⟩
      refine GW_name ?_
      refine SW_seq (SW_forA (IWA_list (n := 1) rfl rfl ⟨fun j Γ => ∃ (u v : Sl), Γ = [.v .lf (LD (tabG n r)), .un, .v .lf (.int ((1 + k : Nat) : Int)), .v (.li (.t2 (.li .lf) .lf)) (.list (((([((1 + k : Nat) : Int)], mP r (1 + k) [((1 + k : Nat) : Int)]) :: ((tsN r k).take j).flatMap (tsOne r (1 + k)))).map PWd)), u, v], ⟨_, _, rfl⟩, ?_, ?_⟩))
      · rintro j d Γ hd ⟨u, v, rfl⟩
        rw [List.getElem?_map] at hd
        obtain ⟨⟨c, t⟩, hc, rfl⟩ := Option.map_eq_some_iff.mp hd
        obtain ⟨c0, c1, _, cl, _⟩ := tsN_in (mem_of_at hc)
        have cl : c.length ≤ k := cl
        have hj := (List.getElem?_eq_some_iff.mp hc).1
        have hl := flat_len r (1 + k) ((tsN r k).take j)
        rw [List.length_take] at hl
        refine GW_t2 ?_
        refine SW_appTwo (t := 3) (s := 4) (D1 := .int (if mP r (1 + k) c < t then mP r (1 + k) c else t)) (D2 := PWd (c ++ [((1 + k : Nat) : Int)], if mP r (1 + k) (c ++ [((1 + k : Nat) : Int)]) < t then mP r (1 + k) (c ++ [((1 + k : Nat) : Int)]) else t)) rfl rfl (by decide) (by rw [List.length_map, List.length_cons, hl]; omega) ?_ ?_ ?_
        · refine EW_borB ?_
          walk_at "goW"
          refine ⟨n, r, 1 + k, c, rfl, by omega, by omega, c0, fun z hz => by have := c1 z hz; omega, h0, br, fun z hz => ?_⟩
          rw [mP_eq hz]
          walk_at "goW"
          exact ⟨rfl, rfl, rfl⟩
        · refine EW_borB ?_
          walk_at "goW"
          refine ⟨n, r, 1 + k, c ++ [((1 + k : Nat) : Int)], rfl, by omega, by omega, by simp, fun z hz => ?_, h0, br, fun z hz => ?_⟩
          · rcases List.mem_append.mp hz with hz | hz
            · have := c1 z hz; omega
            · rw [List.mem_singleton.mp hz]; omega
          rw [mP_eq hz]
          walk_at "goW"
          refine NoLB_i (lfree_pw (c ++ [((1 + k : Nat) : Int)], _)) ?_
          exact ⟨rfl, rfl, rfl⟩
        · refine ⟨.un, .v .lf (.int t), ?_⟩
          have e : ((([((1 + k : Nat) : Int)], mP r (1 + k) [((1 + k : Nat) : Int)]) :: ((tsN r k).take (j + 1)).flatMap (tsOne r (1 + k)))).map PWd = (((([((1 + k : Nat) : Int)], mP r (1 + k) [((1 + k : Nat) : Int)]) :: ((tsN r k).take j).flatMap (tsOne r (1 + k)))).map PWd ++ [PWd (c, if mP r (1 + k) c < t then mP r (1 + k) c else t)]) ++ [PWd (c ++ [((1 + k : Nat) : Int)], if mP r (1 + k) (c ++ [((1 + k : Nat) : Int)]) < t then mP r (1 + k) (c ++ [((1 + k : Nat) : Int)]) else t)] := by
            rw [take_snoc hc, List.flatMap_append, ← List.cons_append, List.map_append, List.append_assoc]
            rfl
          rw [e]
          rfl
      · rintro Γ ⟨u, v, rfl⟩
        rw [List.length_map, List.take_length]
        have hl := flat_len r (1 + k) (tsN r k)
        refine SW_asg (EW_lcA (IWA_list (n := 3) rfl rfl ?_))
        refine LcA_mf (.t2 (.li .lf) .lf) (fun u : List Int × Int => decide (u.2 > 0)) PWd (by rw [List.length_cons, hl]; omega) (fun x hx => ?_) ?_
        · refine GC_t2 (by decide) (by decide) ?_
          walk_at "goW"
          refine ⟨rfl, ?_⟩
          split
          · walk_at "goW"
            refine EW_mv (n := 4) rfl rfl ?_
            walk_at "goW"
            exact ⟨.inl rfl, rfl, rfl⟩
          · rfl
        · refine GW_name ?_
          exact ⟨_, _, _, _, rfl⟩
    · rintro Γ ⟨x, y, u, v, rfl⟩
      exact SW_retV rfl rfl q
/-- what tree_told tells of the table z over b -/
def toldTO (n : Nat) (z : Nat → Nat → Int) (b : Int) (Q : Own → PyData → Prop) : Prop :=
  match firstS n (shortB fun i j => Rat.divInt (z i j) b) with
  | some s => Q .lf (.tuple [.str "bars", SD (some s)])
  | none => match oddF n z with
    | some s => Q .lf (.tuple [.str "bars", QD (some s)])
    | none => ∀ us : List (List Int × Rat), us.Perm ((tsN z (n - 1)).map fun u => (u.1, Rat.divInt u.2 (2 * b))) → us.Pairwise (fun a b => a.1 ≤ b.1) → Q (.t2 .lf (.li (.t2 (.li .lf) .lf))) (.tuple [.str "tree", WD us])
def pToldO : Pre := fun ds Q => ∃ (n : Nat) (z : Nat → Nat → Int) (b : Int), ds = [TD (tabG n fun i j => Rat.divInt (z i j) b)] ∧ 1 ≤ n ∧ n ≤ 12 ∧ 0 < b ∧ IB 1400 b ∧ (∀ i, z i i = 0) ∧ (∀ i j, IB 1400 (z i j)) ∧ toldTO n z b Q
theorem ok_tree_told {f : Addr} {fd : FuncData} (F : Fun K "tree_told" "tree_told" s_tree_told f fd) (T : Tx K mg) (c_fraction : Cal P w K mg base 2 "fraction" (spV K pFraction) []) (c_first_short : Cal P w K mg base 4 "first_short" (spV K pShort) []) (c_whole_rows : Cal P w K mg base 2 "whole_rows" (spV K pWholes) []) (c_first_odd_four : Cal P w K mg base 2 "first_odd_four" (spV K pOddF) []) (c_tree_sides : Cal P w K mg base 3 "tree_sides" (spV K pTreeSO) []) : FnOk P w K mg base CX0 5 f fd P_tree_told (spV K pToldO) := by
  refine okV F sc_tree_told (fun ds Q h => ?_) fun cdv A outer s H E hr => ⟨_, (pss_cons (ps_set (i := 1) sc_tree_told.nd rfl (Or.inl rfl) (pe_c c_first_short hr (by decide) rfl (pa_cons (pv 0) pa_nil)))
  (pss_cons (ps_if (pt_cmpR op_notN1 (pv 1) pe_non (nomark _))
  (pss_one (ps_ret (pe_tup (pa_cons pe_str (pa_cons (pv 1) pa_nil)))))
  pss_nil)
  (pss_cons (ps_asg (pe_c c_whole_rows hr (by decide) rfl (pa_cons (pv 0) pa_nil)) (k_tup (K := K) (n := 2) rfl (pgs_cons (pg_name (i := 2) sc_tree_told.nd rfl (Or.inl rfl)) (pgs_cons (pg_name (i := 3) sc_tree_told.nd rfl (Or.inr rfl)) pgs_nil))))
  (pss_cons (ps_set (i := 4) sc_tree_told.nd rfl (Or.inl rfl) (pe_c c_first_odd_four hr (by decide) rfl (pa_cons (pv 2) pa_nil)))
  (pss_cons (ps_if (pt_cmpR op_notN1 (pv 4) pe_non (nomark _))
  (pss_one (ps_ret (pe_tup (pa_cons pe_str (pa_cons (pv 4) pa_nil)))))
  pss_nil)
  (pss_one (ps_ret (pe_tup (pa_cons pe_str (pa_cons (pe_callB (k_sortedD (K := K) hr.units) (by rfl) T.sorted_ (by decide +kernel) (pa_cons (pe_lc (own := [("side", 5), ("twice", 6)]) (tt := tYes) rfl sc_tree_told.nd (k_piL (K := K) (pe_c c_tree_sides hr (by decide) rfl (pa_cons (pv 2) pa_nil))) (blkOk_by (own := [("side", 5), ("twice", 6)]) (N := N_tree_told) (sc := defScope s_tree_told) (by decide +kernel)) (fun _ _ _ _ _ => (k_tup (K := K) (n := 2) rfl (pgs_cons (pg_name (i := 5) sc_tree_told.nd rfl (Or.inl rfl)) (pgs_cons (pg_name (i := 6) sc_tree_told.nd rfl (Or.inl rfl)) pgs_nil)))) (fun _ _ _ _ _ => pts_nil) (fun _ _ _ _ _ => (pe_tup (pa_cons (pv 5) (pa_cons (pe_c c_fraction hr (by decide) rfl (pa_cons (pv 6) (pa_cons (pe_op op_mulW pe_int (pv 3)) pa_nil))) pa_nil))))) pa_nil)) pa_nil)))))))))), fun ds Q h => ?_⟩
  · obtain ⟨_, _, _, rfl, _⟩ := h
    rfl
  · obtain ⟨n, z, b, rfl, n1, hn, b0, bb, h0, bz, q⟩ := h
    have bg : ∀ i j, Bd 1400 (Rat.divInt (z i j) b) := fun i j => Bd_divInt (by omega) (bz i j) bb
    unfold toldTO at q
    walk_at "goK"
    refine ⟨n, _, rfl, by omega, fun i j => (bg i j).mono (by decide), ?_⟩
    cases hs : firstS n (shortB fun i j => Rat.divInt (z i j) b) with
    | some s =>
      rw [hs] at q
      obtain ⟨i, j, k⟩ := s
      walk_at "goW"
      exact q
    | none =>
      rw [hs] at q
      walk_at "goW"
      have dvb : ∀ i j : Nat, ((Rat.divInt (z i j) b).den : Int) ∣ b := fun i j => by
        rw [Rat.den_divInt, if_neg (by omega)]
        exact Int.ofNat_dvd_left.mpr (Nat.div_dvd_of_dvd (Nat.gcd_dvd_left _ _))
      refine ⟨n, _, b, rfl, by omega, b0, bb.mono (by decide), fun i j _ _ => dvb i j, fun i j => (bg i j).mono (by decide), fun B B0 dB dv => ?_⟩
      have hk : 0 < b / B := Int.ediv_pos_of_pos_of_dvd b0 (by omega) dB
      have sc := whl_scale b0 B0 dv dB
      generalize hr : whl (fun i j => Rat.divInt (z i j) b) B = r at sc
      have bB := ib_dvd dB b0 bb
      rw [odd_mul hk sc] at q
      walk_at "goF"
      refine ⟨n, r, rfl, by omega, ?_⟩
      cases ho : oddF n r with
      | some s =>
        rw [ho] at q
        obtain ⟨i, j, k, l⟩ := s
        walk_at "goW"
        exact q
      | none =>
        rw [ho] at q
        have r0 : ∀ i, i < n → r i i = 0 := fun i hi => by
          have := sc i i hi hi
          rw [h0] at this
          rcases Int.mul_eq_zero.mp this.symm with h | h
          · omega
          · exact h
        have rw0 : ∀ i, r i i = 0 := fun i => by
          rw [← hr]; unfold whl
          show (Rat.divInt (z i i) b).num * _ = 0
          rw [h0, Rat.zero_divInt]
          exact Int.zero_mul _
        have rb : ∀ i j, IB 3000 (r i j) := fun i j => by
          rw [← hr]; unfold whl
          show IB 3000 ((Rat.divInt (z i j) b).num * (B / (((Rat.divInt (z i j) b).den : Nat) : Int)))
          have hq : B / (((Rat.divInt (z i j) b).den : Nat) : Int) ≤ B := Int.ediv_le_self _ (by omega)
          have hq0 : 0 ≤ B / (((Rat.divInt (z i j) b).den : Nat) : Int) := Int.ediv_nonneg (by omega) (by omega)
          exact (IB.mul (n := 1400) (m := 1400) (bg i j).1 (by unfold IB at *; omega)).mono (by decide)
        have tl := tsN_len (r := r) (k := n - 1)
        have tl2 : 2 ^ (n - 1) ≤ 2 ^ 11 := Nat.pow_le_pow_right (by decide) (by omega)
        refine GW_nameF ?_
        refine SW_seq (SW_ifNo ?_ ?_)
        · walk_at "goW"
          rfl
        refine SW_ret (EW_tupB (AW_cons (EW_str (AW_cons (EW_cb (AW_cons (EW_lcA (IWA_E ?_))))))))
        walk_at "goW"
        refine ⟨n, r, rfl, n1, hn, rw0, rb, ?_⟩
        refine ⟨_, _, rfl, rfl, ?_⟩
        refine LcA_mf (.t2 (.li .lf) .lf) (fun _ : List Int × Int => true) (fun u : List Int × Int => CD (u.1, Rat.divInt u.2 (2 * B))) (by omega) (fun u hu => ?_) ?_
        · refine GC_t2 (by decide) (by decide) ?_
          walk_at "goW"
          refine ⟨rfl, ?_⟩
          rw [if_pos rfl]
          walk_at "goW"
          refine EW_mv (n := 5) rfl rfl ?_
          walk_at "goW"
          refine OW_mul (IB.mulW (n := 64) (m := 1400) (by unfold IB; decide) bB (by decide)) ?_
          walk_at "goW"
          refine ⟨_, _, rfl, by omega, ?_, ?_⟩
          · exact (IB.mul (n := 64) (m := 1400) (by unfold IB; decide) bB).mono (by decide)
          walk_at "goW"
          exact ⟨.inl rfl, rfl, rfl⟩
        rw [show (tsN r (n - 1)).filter (fun _ => true) = tsN r (n - 1) from List.filter_eq_self.mpr fun _ _ => rfl]
        rw [show (tsN r (n - 1)).map (fun u : List Int × Int => CD (u.1, Rat.divInt u.2 (2 * B))) = ((tsN r (n - 1)).map fun u => (u.1, Rat.divInt u.2 (2 * B))).map CD by rw [List.map_map]; rfl]
        refine AW_nil ?_
        refine CW_sortO (wd_alike _) (wd_sortable _) (fun d hd => by obtain ⟨u, _, rfl⟩ := List.mem_map.mp hd; exact Nat.le_trans Sh.cd.2 (by decide)) fun ds' hp hs => ?_
        obtain ⟨us, rfl, hp'⟩ := map_perm_inv CD hp
        refine AW_nil (TupB_2 ?_)
        refine q us ?_ ?_
        · rw [tsN_mul hk sc (n - 1) (by omega), List.map_map]
          refine hp'.trans (List.Perm.of_eq ?_)
          apply List.map_congr_left
          intro u _
          show (u.1, _) = (u.1, Rat.divInt (b / B * u.2) (2 * b))
          congr 1
          obtain ⟨k, rfl⟩ := dB
          rw [Int.mul_ediv_cancel_left _ (show B ≠ 0 by omega)]
          have k0 : k ≠ 0 := fun e => by rw [e] at b0; omega
          rw [show 2 * (B * k) = k * (2 * B) by rw [Int.mul_comm B k, ← Int.mul_assoc, Int.mul_comm 2 k, Int.mul_assoc], Rat.divInt_mul_left k0]
        · rw [List.pairwise_map] at hs
          exact hs.imp fun h => dl_cd h
end
/-! ### the cuts of a tree: by the least over fours -/
structure Vld (m : Nat) (C : List Int) : Prop where
  ne : C ≠ []
  so : C.Pairwise (· < ·)
  inn : ∀ x ∈ C, 0 < x ∧ x ≤ (m : Int)
def BP (z : Nat → Nat → Int) (m : Nat) (C : List Int) (v : Int) : Prop := ∃ a ∈ C, ∃ b ∈ C, ∃ c ∈ ptsOut (m + 1) C, ∃ e ∈ ptsOut (m + 1) C, v = qT z a b c e
theorem zero_out {m : Nat} {C : List Int} (h : ∀ x ∈ C, 0 < x ∧ x ≤ (m : Int)) : (0 : Int) ∈ ptsOut (m + 1) C := mem_outs.mpr ⟨by omega, fun h2 => by have := h 0 h2; omega⟩
theorem bp_ex {z : Nat → Nat → Int} {m : Nat} {C : List Int} (v : Vld m C) : ∃ t, Lst (BP z m C) t := by
  have hO : ptsOut (m + 1) C ≠ [] := fun h => by have := zero_out v.inn; rw [h] at this; cases this
  obtain ⟨t, ht⟩ := lst_list (l := C.flatMap fun a => C.flatMap fun b => (ptsOut (m + 1) C).flatMap fun c => (ptsOut (m + 1) C).map fun e => qT z a b c e) (by
    have hC := v.ne
    obtain ⟨b, A, hb⟩ := List.exists_cons_of_ne_nil hC
    obtain ⟨c, B, hc⟩ := List.exists_cons_of_ne_nil hO
    rw [hc, hb]
    simp)
  refine ⟨t, ht.iff fun v => ?_⟩
  unfold BP
  simp only [List.mem_flatMap, List.mem_map]
  constructor
  · rintro ⟨a, ha, b, hb, c, hc, e, he, rfl⟩; exact ⟨a, ha, b, hb, c, hc, e, he, rfl⟩
  · rintro ⟨a, ha, b, hb, c, hc, e, he, rfl⟩; exact ⟨a, ha, b, hb, c, hc, e, he, rfl⟩
theorem lst_or {P P' : Int → Prop} {t u : Int} (h : Lst P t) (h' : Lst P' u) : Lst (fun v => P v ∨ P' v) (if u < t then u else t) := by
  by_cases c : u < t
  · rw [if_pos c]
    exact ⟨.inr h'.1, fun y hy => by
      rcases hy with hy | hy
      · have := h.2 y hy; omega
      · exact h'.2 y hy⟩
  · rw [if_neg c]
    exact ⟨.inl h.1, fun y hy => by
      rcases hy with hy | hy
      · exact h.2 y hy
      · have := h'.2 y hy; omega⟩
theorem valid_split {m : Nat} {C : List Int} (v : Vld (m + 1) C) : (((m + 1 : Nat) : Int) ∉ C ∧ Vld m C) ∨ ∃ C0, C = C0 ++ [((m + 1 : Nat) : Int)] ∧ ((m + 1 : Nat) : Int) ∉ C0 ∧ (C0 = [] ∨ Vld m C0) := by
  by_cases h : ((m + 1 : Nat) : Int) ∈ C
  · right
    obtain ⟨A, B, rfl⟩ := List.append_of_mem h
    have so := v.so
    rw [List.pairwise_append] at so
    obtain ⟨sA, sB, sAB⟩ := so
    rw [List.pairwise_cons] at sB
    have hB : B = [] := by
      cases B with
      | nil => rfl
      | cons b B =>
        have h1 := sB.1 b List.mem_cons_self
        have h2 := v.inn b (List.mem_append_right _ (.tail _ List.mem_cons_self))
        omega
    subst hB
    have hA : ∀ x ∈ A, x < ((m + 1 : Nat) : Int) := fun x hx => sAB x hx _ List.mem_cons_self
    refine ⟨A, rfl, fun z => by have := hA _ z; omega, ?_⟩
    by_cases c : A = []
    · exact .inl c
    · exact .inr ⟨c, sA, fun x hx => by
        have h1 := v.inn x (List.mem_append_left _ hx)
        have h2 := hA x hx
        omega⟩
  · exact .inl ⟨h, v.ne, v.so, fun x hx => by
      have h1 := v.inn x hx
      have h2 : x ≠ ((m + 1 : Nat) : Int) := fun e => h (e ▸ hx)
      omega⟩
section
variable {z : Nat → Nat → Int} (hz : ∀ i j, z i j = z j i) {m : Nat} {C : List Int}
include hz
theorem rz_sym (x y : Int) : rz z x y = rz z y x := hz _ _
theorem bp_out (v : Vld m C) (hp : ((m + 1 : Nat) : Int) ∉ C) (t : Int) : BP z (m + 1) C t ↔ BP z m C t ∨ PP z (1 + m) C t := by
  have e1 : ((1 + m : Nat) : Int) = ((m + 1 : Nat) : Int) := by omega
  have e2 : 1 + m + 1 = m + 1 + 1 := by omega
  have mo : ∀ x, x ∈ ptsOut (m + 1 + 1) C ↔ x ∈ ptsOut (m + 1) C ∨ x = ((m + 1 : Nat) : Int) := fun x => by
    rw [mem_outs, mem_outs]
    constructor
    · rintro ⟨h1, h2⟩
      by_cases c : x = ((m + 1 : Nat) : Int)
      · exact .inr c
      · exact .inl ⟨by omega, h2⟩
    · rintro (⟨h1, h2⟩ | rfl)
      · exact ⟨by omega, h2⟩
      · exact ⟨by omega, hp⟩
  unfold PP QP BP
  rw [e1, e2, if_neg hp, if_neg hp]
  constructor
  · rintro ⟨a, ha, b, hb, c, hc, e, he, rfl⟩
    rcases (mo c).mp hc with hc1 | rfl
    · rcases (mo e).mp he with he1 | rfl
      · exact .inl ⟨a, ha, b, hb, c, hc1, e, he1, rfl⟩
      · refine .inr ⟨c, hc, b, hb, a, ha, ?_⟩
        unfold qT
        rw [rz_sym hz ((m + 1 : Nat) : Int) b, rz_sym hz ((m + 1 : Nat) : Int) c, rz_sym hz b a, rz_sym hz c a]; omega
    · refine .inr ⟨e, he, a, ha, b, hb, ?_⟩
      unfold qT
      rw [rz_sym hz a ((m + 1 : Nat) : Int), rz_sym hz e b]; omega
  · rintro (⟨a, ha, b, hb, c, hc, e, he, rfl⟩ | ⟨b, hb, c, hc, e, he, rfl⟩)
    · exact ⟨a, ha, b, hb, c, (mo c).mpr (.inl hc), e, (mo e).mpr (.inl he), rfl⟩
    · refine ⟨c, hc, e, he, _, (mo _).mpr (.inr rfl), b, hb, ?_⟩
      unfold qT
      rw [rz_sym hz c ((m + 1 : Nat) : Int), rz_sym hz e b]; omega
theorem bp_in (hp : ((m + 1 : Nat) : Int) ∉ C) (t : Int) : BP z (m + 1) (C ++ [((m + 1 : Nat) : Int)]) t ↔ BP z m C t ∨ PP z (1 + m) (C ++ [((m + 1 : Nat) : Int)]) t := by
  have e1 : ((1 + m : Nat) : Int) = ((m + 1 : Nat) : Int) := by omega
  have e2 : 1 + m + 1 = m + 1 + 1 := by omega
  have mo : ∀ x, x ∈ ptsOut (m + 1 + 1) (C ++ [((m + 1 : Nat) : Int)]) ↔ x ∈ ptsOut (m + 1) C := fun x => by
    rw [mem_outs, mem_outs, List.mem_append, List.mem_singleton]
    constructor
    · rintro ⟨h1, h2⟩
      exact ⟨by omega, fun h => h2 (.inl h)⟩
    · rintro ⟨h1, h2⟩
      exact ⟨by omega, fun h => by rcases h with h | h; exact h2 h; omega⟩
  have mc : ∀ x, x ∈ C ++ [((m + 1 : Nat) : Int)] ↔ x ∈ C ∨ x = ((m + 1 : Nat) : Int) := fun x => by rw [List.mem_append, List.mem_singleton]
  have pc : ((m + 1 : Nat) : Int) ∈ C ++ [((m + 1 : Nat) : Int)] := (mc _).mpr (.inr rfl)
  unfold PP QP BP
  rw [e1, e2, if_pos pc, if_pos pc]
  constructor
  · rintro ⟨a, ha, b, hb, c, hc, e, he, rfl⟩
    rcases (mc a).mp ha with ha1 | rfl
    · rcases (mc b).mp hb with hb1 | rfl
      · exact .inl ⟨a, ha1, b, hb1, c, (mo c).mp hc, e, (mo e).mp he, rfl⟩
      · refine .inr ⟨a, ha, e, he, c, hc, ?_⟩
        unfold qT
        rw [rz_sym hz ((m + 1 : Nat) : Int) a, rz_sym hz e c]; omega
    · exact .inr ⟨b, hb, c, hc, e, he, rfl⟩
  · rintro (⟨a, ha, b, hb, c, hc, e, he, rfl⟩ | ⟨b, hb, c, hc, e, he, rfl⟩)
    · exact ⟨a, (mc a).mpr (.inl ha), b, (mc b).mpr (.inl hb), c, (mo c).mpr hc, e, (mo e).mpr he, rfl⟩
    · exact ⟨_, pc, b, hb, c, hc, e, he, rfl⟩
theorem bp_one (t : Int) : BP z (m + 1) [((m + 1 : Nat) : Int)] t ↔ PP z (1 + m) [((1 + m : Nat) : Int)] t := by
  have h := bp_in hz (m := m) (C := []) (by simp) t
  rw [List.nil_append] at h
  rw [show ((1 + m : Nat) : Int) = ((m + 1 : Nat) : Int) by omega, h]
  constructor
  · rintro (⟨a, ha, _⟩ | h)
    · cases ha
    · exact h
  · exact .inr
/-- the sides are just those whose least is above nought, with it -/
theorem ts_iff : ∀ (m : Nat) (C : List Int) (t : Int), (C, t) ∈ tsN z m ↔ Vld m C ∧ Lst (BP z m C) t ∧ 0 < t
  | 0, C, t => by
    constructor
    · intro h; cases h
    · rintro ⟨v, _⟩
      obtain ⟨x, hx⟩ := List.exists_mem_of_ne_nil _ v.ne
      have := v.inn x hx
      omega
  | m + 1, C, t => by
    have ih := ts_iff m
    have e1 : ((1 + m : Nat) : Int) = ((m + 1 : Nat) : Int) := by omega
    have v1 : Vld (m + 1) [((m + 1 : Nat) : Int)] := ⟨by simp, by simp, fun x hx => by rw [List.mem_singleton.mp hx]; omega⟩
    have p1 : Lst (PP z (1 + m) [((1 + m : Nat) : Int)]) (mP z (1 + m) [((1 + m : Nat) : Int)]) := mP_lst (by simp) (fun x hx => by rw [List.mem_singleton.mp hx]; omega)
    have po : ∀ D, Vld m D → ((m + 1 : Nat) : Int) ∉ D ∧ Lst (PP z (1 + m) D) (mP z (1 + m) D) ∧ Lst (PP z (1 + m) (D ++ [((1 + m : Nat) : Int)])) (mP z (1 + m) (D ++ [((1 + m : Nat) : Int)])) ∧ Vld (m + 1) D ∧ Vld (m + 1) (D ++ [((m + 1 : Nat) : Int)]) := fun D v => by
      refine ⟨fun h => by have := v.inn _ h; omega, mP_lst v.ne fun x hx => by have := v.inn x hx; omega, mP_lst (by simp) fun x hx => ?_, ⟨v.ne, v.so, fun x hx => by have := v.inn x hx; omega⟩, ⟨by simp, ?_, fun x hx => ?_⟩⟩
      · rcases List.mem_append.mp hx with hx | hx
        · have := v.inn x hx; omega
        · rw [List.mem_singleton.mp hx]; omega
      · rw [List.pairwise_append]
        exact ⟨v.so, by simp, fun x hx y hy => by rw [List.mem_singleton.mp hy]; have := v.inn x hx; omega⟩
      · rcases List.mem_append.mp hx with hx | hx
        · have := v.inn x hx; omega
        · rw [List.mem_singleton.mp hx]; omega
    show (C, t) ∈ tsStep z (1 + m) (tsN z m) ↔ _
    unfold tsStep tsTry
    rw [List.mem_filter, List.mem_cons, List.mem_flatMap, decide_eq_true_eq]
    constructor
    · rintro ⟨h | ⟨⟨D, s⟩, hu, h⟩, t0⟩
      · obtain ⟨rfl, rfl⟩ := Prod.mk.inj h
        refine ⟨by rw [e1]; exact v1, p1.iff fun v => ?_, t0⟩
        rw [← bp_one hz v, e1]
      · obtain ⟨v, ls, s0⟩ := (ih D s).mp hu
        obtain ⟨np, l1, l2, w1, w2⟩ := po D v
        unfold tsOne at h
        simp only [List.mem_cons, List.not_mem_nil, or_false] at h
        rcases h with h | h
        · obtain ⟨rfl, rfl⟩ := Prod.mk.inj h
          exact ⟨w1, (lst_or ls l1).iff fun v' => (bp_out hz v np v').symm, t0⟩
        · obtain ⟨rfl, rfl⟩ := Prod.mk.inj h
          rw [e1] at l2 t0 ⊢
          exact ⟨w2, (lst_or ls l2).iff fun v' => (bp_in hz np v').symm, t0⟩
    · rintro ⟨v, lt, t0⟩
      refine ⟨?_, t0⟩
      rcases valid_split v with ⟨np, v'⟩ | ⟨C0, rfl, np, h0⟩
      · right
        obtain ⟨s, hs⟩ := bp_ex (z := z) v'
        obtain ⟨_, l1, _⟩ := po C v'
        have e := ((lst_or hs l1).iff fun u => (bp_out hz v' np u).symm).uniq lt
        have s0 : 0 < s := by
          have : t ≤ s := lt.2 s ((bp_out hz v' np s).mpr (.inl hs.1))
          omega
        refine ⟨(C, s), (ih C s).mpr ⟨v', hs, s0⟩, ?_⟩
        unfold tsOne
        rw [← e]
        exact List.mem_cons_self
      · rcases h0 with rfl | v'
        · left
          have := (p1.iff fun u => (bp_one hz u).symm).uniq lt
          rw [← this, e1]; rfl
        · right
          obtain ⟨s, hs⟩ := bp_ex (z := z) v'
          obtain ⟨_, _, l2, _⟩ := po C0 v'
          rw [e1] at l2
          have e := ((lst_or hs l2).iff fun u => (bp_in hz np u).symm).uniq lt
          have s0 : 0 < s := by
            have : t ≤ s := lt.2 s ((bp_in hz np s).mpr (.inl hs.1))
            omega
          refine ⟨(C0, s), (ih C0 s).mpr ⟨v', hs, s0⟩, ?_⟩
          unfold tsOne
          rw [← e, e1]
          exact .tail _ List.mem_cons_self
end
theorem ts_nodup {z : Nat → Nat → Int} : ∀ m : Nat, ((tsN z m).map Prod.fst).Nodup
  | 0 => List.nodup_nil
  | m + 1 => by
    have ih := ts_nodup (z := z) m
    have hin : ∀ c ∈ (tsN z m).map Prod.fst, c ≠ [] ∧ ((1 + m : Nat) : Int) ∉ c := fun c hc => by
      obtain ⟨u, hu, rfl⟩ := List.mem_map.mp hc
      obtain ⟨h1, h2, _⟩ := tsN_in hu
      exact ⟨h1, fun z => by have := h2 _ z; omega⟩
    have e : (tsTry z (1 + m) (tsN z m)).map Prod.fst = [((1 + m : Nat) : Int)] :: ((tsN z m).map Prod.fst).flatMap fun c => [c, c ++ [((1 + m : Nat) : Int)]] := by
      unfold tsTry
      rw [List.map_cons, List.map_flatMap, List.flatMap_map]
      rfl
    have nd : ((tsTry z (1 + m) (tsN z m)).map Prod.fst).Nodup := by
      rw [e]
      generalize (tsN z m).map Prod.fst = cs at ih hin
      rw [List.nodup_cons]
      constructor
      · intro h
        obtain ⟨c, hc, h⟩ := List.mem_flatMap.mp h
        obtain ⟨h1, h2⟩ := hin c hc
        simp only [List.mem_cons, List.not_mem_nil, or_false] at h
        rcases h with h | h
        · exact h2 (by rw [← h]; exact List.mem_cons_self)
        · have hl := congrArg List.length h
          rw [List.length_append, List.length_singleton] at hl
          have := List.length_pos_iff.mpr h1
          omega
      · unfold List.Nodup
        rw [List.pairwise_flatMap]
        refine ⟨fun c hc => ?_, ?_⟩
        · simp
        · have := List.Pairwise.and_mem.mp ih
          refine this.imp fun {c d} h x hx y hy exy => ?_
          obtain ⟨hc, hd, hne⟩ := h
          obtain ⟨_, nc⟩ := hin c hc
          obtain ⟨_, nd⟩ := hin d hd
          simp only [List.mem_cons, List.not_mem_nil, or_false] at hx hy
          rcases hx with rfl | rfl <;> rcases hy with rfl | rfl
          · exact hne exy
          · exact nc (by rw [exy]; exact List.mem_append_right _ List.mem_cons_self)
          · exact nd (by rw [← exy]; exact List.mem_append_right _ List.mem_cons_self)
          · exact hne (List.append_cancel_right exy)
    rw [show tsN z (m + 1) = tsStep z (1 + m) (tsN z m) from rfl]
    unfold tsStep
    exact nd.sublist ((List.filter_sublist).map _)
/-! ### tables of sides of which no two cross -/
def ind (b : Bool) : Int := if b then 1 else 0
def kap (S : List Int) (a b c e : Int) : Int := ind (parts S a.toNat c.toNat) + ind (parts S b.toNat e.toNat) - ind (parts S a.toNat b.toNat) - ind (parts S c.toNat e.toNat)
theorem sumS_cons (u : List Int × Int) (sw : List (List Int × Int)) (i j : Nat) : sumS (u :: sw) i j = ind (parts u.1 i j) * u.2 + sumS sw i j := by
  have key : ∀ (sw : List (List Int × Int)) (x : Int), sw.foldl (fun a u => if parts u.1 i j then a + u.2 else a) x = x + sw.foldl (fun a u => if parts u.1 i j then a + u.2 else a) 0 := fun sw => by
    induction sw with
    | nil => intro x; simp
    | cons w sw ih =>
      intro x
      rw [List.foldl_cons, List.foldl_cons, ih, ih (if parts w.1 i j then 0 + w.2 else 0)]
      split <;> omega
  show (u :: sw).foldl _ 0 = _
  rw [List.foldl_cons, key]
  unfold ind sumS
  split <;> omega
theorem qT_cons (u : List Int × Int) (sw : List (List Int × Int)) (a b c e : Int) : qT (sumS (u :: sw)) a b c e = kap u.1 a b c e * u.2 + qT (sumS sw) a b c e := by
  unfold qT rz kap
  rw [sumS_cons, sumS_cons, sumS_cons, sumS_cons]
  rw [Int.sub_mul, Int.sub_mul, Int.add_mul]
  omega
/-- the weight of a side -/
def wtS (sw : List (List Int × Int)) (C : List Int) : Int := ((sw.filter fun u => decide (u.1 = C)).map Prod.snd).sum
theorem wtS_cons (u : List Int × Int) (sw : List (List Int × Int)) (C : List Int) : wtS (u :: sw) C = (if u.1 = C then u.2 else 0) + wtS sw C := by
  unfold wtS
  by_cases h : u.1 = C
  · rw [List.filter_cons_of_pos (by rw [decide_eq_true h]), if_pos h, List.map_cons, List.sum_cons]
  · rw [List.filter_cons_of_neg (by rw [decide_eq_false h]; decide), if_neg h]; omega
theorem sumS_nil (i j : Nat) : sumS [] i j = 0 := rfl
theorem qT_lo {sw : List (List Int × Int)} {C : List Int} {a b c e : Int} (h0 : ∀ u ∈ sw, 0 ≤ u.2) (h : ∀ u ∈ sw, (if u.1 = C then 2 else 0) ≤ kap u.1 a b c e) : 2 * wtS sw C ≤ qT (sumS sw) a b c e := by
  induction sw with
  | nil => simp [wtS, qT, rz, sumS_nil]
  | cons u sw ih =>
    rw [wtS_cons, qT_cons]
    have i1 := ih (fun u hu => h0 u (.tail _ hu)) fun u hu => h u (.tail _ hu)
    have i2 := h u List.mem_cons_self
    have i3 := Int.mul_le_mul_of_nonneg_right i2 (h0 u List.mem_cons_self)
    split at i3 <;> rename_i hc
    · rw [if_pos hc]; omega
    · rw [if_neg hc]; omega
theorem qT_hi {sw : List (List Int × Int)} {C : List Int} {a b c e : Int} (h0 : ∀ u ∈ sw, 0 ≤ u.2) (h : ∀ u ∈ sw, kap u.1 a b c e ≤ (if u.1 = C then 2 else 0)) : qT (sumS sw) a b c e ≤ 2 * wtS sw C := by
  induction sw with
  | nil => simp [wtS, qT, rz, sumS_nil]
  | cons u sw ih =>
    rw [wtS_cons, qT_cons]
    have i1 := ih (fun u hu => h0 u (.tail _ hu)) fun u hu => h u (.tail _ hu)
    have i2 := h u List.mem_cons_self
    have i3 := Int.mul_le_mul_of_nonneg_right i2 (h0 u List.mem_cons_self)
    split at i3 <;> rename_i hc
    · rw [if_pos hc]; omega
    · rw [if_neg hc]; omega
theorem ind_parts (S : List Int) {x y : Int} (hx : 0 ≤ x) (hy : 0 ≤ y) : ind (parts S x.toNat y.toNat) = if (x ∈ S ↔ y ∈ S) then 0 else 1 := by
  unfold ind parts
  rw [Int.toNat_of_nonneg hx, Int.toNat_of_nonneg hy]
  by_cases h1 : x ∈ S <;> by_cases h2 : y ∈ S <;> simp [h1, h2]
theorem kap_hi {S : List Int} {a b c e : Int} (ha : 0 ≤ a) (hb : 0 ≤ b) (hc : 0 ≤ c) (he : 0 ≤ e) : kap S a b c e ≤ 2 ∧ (¬ ((a ∈ S ↔ b ∈ S) ∧ (c ∈ S ↔ e ∈ S) ∧ ¬ (a ∈ S ↔ c ∈ S)) → kap S a b c e ≤ 0) := by
  unfold kap
  rw [ind_parts S ha hc, ind_parts S hb he, ind_parts S ha hb, ind_parts S hc he]
  by_cases h1 : a ∈ S <;> by_cases h2 : b ∈ S <;> by_cases h3 : c ∈ S <;> by_cases h4 : e ∈ S <;> simp [h1, h2, h3, h4]
theorem kap_lo {S C : List Int} {a b c e : Int} (ha : 0 ≤ a) (hb : 0 ≤ b) (hc : 0 ≤ c) (he : 0 ≤ e) (aC : a ∈ C) (bC : b ∈ C) (cC : c ∉ C) (eC : e ∉ C) (h : (∀ x ∈ S, x ∈ C) ∨ (∀ x ∈ C, x ∈ S) ∨ ∀ x ∈ S, x ∉ C) : 0 ≤ kap S a b c e := by
  unfold kap
  rw [ind_parts S ha hc, ind_parts S hb he, ind_parts S ha hb, ind_parts S hc he]
  rcases h with h | h | h
  · have h3 : c ∉ S := fun z => cC (h c z)
    have h4 : e ∉ S := fun z => eC (h e z)
    by_cases h1 : a ∈ S <;> by_cases h2 : b ∈ S <;> simp [h1, h2, h3, h4]
  · have h1 := h a aC
    have h2 := h b bC
    by_cases h3 : c ∈ S <;> by_cases h4 : e ∈ S <;> simp [h1, h2, h3, h4]
  · have h1 : a ∉ S := fun z => h a z aC
    have h2 : b ∉ S := fun z => h b z bC
    by_cases h3 : c ∈ S <;> by_cases h4 : e ∈ S <;> simp [h1, h2, h3, h4]
theorem kap_own {C : List Int} {a b c e : Int} (ha : 0 ≤ a) (hb : 0 ≤ b) (hc : 0 ≤ c) (he : 0 ≤ e) (aC : a ∈ C) (bC : b ∈ C) (cC : c ∉ C) (eC : e ∉ C) : kap C a b c e = 2 := by
  unfold kap
  rw [ind_parts C ha hc, ind_parts C hb he, ind_parts C ha hb, ind_parts C hc he]
  simp [aC, bC, cC, eC]
theorem rise_ext : ∀ {A B : List Int}, A.Pairwise (· < ·) → B.Pairwise (· < ·) → (∀ x, x ∈ A ↔ x ∈ B) → A = B
  | [], [], _, _, _ => rfl
  | [], b :: B, _, _, h => by have := (h b).mpr List.mem_cons_self; cases this
  | a :: A, [], _, _, h => by have := (h a).mp List.mem_cons_self; cases this
  | a :: A, b :: B, hA, hB, h => by
    rw [List.pairwise_cons] at hA hB
    have e : a = b := by
      rcases List.mem_cons.mp ((h a).mp List.mem_cons_self) with e | h1
      · exact e
      · rcases List.mem_cons.mp ((h b).mpr List.mem_cons_self) with e | h2
        · exact e.symm
        · have := hB.1 a h1; have := hA.1 b h2; omega
    subst e
    rw [rise_ext hA.2 hB.2 fun x => ?_]
    constructor
    · intro hx
      rcases List.mem_cons.mp ((h x).mp (.tail _ hx)) with rfl | h1
      · have := hA.1 x hx; omega
      · exact h1
    · intro hx
      rcases List.mem_cons.mp ((h x).mpr (.tail _ hx)) with rfl | h1
      · have := hB.1 x hx; omega
      · exact h1
theorem max_len {α : Type} {p : List α → Prop} : ∀ {F : List (List α)}, (∃ M ∈ F, p M) → ∃ M ∈ F, p M ∧ ∀ N ∈ F, p N → N.length ≤ M.length
  | [], ⟨M, h, _⟩ => by cases h
  | A :: F, h => by
    by_cases c : ∃ M ∈ F, p M
    · obtain ⟨M, hM, pM, mx⟩ := max_len c
      by_cases c2 : p A ∧ M.length < A.length
      · exact ⟨A, List.mem_cons_self, c2.1, fun N hN pN => by
          rcases List.mem_cons.mp hN with rfl | hN
          · exact Nat.le_refl _
          · have := mx N hN pN; omega⟩
      · refine ⟨M, .tail _ hM, pM, fun N hN pN => ?_⟩
        rcases List.mem_cons.mp hN with rfl | hN
        · by_cases c3 : M.length < N.length
          · exact (c2 ⟨pN, c3⟩).elim
          · omega
        · exact mx N hN pN
    · obtain ⟨M, hM, pM⟩ := h
      rcases List.mem_cons.mp hM with rfl | hM
      · exact ⟨M, List.mem_cons_self, pM, fun N hN pN => by
          rcases List.mem_cons.mp hN with rfl | hN
          · exact Nat.le_refl _
          · exact (c ⟨N, hN, pN⟩).elim⟩
      · exact (c ⟨M, hM, pM⟩).elim
theorem min_len {α : Type} {p : List α → Prop} : ∀ {F : List (List α)}, (∃ M ∈ F, p M) → ∃ M ∈ F, p M ∧ ∀ N ∈ F, p N → M.length ≤ N.length
  | [], ⟨M, h, _⟩ => by cases h
  | A :: F, h => by
    by_cases c : ∃ M ∈ F, p M
    · obtain ⟨M, hM, pM, mx⟩ := min_len c
      by_cases c2 : p A ∧ A.length < M.length
      · exact ⟨A, List.mem_cons_self, c2.1, fun N hN pN => by
          rcases List.mem_cons.mp hN with rfl | hN
          · exact Nat.le_refl _
          · have := mx N hN pN; omega⟩
      · refine ⟨M, .tail _ hM, pM, fun N hN pN => ?_⟩
        rcases List.mem_cons.mp hN with rfl | hN
        · by_cases c3 : N.length < M.length
          · exact (c2 ⟨pN, c3⟩).elim
          · omega
        · exact mx N hN pN
    · obtain ⟨M, hM, pM⟩ := h
      rcases List.mem_cons.mp hM with rfl | hM
      · exact ⟨M, List.mem_cons_self, pM, fun N hN pN => by
          rcases List.mem_cons.mp hN with rfl | hN
          · exact Nat.le_refl _
          · exact (c ⟨N, hN, pN⟩).elim⟩
      · exact (c ⟨M, hM, pM⟩).elim
theorem sub_len0 : ∀ {B A : List Int}, A.Pairwise (· < ·) → B.Pairwise (· < ·) → (∀ x ∈ A, x ∈ B) → A.length ≤ B.length ∧ (B.length ≤ A.length → A = B)
  | [], A, _, _, h => by
    cases A with
    | nil => exact ⟨Nat.le_refl _, fun _ => rfl⟩
    | cons a A => have := h a List.mem_cons_self; cases this
  | b :: B, [], _, _, _ => ⟨Nat.zero_le _, fun h => by simp at h⟩
  | b :: B, a :: A, hA, hB, h => by
    have hA' := List.pairwise_cons.mp hA
    have hB' := List.pairwise_cons.mp hB
    rcases List.mem_cons.mp (h a List.mem_cons_self) with rfl | ha
    · obtain ⟨h1, h2⟩ := sub_len0 hA'.2 hB'.2 fun x hx => by
        rcases List.mem_cons.mp (h x (.tail _ hx)) with rfl | q
        · have := hA'.1 x hx; omega
        · exact q
      exact ⟨by simpa using h1, fun l => by rw [h2 (by simpa using l)]⟩
    · obtain ⟨h1, _⟩ := sub_len0 (A := a :: A) hA hB'.2 fun x hx => by
        have hab := hB'.1 a ha
        rcases List.mem_cons.mp (h x hx) with rfl | q
        · rcases List.mem_cons.mp hx with rfl | hx
          · omega
          · have := hA'.1 x hx; omega
        · exact q
      exact ⟨by rw [List.length_cons (a := b)]; omega, fun l => by rw [List.length_cons (a := b)] at l; omega⟩
/-- a subset with as many things is the whole -/
theorem sub_lenB {A B : List Int} (hA : A.Pairwise (· < ·)) (hB : B.Pairwise (· < ·)) (h : ∀ x ∈ A, x ∈ B) (l : B.length ≤ A.length) : ∀ x ∈ B, x ∈ A := fun x hx => by
  rw [(sub_len0 hA hB h).2 l]; exact hx
/-- four points by which a cut has no more than its weight -/
theorem four_of {n : Nat} {F : List (List Int)} (h : Clu n F) {C : List Int} (hne : C ≠ []) (hso : C.Pairwise (· < ·)) (hin : ∀ x ∈ C, 0 < x ∧ x < (n : Int)) :
    ∃ a ∈ C, ∃ b ∈ C, ∃ c, (0 ≤ c ∧ c < (n : Int)) ∧ c ∉ C ∧ ∀ S ∈ F, S ≠ C → kap S a b c 0 ≤ 0 := by
  obtain ⟨x0, hx0⟩ := List.exists_mem_of_ne_nil _ hne
  have n0 : ∀ S ∈ F, (0 : Int) ∉ S := fun S hS z => by have := (h.ok S hS).2.2 0 z; omega
  have red : ∀ {a b c : Int}, a ∈ C → b ∈ C → 0 ≤ c → (∀ S ∈ F, S ≠ C → ¬ (a ∈ S ∧ b ∈ S ∧ c ∉ S)) → ∀ S ∈ F, S ≠ C → kap S a b c 0 ≤ 0 := fun {a b c} ha hb hc hS S hSF hSC => by
    have ha0 := hin a ha
    have hb0 := hin b hb
    refine (kap_hi (by omega) (by omega) hc (Int.le_refl 0)).2 fun ⟨h1, h2, h3⟩ => hS S hSF hSC ?_
    have hc' : c ∉ S := fun z => n0 S hSF (h2.mp z)
    have ha' : a ∈ S := by
      by_cases q : a ∈ S
      · exact q
      · exact (h3 ⟨fun z => (q z).elim, fun z => (hc' z).elim⟩).elim
    exact ⟨ha', h1.mp ha', hc'⟩
  by_cases cr : ∃ S ∈ F, (∃ x ∈ S, x ∈ C) ∧ (∃ x ∈ C, x ∉ S) ∧ ∃ x ∈ S, x ∉ C
  · obtain ⟨S, hS, ⟨a, aS, aC⟩, ⟨b, bC, bS⟩, ⟨c, cS, cC⟩⟩ := cr
    have hc := (h.ok S hS).2.2 c cS
    refine ⟨a, aC, b, bC, c, by omega, cC, red aC bC (by omega) fun S' hS' _ ⟨h1, h2, h3⟩ => ?_⟩
    rcases h.lam S hS S' hS' with q | q | q
    · exact h3 (q c cS)
    · exact bS (q b h2)
    · exact q a aS h1
  · have lam : ∀ S ∈ F, (∀ x ∈ S, x ∈ C) ∨ (∀ x ∈ C, x ∈ S) ∨ ∀ x ∈ S, x ∉ C := fun S hS => by
      by_cases q1 : ∀ x ∈ S, x ∈ C
      · exact .inl q1
      by_cases q2 : ∀ x ∈ C, x ∈ S
      · exact .inr (.inl q2)
      refine .inr (.inr fun x hx hC => cr ⟨S, hS, ⟨x, hx, hC⟩, ?_, ?_⟩)
      · exact Classical.byContradiction fun z => q2 fun y hy => Classical.byContradiction fun w => z ⟨y, hy, w⟩
      · exact Classical.byContradiction fun z => q1 fun y hy => Classical.byContradiction fun w => z ⟨y, hy, w⟩
    -- within
    obtain ⟨a, aC, b, bC, hab⟩ : ∃ a ∈ C, ∃ b ∈ C, ∀ S ∈ F, S ≠ C → (∀ x ∈ S, x ∈ C) → ¬ (a ∈ S ∧ b ∈ S) := by
      by_cases q : ∃ M ∈ F, (∀ x ∈ M, x ∈ C) ∧ M ≠ C
      · obtain ⟨M, hM, ⟨hMC, hne2⟩, mx⟩ := max_len (p := fun M : List Int => (∀ x ∈ M, x ∈ C) ∧ M ≠ C) q
        obtain ⟨a, aM⟩ := h.inh hM
        have ⟨b, bC, bM⟩ : ∃ b ∈ C, b ∉ M := Classical.byContradiction fun z => hne2 (rise_ext (h.ok M hM).2.1 hso fun x => ⟨hMC x, fun hx => Classical.byContradiction fun w => z ⟨x, hx, w⟩⟩)
        refine ⟨a, hMC a aM, b, bC, fun S hS hSC hsub ⟨aS, bS⟩ => ?_⟩
        rcases h.lam M hM S hS with q | q | q
        · have := mx S hS ⟨hsub, hSC⟩
          exact bM (sub_lenB (h.ok M hM).2.1 (h.ok S hS).2.1 q this b bS)
        · exact bM (q b bS)
        · exact q a aM aS
      · exact ⟨x0, hx0, x0, hx0, fun S hS hSC hsub _ => q ⟨S, hS, hsub, hSC⟩⟩
    -- without
    obtain ⟨c, c0, cn, cC, hc⟩ : ∃ c : Int, 0 ≤ c ∧ c < (n : Int) ∧ c ∉ C ∧ ∀ S ∈ F, S ≠ C → (∀ x ∈ C, x ∈ S) → c ∈ S := by
      by_cases q : ∃ M ∈ F, (∀ x ∈ C, x ∈ M) ∧ M ≠ C
      · obtain ⟨M, hM, ⟨hMC, hne2⟩, mn⟩ := min_len (p := fun M : List Int => (∀ x ∈ C, x ∈ M) ∧ M ≠ C) q
        have ⟨c, cM, cC⟩ : ∃ c ∈ M, c ∉ C := Classical.byContradiction fun z => hne2 (rise_ext (h.ok M hM).2.1 hso fun x => ⟨fun hx => Classical.byContradiction fun w => z ⟨x, hx, w⟩, hMC x⟩)
        have := (h.ok M hM).2.2 c cM
        refine ⟨c, by omega, this.2, cC, fun S hS hSC hsup => ?_⟩
        rcases h.lam M hM S hS with q | q | q
        · exact q c cM
        · have := mn S hS ⟨hsup, hSC⟩
          exact sub_lenB (h.ok S hS).2.1 (h.ok M hM).2.1 q this c cM
        · exact (q x0 (hMC x0 hx0) (hsup x0 hx0)).elim
      · have := hin x0 hx0
        exact ⟨0, by omega, by omega, fun z => by have := hin 0 z; omega, fun S hS hSC hsup => (q ⟨S, hS, hsup, hSC⟩).elim⟩
    refine ⟨a, aC, b, bC, c, ⟨c0, cn⟩, cC, red aC bC c0 fun S hS hSC ⟨h1, h2, h3⟩ => ?_⟩
    rcases lam S hS with q | q | q
    · exact hab S hS hSC q ⟨h1, h2⟩
    · exact h3 (hc S hS hSC q)
    · exact q a h1 aC
theorem parts_sym (S : List Int) (i j : Nat) : parts S i j = parts S j i := parts_symm S i j
theorem sumS_sym (sw : List (List Int × Int)) (i j : Nat) : sumS sw i j = sumS sw j i := by
  induction sw with
  | nil => rfl
  | cons u sw ih => rw [sumS_cons, sumS_cons, ih, parts_sym]
theorem sumS_self (sw : List (List Int × Int)) (i : Nat) : sumS sw i i = 0 := by
  induction sw with
  | nil => rfl
  | cons u sw ih =>
    rw [sumS_cons, ih]
    unfold ind parts
    simp
/-- the least over fours of a cut in such a table -/
theorem bp_sum {n : Nat} {F : List (List Int)} (h : Clu n F) {sw : List (List Int × Int)} (hF : ∀ u ∈ sw, u.1 ∈ F) (h0 : ∀ u ∈ sw, 0 ≤ u.2) (n1 : 1 ≤ n) {C : List Int} (v : Vld (n - 1) C) {t : Int} (ht : Lst (BP (sumS sw) (n - 1) C) t) : t ≤ 2 * wtS sw C ∧ (C ∈ F → t = 2 * wtS sw C) := by
  have hin : ∀ x ∈ C, 0 < x ∧ x < (n : Int) := fun x hx => by have := v.inn x hx; omega
  have hi : t ≤ 2 * wtS sw C := by
    obtain ⟨a, aC, b, bC, c, hc, cC, k⟩ := four_of h v.ne v.so hin
    refine Int.le_trans (ht.2 _ ⟨a, aC, b, bC, c, mem_outs.mpr ⟨by omega, cC⟩, 0, zero_out v.inn, rfl⟩) (qT_hi h0 fun u hu => ?_)
    have ha := hin a aC
    have hb := hin b bC
    by_cases e : u.1 = C
    · rw [if_pos e]
      exact (kap_hi (by omega) (by omega) hc.1 (Int.le_refl 0)).1
    · rw [if_neg e]
      exact k _ (hF u hu) e
  refine ⟨hi, fun hC => ?_⟩
  obtain ⟨a, aC, b, bC, c, hc, e, he, rfl⟩ := ht.1
  obtain ⟨hc, cC⟩ := mem_outs.mp hc
  obtain ⟨he, eC⟩ := mem_outs.mp he
  have ha := hin a aC
  have hb := hin b bC
  have := qT_lo (C := C) (a := a) (b := b) (c := c) (e := e) h0 fun u hu => by
    by_cases q : u.1 = C
    · rw [if_pos q, q, kap_own (by omega) (by omega) hc.1 he.1 aC bC cC eC]; exact Int.le_refl _
    · rw [if_neg q]
      exact kap_lo (by omega) (by omega) hc.1 he.1 aC bC cC eC (h.lam _ (hF u hu) C hC)
  omega
theorem wtS_pos {sw : List (List Int × Int)} {C : List Int} (h : 0 < wtS sw C) : ∃ u ∈ sw, u.1 = C := by
  induction sw with
  | nil => simp [wtS] at h
  | cons u sw ih =>
    rw [wtS_cons] at h
    by_cases e : u.1 = C
    · exact ⟨u, List.mem_cons_self, e⟩
    · rw [if_neg e] at h
      obtain ⟨w, hw, e⟩ := ih (by omega)
      exact ⟨w, .tail _ hw, e⟩
/-- the sides of such a table are its own, each with twice its weight -/
theorem ts_sum {n : Nat} {F : List (List Int)} (h : Clu n F) {sw : List (List Int × Int)} (hF : ∀ u ∈ sw, u.1 ∈ F) (h0 : ∀ u ∈ sw, 0 ≤ u.2) (n1 : 1 ≤ n) (C : List Int) (t : Int) : (C, t) ∈ tsN (sumS sw) (n - 1) ↔ 0 < wtS sw C ∧ t = 2 * wtS sw C := by
  rw [ts_iff (sumS_sym sw)]
  constructor
  · rintro ⟨v, lt, t0⟩
    obtain ⟨h1, h2⟩ := bp_sum h hF h0 n1 v lt
    have hw : 0 < wtS sw C := by omega
    obtain ⟨u, hu, rfl⟩ := wtS_pos hw
    exact ⟨hw, h2 (hF u hu)⟩
  · rintro ⟨hw, rfl⟩
    obtain ⟨u, hu, e⟩ := wtS_pos hw
    have hC : C ∈ F := e ▸ hF u hu
    obtain ⟨h1, h2, h3⟩ := h.ok C hC
    have v : Vld (n - 1) C := ⟨h1, h2, fun x hx => by have := h3 x hx; omega⟩
    obtain ⟨s, hs⟩ := bp_ex (z := sumS sw) v
    have := (bp_sum h hF h0 n1 v hs).2 hC
    subst this
    exact ⟨v, hs, by omega⟩
/-! ### such tables are long, and of four points no sum is alone the greatest -/
theorem sum_tri (sw : List (List Int × Int)) (h0 : ∀ u ∈ sw, 0 ≤ u.2) (i j k : Nat) : sumS sw i k ≤ sumS sw i j + sumS sw j k := by
  induction sw with
  | nil => simp [sumS_nil]
  | cons u sw ih =>
    rw [sumS_cons, sumS_cons, sumS_cons]
    have i1 := ih fun u hu => h0 u (.tail _ hu)
    have i2 := h0 u List.mem_cons_self
    have i3 : ind (parts u.1 i k) ≤ ind (parts u.1 i j) + ind (parts u.1 j k) := by
      unfold ind parts
      by_cases h1 : (i : Int) ∈ u.1 <;> by_cases h2 : (j : Int) ∈ u.1 <;> by_cases h3 : (k : Int) ∈ u.1 <;> simp [h1, h2, h3]
    have i4 := Int.mul_le_mul_of_nonneg_right i3 i2
    rw [Int.add_mul] at i4
    omega
theorem sum_nn (sw : List (List Int × Int)) (h0 : ∀ u ∈ sw, 0 ≤ u.2) (i j : Nat) : 0 ≤ sumS sw i j := by
  induction sw with
  | nil => simp [sumS_nil]
  | cons u sw ih =>
    rw [sumS_cons]
    have i1 := ih fun u hu => h0 u (.tail _ hu)
    have i2 := h0 u List.mem_cons_self
    have i3 : 0 ≤ ind (parts u.1 i j) := by unfold ind; split <;> decide
    have := Int.mul_nonneg i3 i2
    omega
theorem sum_long {sw : List (List Int × Int)} (h0 : ∀ u ∈ sw, 0 ≤ u.2) {n : Nat} {b : Int} (hb : 0 < b) : firstS n (shortB fun i j => Rat.divInt (sumS sw i j) b) = none := by
  unfold firstS
  refine fs_none.mpr fun i hi => fs_none.mpr fun j hj => fs_none.mpr fun k hk => ?_
  have e : shortB (fun i j => Rat.divInt (sumS sw i j) b) i j k = false := by
    unfold shortB
    have : ¬ (Rat.divInt (sumS sw i j) b + Rat.divInt (sumS sw j k) b < Rat.divInt (sumS sw i k) b) := by
      rw [divInt_add_same hb]
      exact Rat.not_lt.mpr ((divInt_le_same hb).mpr (sum_tri sw h0 i j k))
    rw [decide_eq_false this, Bool.and_false]
  rw [e]; rfl
theorem qT_pos {sw : List (List Int × Int)} (h0 : ∀ u ∈ sw, 0 ≤ u.2) {a b c e : Int} (h : 0 < qT (sumS sw) a b c e) : ∃ u ∈ sw, 0 < kap u.1 a b c e := by
  induction sw with
  | nil => simp [qT, rz, sumS_nil] at h
  | cons u sw ih =>
    rw [qT_cons] at h
    by_cases c1 : 0 < kap u.1 a b c e
    · exact ⟨u, List.mem_cons_self, c1⟩
    · have := Int.mul_le_mul_of_nonneg_right (show kap u.1 a b c e ≤ 0 by omega) (h0 u List.mem_cons_self)
      obtain ⟨w, hw, h⟩ := ih (fun u hu => h0 u (.tail _ hu)) (by omega)
      exact ⟨w, .tail _ hw, h⟩
theorem cross_no {A B : List Int} {a b c d : Int} (e1 : (a ∈ A ↔ b ∈ A) ∧ (c ∈ A ↔ d ∈ A) ∧ ¬ (a ∈ A ↔ c ∈ A)) (e2 : (a ∈ B ↔ c ∈ B) ∧ (b ∈ B ↔ d ∈ B) ∧ ¬ (a ∈ B ↔ b ∈ B)) (l : (∀ x ∈ A, x ∈ B) ∨ (∀ x ∈ B, x ∈ A) ∨ ∀ x ∈ A, x ∉ B) : False := by
  by_cases p1 : a ∈ A <;> by_cases p2 : a ∈ B
  · -- u: a, b; w: a, c
    have q1 : b ∈ A := e1.1.mp p1
    have q2 : c ∉ A := fun z => e1.2.2 ⟨fun _ => z, fun _ => p1⟩
    have q3 : c ∈ B := e2.1.mp p2
    have q4 : b ∉ B := fun z => e2.2.2 ⟨fun _ => z, fun _ => p2⟩
    rcases l with l | l | l
    · exact q4 (l b q1)
    · exact q2 (l c q3)
    · exact l a p1 p2
  · -- u: a, b; w: b, d
    have q1 : b ∈ A := e1.1.mp p1
    have q2 : b ∈ B := Classical.byContradiction fun z => e2.2.2 ⟨fun y => (p2 y).elim, fun y => (z y).elim⟩
    have q3 : d ∈ B := e2.2.1.mp q2
    have q4 : d ∉ A := fun z => e1.2.2 ⟨fun _ => e1.2.1.mpr z, fun _ => p1⟩
    rcases l with l | l | l
    · exact p2 (l a p1)
    · exact q4 (l d q3)
    · exact l b q1 q2
  · -- u: c, d; w: a, c
    have q1 : c ∈ A := Classical.byContradiction fun z => e1.2.2 ⟨fun y => (p1 y).elim, fun y => (z y).elim⟩
    have q2 : d ∈ A := e1.2.1.mp q1
    have q3 : c ∈ B := e2.1.mp p2
    have q4 : d ∉ B := fun z => e2.2.2 ⟨fun _ => e2.2.1.mpr z, fun _ => p2⟩
    rcases l with l | l | l
    · exact q4 (l d q2)
    · exact p1 (l a p2)
    · exact l c q1 q3
  · -- u: c, d; w: b, d
    have q1 : c ∈ A := Classical.byContradiction fun z => e1.2.2 ⟨fun y => (p1 y).elim, fun y => (z y).elim⟩
    have q2 : d ∈ A := e1.2.1.mp q1
    have q3 : b ∈ B := Classical.byContradiction fun z => e2.2.2 ⟨fun y => (p2 y).elim, fun y => (z y).elim⟩
    have q4 : d ∈ B := e2.2.1.mp q3
    have q5 : c ∉ B := fun z => p2 (e2.1.mpr z)
    have q6 : b ∉ A := fun z => p1 (e1.1.mpr z)
    rcases l with l | l | l
    · exact q5 (l c q1)
    · exact q6 (l b q3)
    · exact l d q2 q4
/-- no side of one pair and its other pair stands beside a side of another -/
theorem no_odd {n : Nat} {F : List (List Int)} (h : Clu n F) {sw : List (List Int × Int)} (hF : ∀ u ∈ sw, u.1 ∈ F) (h0 : ∀ u ∈ sw, 0 ≤ u.2) {a b c d : Int} (ha : 0 ≤ a) (hb : 0 ≤ b) (hc : 0 ≤ c) (hd : 0 ≤ d) (h1 : 0 < qT (sumS sw) a b c d) (h2 : 0 < qT (sumS sw) a d c b) : False := by
  obtain ⟨u, hu, k1⟩ := qT_pos h0 h1
  obtain ⟨w, hw, k2⟩ := qT_pos h0 h2
  have e1 : (a ∈ u.1 ↔ b ∈ u.1) ∧ (c ∈ u.1 ↔ d ∈ u.1) ∧ ¬ (a ∈ u.1 ↔ c ∈ u.1) := Classical.byContradiction fun z => by have := (kap_hi ha hb hc hd).2 z; omega
  have e2 : (a ∈ w.1 ↔ d ∈ w.1) ∧ (c ∈ w.1 ↔ b ∈ w.1) ∧ ¬ (a ∈ w.1 ↔ c ∈ w.1) := Classical.byContradiction fun z => by have := (kap_hi ha hd hc hb).2 z; omega
  exact cross_no (c := d) (d := c) ⟨e1.1, e1.2.1.symm, fun z => e1.2.2 (z.trans e1.2.1.symm)⟩ ⟨e2.1, e2.2.1.symm, fun z => e2.2.2 (z.trans e2.2.1.symm)⟩ (h.lam _ (hF u hu) _ (hF w hw))
theorem sum_four {n : Nat} {F : List (List Int)} (h : Clu n F) {sw : List (List Int × Int)} (hF : ∀ u ∈ sw, u.1 ∈ F) (h0 : ∀ u ∈ sw, 0 ≤ u.2) (m : Nat) : oddF m (sumS sw) = none := by
  refine oddF_none.mpr fun i j k l h1 h2 h3 h4 => ?_
  unfold oddB
  refine decide_eq_false fun hh => ?_
  have s := sumS_sym sw
  have q : ∀ x y u v : Nat, qT (sumS sw) x y u v = sumS sw x u + sumS sw y v - sumS sw x y - sumS sw u v := fun x y u v => rfl
  have n0 : ∀ x : Nat, (0 : Int) ≤ x := fun x => by omega
  rcases hh with ⟨g1, g2⟩ | ⟨g1, g2⟩ | ⟨g1, g2⟩
  · exact no_odd (a := (i : Nat)) (b := (k : Nat)) (c := (j : Nat)) (d := (l : Nat)) h hF h0 (n0 _) (n0 _) (n0 _) (n0 _) (by rw [q]; omega) (by rw [q, s l k]; omega)
  · exact no_odd (a := (i : Nat)) (b := (j : Nat)) (c := (k : Nat)) (d := (l : Nat)) h hF h0 (n0 _) (n0 _) (n0 _) (n0 _) (by rw [q]; omega) (by rw [q, s l j, s k j]; omega)
  · exact no_odd (a := (i : Nat)) (b := (j : Nat)) (c := (l : Nat)) (d := (k : Nat)) h hF h0 (n0 _) (n0 _) (n0 _) (n0 _) (by rw [q, s l k]; omega) (by rw [q, s k j, s l j]; omega)
/-! ### the weighted cuts told -/
/-! ### sums of a ring's cuts -/
theorem ring_fst : ∀ {a b : List (List Int × Rat)}, a.Perm b → a.Pairwise (fun x y => x.1 ≤ y.1) → b.Pairwise (fun x y => x.1 < y.1) → a = b
  | [], b, h, _, _ => (List.nil_perm.mp h).symm
  | x :: a, [], h, _, _ => by have := h.length_eq; simp at this
  | x :: a, y :: b, h, ha, hb => by
    rw [List.pairwise_cons] at ha hb
    have e : x = y := by
      rcases List.mem_cons.mp (h.mem_iff.mp List.mem_cons_self) with e | h1
      · exact e
      · rcases List.mem_cons.mp (h.mem_iff.mpr List.mem_cons_self) with e | h2
        · exact e.symm
        · exact absurd (hb.1 x h1) (List.not_lt.mpr (ha.1 y h2))
    subst e
    rw [ring_fst h.cons_inv ha.2 hb.2]
/-- the weighted sides -/
def wSides (S : List (List Int)) (ws : List Int) (b : Int) : List (List Int × Rat) := ((S.zip ws).filter fun u => decide (u.2 > 0)).map fun u => (u.1, Rat.divInt u.2 b)
/-! a ring of cuts above nought is the one good ring -/
/-! ### the one good ring -/
section
variable {P : Program} {w : World} {K : PySem.W.Frag} {mg : Str → Option Value} {base : Heap}
def pWeighted : Pre := fun ds Q => ∃ (S : List (List Int)) (ws : List Int) (b : Int), ds = [LD S, IL ws, .int b] ∧ S.length ≤ 1000 ∧ 0 < b ∧ IB 8500 b ∧ ∀ us : List (List Int × Rat), us.Perm (wSides S ws b) → us.Pairwise (fun a b => a.1 ≤ b.1) → Q (.li .lf) (WD us)
theorem ok_l_weighted {f : Addr} {fd : FuncData} (F : Fun K "_law_weighted" "_law_weighted" s_l_weighted f fd) (T : Tx K mg) (c_l_low : Cal P w K mg base 1 "_law_low" (spV K pLow) []) : FnOk P w K mg base CX0 2 f fd P_l_weighted (spV K pWeighted) := by
  refine okV F sc_l_weighted (fun ds Q h => ?_) fun cdv A outer s H E hr => ⟨_, (pss_one (ps_ret (pe_callB (k_sortedD (K := K) hr.units) (by rfl) T.sorted_ (by decide +kernel) (pa_cons (pe_lc (own := [("side", 3), ("weight", 4)]) rfl sc_l_weighted.nd (k_zip (K := K) (by rfl) T.zip_ (pa_cons (pv 0) (pa_cons (pv 1) pa_nil))) (blkOk_by (own := [("side", 3), ("weight", 4)]) (N := N_l_weighted) (sc := defScope s_l_weighted) (by decide +kernel)) (fun _ _ _ _ _ => (k_tup (K := K) (n := 2) rfl (pgs_cons (pg_name (i := 3) sc_l_weighted.nd rfl (Or.inl rfl)) (pgs_cons (pg_name (i := 4) sc_l_weighted.nd rfl (Or.inl rfl)) pgs_nil)))) (fun _ _ _ _ _ => (pts_one (pt_cmpR op_gt (pv 4) pe_int (nomark _)))) (fun _ _ _ _ _ => (pe_tup (pa_cons (pe_callTy (k_list (K := K)) (by rfl) T.list_ (by decide +kernel) (pa_cons (pv 3) pa_nil)) (pa_cons (pe_c c_l_low hr (by decide) rfl (pa_cons (pv 4) (pa_cons (pv 2) pa_nil))) pa_nil))))) pa_nil)))), fun ds Q h => ?_⟩
  · obtain ⟨_, _, _, rfl, _⟩ := h
    rfl
  · obtain ⟨S, ws, b, rfl, hS, b0, bb, q⟩ := h
    walk_at "goK"
    rw [zw_map]
    have lz : (S.zip ws).length ≤ 1000 := by rw [List.length_zip]; omega
    have hf : wSides S ws b = ((S.zip ws).filter fun u => decide (u.2 > 0)).map fun u => (u.1, Rat.divInt u.2 b) := rfl
    generalize S.zip ws = sw at lz hf
    refine LcB_mf .lf (fun u : List Int × Int => decide (u.2 > 0)) (fun u : List Int × Int => CD (u.1, Rat.divInt u.2 b)) (by omega) (fun u hu => ?_) ?_
    · refine GC_tupB rfl ?_
      walk_at "goW"
      refine GC_name (by decide) ?_
      walk_at "goW"
      refine GC_name (by decide) ?_
      walk_at "goW"
      refine ⟨rfl, ?_⟩
      split
      · walk_at "goW"
        refine ⟨_, b, rfl, b0, bb, ?_⟩
        walk_at "goZ"
        exact ⟨.inl rfl, rfl, rfl⟩
      · rfl
    rw [show (sw.filter fun u : List Int × Int => decide (u.2 > 0)).map (fun u : List Int × Int => CD (u.1, Rat.divInt u.2 b)) = (wSides S ws b).map CD by rw [hf, List.map_map]; rfl]
    walk_at "goW"
    refine CW_sortD (wd_alike _) (wd_sortable _) (fun d hd => by obtain ⟨u, _, rfl⟩ := List.mem_map.mp hd; exact Nat.le_trans Sh.cd.2 (by decide)) fun ds' hp hs => ?_
    obtain ⟨us, rfl, hp'⟩ := map_perm_inv CD hp
    walk_at "goW"
    refine q us hp' ?_
    rw [List.pairwise_map] at hs
    exact hs.imp fun h => dl_cd h
end
/-! ### a tree's rings -/
theorem wt_pick : ∀ {sw : List (List Int × Int)}, (sw.map Prod.fst).Nodup → ∀ {u : List Int × Int}, u ∈ sw → wtS sw u.1 = u.2
  | [], _, _, h => by cases h
  | v :: sw, nd, u, hu => by
    rw [List.map_cons, List.nodup_cons] at nd
    rw [wtS_cons]
    have z : ∀ C, C ∉ sw.map Prod.fst → wtS sw C = 0 := fun C hC => by
      unfold wtS
      rw [List.filter_eq_nil_iff.mpr fun w hw => by rw [decide_eq_true_eq]; exact fun e => hC (List.mem_map.mpr ⟨w, hw, e⟩)]; rfl
    rcases List.mem_cons.mp hu with e | h
    · subst e; rw [if_pos rfl, z _ nd.1]; omega
    · rw [if_neg (fun e => nd.1 (by rw [e]; exact List.mem_map.mpr ⟨u, h, rfl⟩)), wt_pick nd.2 h]; omega
theorem tree_cuts {n : Nat} {F : List (List Int)} (hF : Clu n F) {sw : List (List Int × Int)} (nd : (sw.map Prod.fst).Nodup) (hS : ∀ u ∈ sw, u.1 ∈ F) (h0 : ∀ u ∈ sw, 0 ≤ u.2) (n1 : 1 ≤ n) {b : Int} (x : List Int × Rat) : (x ∈ (tsN (sumS sw) (n - 1)).map fun u => (u.1, Rat.divInt u.2 (2 * b))) ↔ x ∈ (sw.filter fun u => decide (u.2 > 0)).map fun u => (u.1, Rat.divInt u.2 b) := by
  have half : ∀ w : Int, Rat.divInt (2 * w) (2 * b) = Rat.divInt w b := fun w => Rat.divInt_mul_left (by decide)
  constructor
  · intro hx
    obtain ⟨v, hv, rfl⟩ := List.mem_map.mp hx
    obtain ⟨h1, h2⟩ := (ts_sum hF hS h0 n1 v.1 v.2).mp hv
    obtain ⟨u, hu, e⟩ := wtS_pos h1
    have := wt_pick nd hu
    rw [e] at this
    refine List.mem_map.mpr ⟨u, List.mem_filter.mpr ⟨hu, decide_eq_true (by omega)⟩, ?_⟩
    rw [h2, half, e, this]
  · intro hx
    obtain ⟨u, hu, rfl⟩ := List.mem_map.mp hx
    obtain ⟨h1, h2⟩ := List.mem_filter.mp hu
    have h2 := of_decide_eq_true h2
    have := wt_pick nd h1
    refine List.mem_map.mpr ⟨(u.1, 2 * u.2), (ts_sum hF hS h0 n1 _ _).mpr ⟨by rw [this]; exact h2, by rw [this]⟩, ?_⟩
    rw [half]
theorem nd_fst {α β : Type} : ∀ {l : List (α × β)}, (l.map Prod.fst).Nodup → l.Nodup
  | [], _ => List.nodup_nil
  | x :: l, h => by
    rw [List.map_cons, List.nodup_cons] at h
    exact List.nodup_cons.mpr ⟨fun h2 => h.1 (List.mem_map.mpr ⟨x, h2, rfl⟩), nd_fst h.2⟩
theorem fst_map {sp : List (List Int × Int)} {f : Int → Rat} : (sp.map fun u => (u.1, f u.2)).map Prod.fst = sp.map Prod.fst := by rw [List.map_map]; rfl
/-! a point left out -/
theorem sum_le0 {sw : List (List Int × Int)} {B : Int} (h : ∀ u ∈ sw, 0 ≤ u.2 ∧ u.2 ≤ B) (i j : Nat) : sumS sw i j ≤ sw.length * B := by
  induction sw with
  | nil => simp [sumS_nil]
  | cons u sw ih =>
    rw [sumS_cons, List.length_cons]
    have h1 := ih fun u hu => h u (.tail _ hu)
    have h2 := h u List.mem_cons_self
    have h3 : ind (parts u.1 i j) * u.2 ≤ B := by
      unfold ind
      split
      · rw [Int.one_mul]; exact h2.2
      · rw [Int.zero_mul]; omega
    have : ((sw.length + 1 : Nat) : Int) * B = sw.length * B + B := by rw [Int.natCast_add, Int.add_mul]; omega
    omega
theorem strict_fst {us : List (List Int × Rat)} (h : us.Pairwise fun a b => a.1 ≤ b.1) (nd : (us.map Prod.fst).Nodup) : us.Pairwise fun a b => a.1 < b.1 := by
  have nd2 : us.Pairwise fun a b => a.1 ≠ b.1 := List.pairwise_map.mp nd
  exact (h.and nd2).imp fun ⟨a, b⟩ => Std.lt_of_le_of_ne a b
section
variable {P : Program} {w : World} {K : PySem.W.Frag} {mg : Str → Option Value} {base : Heap}
theorem ok_law {f : Addr} {fd : FuncData} (F : Fun K "law" "law" s_law f fd) (T : Tx K mg) (c_tree_told : Cal P w K mg base 5 "tree_told" (spV K pToldO) []) (c_l_cell_at : Cal P w K mg base 1 "_law_cell_at" (spS K pCell) []) (c_l_stir : Cal P w K mg base 1 "_law_stir" (spV K pStir) []) (c_l_alike : Cal P w K mg base 8 "_law_alike" (spV K (pAlike 8)) []) (c_l_clusters : Cal P w K mg base 3 "_law_clusters" (spV K pClusters) []) (c_l_weights : Cal P w K mg base 2 "_law_weights" (spS K pWeights) []) (c_l_bottom : Cal P w K mg base 1 "_law_bottom" (spV K pBottom) []) (c_l_rows : Cal P w K mg base 1 "_law_rows" (spV K pRows) []) (c_l_table : Cal P w K mg base 2 "_law_table" (spV K pTable) []) (c_l_weighted : Cal P w K mg base 2 "_law_weighted" (spV K pWeighted) []) (c_l_size : Cal P w K mg base 1 "_law_size" (spV K pSize) []) : FnOk P w K mg base CX0 9 f fd P_law (spL K) := by
  refine okL F sc_law rfl fun cdv A outer s H E hr => ⟨_, (pss_cons (ps_set (i := 1) sc_law.nd rfl (Or.inl rfl) (pe_c c_l_size hr (by decide) rfl (pa_cons (pe_c c_l_cell_at hr (by decide) rfl (pa_cons (pv 0) (pa_cons pe_int pa_nil))) (pa_cons pe_int (pa_cons pe_int (pa_cons pe_int pa_nil))))))
  (pss_cons (ps_set (i := 2) sc_law.nd rfl (Or.inr rfl) (pe_c c_l_cell_at hr (by decide) rfl (pa_cons (pv 0) (pa_cons pe_int pa_nil))))
  (pss_cons (ps_set (i := 3) sc_law.nd rfl (Or.inl rfl) (pe_c c_l_clusters hr (by decide) rfl (pa_cons (pe_op op_fdivW (pv 2) pe_int) (pa_cons (pv 1) pa_nil))))
  (pss_cons (ps_set (i := 4) sc_law.nd rfl (Or.inr rfl) (pe_c c_l_weights hr (by decide) rfl (pa_cons (pv 0) (pa_cons pe_int (pa_cons (pe_callB (k_len (K := K)) (by rfl) T.len_ (by decide +kernel) (pa_cons (pv 3) pa_nil)) (pa_cons (pv 2) pa_nil))))))
  (pss_cons (ps_set (i := 5) sc_law.nd rfl (Or.inr rfl) (pe_c c_l_bottom hr (by decide) rfl (pa_cons (pv 2) pa_nil)))
  (C8.pss_cut (ps_if (pt_cmpR op_eq (pe_op op_mod (pe_c c_l_stir hr (by decide) rfl (pa_cons (pv 2) (pa_cons pe_int pa_nil))) pe_int) pe_int (nomark _))
  (pss_cons (ps_set (i := 5) sc_law.nd rfl (Or.inr rfl) pe_int)
  (pss_one (ps_set (i := 4) sc_law.nd rfl (Or.inr rfl) (pe_lc (own := [("k", 6)]) (g := gName 6) (tt := tYes) rfl sc_law.nd (pi_range1 (by rfl) T.range_ (pa_cons (pe_callB (k_len (K := K)) (by rfl) T.len_ (by decide +kernel) (pa_cons (pv 4) pa_nil)) pa_nil)) (blkOk_by (own := [("k", 6)]) (N := N_law) (sc := defScope s_law) (by decide +kernel)) (fun _ _ _ _ _ => (pg_name (i := 6) sc_law.nd rfl (Or.inl rfl))) (fun _ _ _ _ _ => pts_nil) (fun _ _ _ _ _ => (pe_op op_mulW (pe_ix (k_ixL (K := K)) (pv 4) (pv 6) (fun _ _ => rfl)) (pe_op op_fdivW (pv 5) (pe_op op_add pe_int (pe_op op_mod (pe_c c_l_stir hr (by decide) rfl (pa_cons (pv 2) (pa_cons (pe_op op_add pe_int (pv 6)) pa_nil))) pe_int)))))))))
  (pss_one (ps_if (pt_cmpR op_eq (pe_op op_mod (pe_c c_l_stir hr (by decide) rfl (pa_cons (pv 2) (pa_cons pe_int pa_nil))) pe_int) pe_int (nomark _))
  (pss_one (ps_set (i := 4) sc_law.nd rfl (Or.inr rfl) (pe_lc (own := [("weight", 7)]) (g := gName 7) (tt := tYes) rfl sc_law.nd (k_piL (K := K) (pv 4)) (blkOk_by (own := [("weight", 7)]) (N := N_law) (sc := defScope s_law) (by decide +kernel)) (fun _ _ _ _ _ => (pg_name (i := 7) sc_law.nd rfl (Or.inl rfl))) (fun _ _ _ _ _ => pts_nil) (fun _ _ _ _ _ => (pe_op op_mulW (pv 7) (pe_op op_pow pe_int pe_int))))))
  pss_nil)))
  (pss_cons (ps_set (i := 8) sc_law.nd rfl (Or.inl rfl) (pe_c c_l_table hr (by decide) rfl (pa_cons (pe_c c_l_rows hr (by decide) rfl (pa_cons (pv 1) (pa_cons (pv 3) (pa_cons (pv 4) pa_nil)))) (pa_cons (pv 5) pa_nil))))
  (pss_cons (ps_set (i := 9) sc_law.nd rfl (Or.inl rfl) (pe_tup (pa_cons pe_str (pa_cons (pe_c c_l_weighted hr (by decide) rfl (pa_cons (pv 3) (pa_cons (pv 4) (pa_cons (pv 5) pa_nil)))) pa_nil))))
  (pss_cons (ps_setLc (i := 10) (own := [("row", 11)]) (g := gName 11) (tt := tYes) rfl sc_law.nd rfl rfl (sw_true rfl rfl rfl (by decide +kernel)) (k_piL (K := K) (pv 8)) (blkOk_by (own := [("row", 11)]) (N := N_law) (sc := defScope s_law) (by decide +kernel)) (fun _ _ _ _ _ => (pg_name (i := 11) sc_law.nd rfl (Or.inl rfl))) (fun _ _ _ _ _ => pts_nil) (fun _ _ _ _ _ => (pe_callTy (k_list (K := K)) (by rfl) T.list_ (by decide +kernel) (pa_cons (pv 11) pa_nil))))
  (pss_cons (ps_set (i := 12) sc_law.nd rfl (Or.inl rfl) (pe_c c_tree_told hr (by decide) rfl (pa_cons (pv 10) pa_nil)))
  (pss_cons (ps_if (PW.pt (pw_or (pt_not (pt_val (pe_c c_l_alike hr (by decide) rfl (pa_cons (pv 12) (pa_cons (pv 9) pa_nil))))) (pw_or1 (pt_cmpR (k_neD (K := K) hr.units) (pv 10) (pv 8) (nomark _)))))
  (pss_one (ps_ret pe_bl))
  pss_nil)
  (pss_cons (ps_for PassesOwn.never rfl (k_piL (K := K) (pe_ix (k_ixT (K := K)) (pv 12) pe_int (fun _ _ => rfl))) (k_tup (K := K) (n := 2) rfl (pgs_cons (pg_name (i := 13) sc_law.nd rfl (Or.inl rfl)) (pgs_cons (pg_name (i := 7) sc_law.nd rfl (Or.inl rfl)) pgs_nil)))
  (pss_one (ps_expr (pe_bm PySem.F.plainAttrs_list PySem.F.slot_list_append PySem.F.type_list_append mt_append (pv 13) (pa_cons pe_int pa_nil)))))
  (pss_cons (ps_expr (pe_bm PySem.F.plainAttrs_list PySem.F.slot_list_append PySem.F.type_list_append mt_append (pe_ix (k_ixT (K := K)) (pv 12) pe_int (fun _ _ => rfl)) (pa_cons pe_int pa_nil)))
  (pss_one (ps_ret (pe_c c_l_alike hr (by decide) rfl (pa_cons (pe_c c_tree_told hr (by decide) rfl (pa_cons (pv 10) pa_nil)) (pa_cons (pv 9) pa_nil)))))))))))))))))), fun a ns hns => ?_⟩
  walk_at "goK"
  refine ⟨0, rfl, by decide, fun c0 => ?_⟩
  walk_at "goW"
  refine ⟨_, _, _, _, rfl, by decide, by decide, fun m m1 m2 => ?_⟩
  obtain ⟨n, rfl⟩ : ∃ n : Nat, m = n := ⟨m.toNat, by omega⟩
  have n1 : 1 ≤ n := by omega
  have n10 : n ≤ 10 := by omega
  walk_at "goW"
  refine ⟨1, rfl, by decide, fun cell => ?_⟩
  walk_at "goW"
  refine ⟨_, n, rfl, by omega, by omega, fun F' hF => ?_⟩
  have lF := hF.len
  walk_at "goF"
  refine ⟨_, _, _, rfl, by decide, by omega, fun ws0 lw0 hw0 => ?_⟩
  walk_at "goF"
  refine ⟨_, rfl, fun b0' b00 b01 => ?_⟩
  walk_at "goF"
  refine SW_cut (fun Γ => ∃ (s3 s4 : Own) (ws : List Int) (b : Int), Γ = [.fact (.ref a) (fun H => SqL K H a (ns.map V.int)), .v .lf (.int n), .v .lf (.int cell), .v s3 (LD F'), .v s4 (IL ws), .v .lf (.int b), .un, .un, .un, .un, .un, .un, .un, .un] ∧ ws.length = F'.length ∧ (∀ z ∈ ws, 0 ≤ z ∧ z < 10 ^ 40) ∧ 0 < b ∧ b < 2 ^ 60) ?_ ?_
  · walk_at "goF"
    refine ⟨_, _, rfl, by decide, by decide, fun y0 _ _ => ?_⟩
    walk_at "goF"
    refine ifD (fun h => ?_) (fun h => ?_)
    · walk_at "goF"
      refine LcB_map .lf (fun i acc Γ' => ∃ us : List Int, acc = us.map PyData.int ∧ us.length = i ∧ (∀ z ∈ us, 0 ≤ z ∧ z < 10 ^ 40) ∧ Γ' = [.fact (.ref a) (fun H => SqL K H a (ns.map V.int)), .v .lf (.int n), .v .lf (.int cell), .v (.li .lf) (LD F'), .v (.li .lf) (IL ws0), .v .lf (.int 2329089562800), .un, .un, .un, .un, .un, .un, .un, .un]) ⟨[], rfl, rfl, (fun z h => absurd h List.not_mem_nil), rfl⟩ ?_ ?_
      · rintro i k acc Γ' hi ⟨us, rfl, lu, hu, rfl⟩
        have hk := (List.getElem?_eq_some_iff.mp hi).1
        rw [List.length_range] at hk
        have ek : k = i := by have := (List.getElem?_eq_some_iff.mp hi).2; rw [List.getElem_range] at this; exact this.symm
        subst ek
        have hz := hw0 (ws0.getD k 0) (by rw [List.getD_eq_getElem?_getD, List.getElem?_eq_getElem (by omega)]; exact List.getElem_mem _)
        refine GC_name (by decide) ?_
        walk_at "goW"
        refine ⟨_, _, rfl, by omega, by omega, fun y y0 y1 => ?_⟩
        walk_at "goW"
        have dv : 0 ≤ (2329089562800 : Int) / (1 + y % 30) ∧ (2329089562800 : Int) / (1 + y % 30) ≤ 2329089562800 := ⟨Int.ediv_nonneg (by decide) (by omega), Int.ediv_le_self _ (by decide)⟩
        refine OW_div (wide_div (b := 60) (by omega) (by omega) (by decide) (by decide)) ?_
        generalize (2329089562800 : Int) / (1 + y % 30) = e at dv ⊢
        refine OW_mul (IB.mulW (n := 80) (m := 64) (by unfold IB; omega) (by unfold IB; omega) (by decide)) ?_
        have m0 := Int.mul_nonneg hz.1 dv.1
        have m1 := Int.mul_le_mul (show ws0.getD k 0 ≤ 10 ^ 20 by omega) dv.2 dv.1 (by decide)
        refine ⟨.inl rfl, by rw [List.length_map]; omega, us ++ [ws0.getD k 0 * e], by rw [List.map_append]; rfl, by rw [List.length_append, lu]; rfl, fun u hu2 => ?_, rfl⟩
        rcases List.mem_append.mp hu2 with h | h
        · exact hu u h
        · rw [List.mem_singleton.mp h]; exact ⟨m0, Int.lt_of_le_of_lt m1 (by decide)⟩
      · rintro acc Γ' ⟨us, rfl, lu, hu, rfl⟩
        walk_at "goW"
        refine ⟨_, _, us, 2329089562800, rfl, by rw [lu, List.length_range]; omega, hu, by decide, by decide⟩
    · walk_at "goF"
      refine ⟨_, _, rfl, by decide, by decide, fun y1 _ _ => ?_⟩
      walk_at "goF"
      refine ifD (fun h => ?_) (fun h => ?_)
      · walk_at "goF"
        refine LcB_m .lf (fun z : Int => .int (z * 10 ^ 18)) (by omega) (fun z hz => ?_) ?_
        · have hz2 := hw0 z hz
          refine GC_name (by decide) ?_
          walk_at "goW"
          refine OW_mul (IB.mulW (n := 80) (m := 64) (by unfold IB; omega) (by unfold IB; decide) (by decide)) ?_
          exact ⟨.inl rfl, rfl, rfl⟩
        rw [show ws0.map (fun z : Int => PyData.int (z * 10 ^ 18)) = (ws0.map fun z : Int => z * 10 ^ 18).map PyData.int by rw [List.map_map]; rfl]
        walk_at "goW"
        refine ⟨_, _, ws0.map fun z : Int => z * 10 ^ 18, b0', rfl, by rw [List.length_map]; exact lw0, fun z hz => ?_, b00, b01⟩
        obtain ⟨y, hy, rfl⟩ := List.mem_map.mp hz
        have := hw0 y hy
        omega
      · walk_at "goF"
        exact ⟨_, _, ws0, b0', rfl, lw0, fun z hz => by have := hw0 z hz; omega, b00, b01⟩
  rintro Γ ⟨s3, s4, ws, b, rfl, lw, hw, b0, b1⟩
  have ib : IB 60 b := by unfold IB; omega
  have bb : IB 1400 b := ib.mono (by decide)
  walk_at "goF"
  refine ⟨n, F', ws, rfl, by omega, lw.symm, ?_⟩
  have hS : ∀ u ∈ F'.zip ws, u.1 ∈ F' ∧ 0 ≤ u.2 ∧ u.2 < 10 ^ 40 := fun u hu => by
    have := List.of_mem_zip hu
    exact ⟨this.1, hw _ this.2⟩
  have lS : (F'.zip ws).length ≤ 24 := by rw [List.length_zip]; omega
  have nds : ((F'.zip ws).map Prod.fst).Nodup := by
    rw [List.map_fst_zip (by omega)]; exact hF.nd
  have ews : wSides F' ws b = ((F'.zip ws).filter fun u => decide (u.2 > 0)).map fun u => (u.1, Rat.divInt u.2 b) := rfl
  generalize F'.zip ws = sw at hS lS nds ews
  have hSF : ∀ u ∈ sw, u.1 ∈ F' := fun u hu => (hS u hu).1
  have h0 : ∀ u ∈ sw, 0 ≤ u.2 := fun u hu => (hS u hu).2.1
  have zb : ∀ i j, IB 1400 (sumS sw i j) := fun i j => by
    have h1 := sum_nn sw h0 i j
    have h2 := sum_le0 (B := 10 ^ 40) (fun u hu => ⟨(hS u hu).2.1, by have := (hS u hu).2.2; omega⟩) i j
    have : sumS sw i j < 2 ^ 200 := by omega
    have h3 : (2 : Int) ^ 200 < 2 ^ 400 := by decide +kernel
    exact IB.mono (n := 400) (by unfold IB; omega) (by decide)
  walk_at "goF"
  refine ⟨n, _, b, rfl, by omega, b0, ib.mono (by decide), ?_⟩
  refine GW_nameF ?_
  walk_at "goF"
  refine ⟨F', ws, b, rfl, by omega, b0, ib.mono (by decide), fun us0 hp0 hs0 => ?_⟩
  rw [ews] at hp0
  have ndw : ((sw.filter fun u => decide (u.2 > 0)).map fun u => (u.1, Rat.divInt u.2 b)).Nodup := nd_fst (by rw [fst_map (f := fun w => Rat.divInt w b)]; exact nds.sublist (List.filter_sublist.map _))
  have ndf : (us0.map Prod.fst).Nodup := (hp0.map Prod.fst).nodup_iff.mpr (by rw [fst_map (f := fun w => Rat.divInt w b)]; exact nds.sublist (List.filter_sublist.map _))
  have st0 := strict_fst hs0 ndf
  have lu : ∀ u ∈ us0, u.1.length < 99999 := fun u hu => by
    obtain ⟨v, hv, e⟩ := List.mem_map.mp (hp0.mem_iff.mp hu)
    have h1 := hSF v (List.mem_filter.mp hv).1
    rw [← e]
    have h2 := hF.ok v.1 h1
    have h3 := sub_len (n := n) h2.2.1 fun z hz => by have := h2.2.2 z hz; omega
    show v.1.length < 99999
    omega
  have l0 : us0.length ≤ 24 := by
    rw [hp0.length_eq, List.length_map]
    exact Nat.le_trans (List.length_filter_le _ _) lS
  have told : ∀ Q : Own → PyData → Prop, Q (.t2 .lf (.li (.t2 (.li .lf) .lf))) (.tuple [.str "tree", WD us0]) → toldTO n (sumS sw) b Q := fun Q q => by
    unfold toldTO
    rw [sum_long h0 b0]
    dsimp only
    rw [sum_four hF hSF h0 n]
    dsimp only
    intro ut hpt hst
    have ndt : ((tsN (sumS sw) (n - 1)).map fun u => (u.1, Rat.divInt u.2 (2 * b))).Nodup := nd_fst (by rw [List.map_map]; exact ts_nodup _)
    have e2 : ut = us0 := ring_fst ((hpt.trans ((List.perm_ext_iff_of_nodup ndt ndw).mpr fun x => tree_cuts hF nds hSF h0 (by omega) x)).trans hp0.symm) hst st0
    subst e2
    exact q
  have lT : (tabG n fun i j => Rat.divInt (sumS sw i j) b).length = n := by unfold tabG; rw [List.length_map, List.length_range]
  walk_at "goF"
  refine LcB_m (.li .lf) FL (by omega) (fun r hr => ?_) ?_
  · refine GC_name (by decide) ?_
    walk_at "goW"
    exact ⟨.inl rfl, rfl, rfl⟩
  refine GW_nameF ?_
  walk_at "goW"
  refine ⟨n, sumS sw, b, rfl, by omega, by omega, b0, bb, sumS_self sw, zb, told _ ?_⟩
  refine GW_name ?_
  refine SW_seq (SW_ifNo ?_ ?_)
  · walk_at "goW"
    refine al_tree (by omega) (fun u hu => by have := lu u hu; omega) ?_
    walk_at "goW"
    rw [decide_eq_true rfl]
    rfl
  refine SW_seq (SW_forApp (n := 12) (p := 13) (q := 7) rfl (by decide) (by decide) (by decide) (show 13 < 14 by decide) (show 7 < 14 by decide) lu ?_)
  refine SW_seq (SW_drop (EW_app2 (n := 12) rfl ?_ ?_))
  · rw [List.length_map, List.length_map]; omega
  refine SW_un 12 ?_
  walk_at "goF"
  refine ⟨n, sumS sw, b, rfl, by omega, by omega, b0, bb, sumS_self sw, zb, told _ ?_⟩
  walk_at "goF"
  refine al_tree (by omega) (fun u hu => by have := lu u hu; omega) ?_
  rfl
end

theorem all_mk {l : PySem.W.OpenLaw} {w : World} {K : PySem.W.Frag} {h : Heap} {mg : Str → Option Value} {fa : Addr} (X : K.In h) (G : h.Ns mainGlobals mg) (hfa : mg "law" = some (.ref fa))
    {f0 : Addr} {od0 an0 : Option Addr} {sl0 : Array (Option Value)} {oc0 kV0 dc0 pm0 cd0 ct0 : Value}
    (a0 : PySem.W.nsIn K mainGlobals "common_of" = some (some (.ref f0))) (l0 : K.lookup f0 = some ⟨oc0, od0, .func (PySem.W.fnOf "common_of" "common_of" (defArgs s_common_of) (defBody s_common_of) (defScope s_common_of) .none kV0 dc0 pm0 an0 cd0 ct0), sl0⟩) (c0 : PySem.W.codeIn K cd0 "common_of" = true) (k0 : PySem.W.keepIn K (.ref f0) = true)
    {f1 : Addr} {od1 an1 : Option Addr} {sl1 : Array (Option Value)} {oc1 kV1 dc1 pm1 cd1 ct1 : Value}
    (a1 : PySem.W.nsIn K mainGlobals "fraction" = some (some (.ref f1))) (l1 : K.lookup f1 = some ⟨oc1, od1, .func (PySem.W.fnOf "fraction" "fraction" (defArgs s_fraction) (defBody s_fraction) (defScope s_fraction) .none kV1 dc1 pm1 an1 cd1 ct1), sl1⟩) (c1 : PySem.W.codeIn K cd1 "fraction" = true) (k1 : PySem.W.keepIn K (.ref f1) = true)
    {f2 : Addr} {od2 an2 : Option Addr} {sl2 : Array (Option Value)} {oc2 kV2 dc2 pm2 cd2 ct2 : Value}
    (a2 : PySem.W.nsIn K mainGlobals "plus" = some (some (.ref f2))) (l2 : K.lookup f2 = some ⟨oc2, od2, .func (PySem.W.fnOf "plus" "plus" (defArgs s_plus) (defBody s_plus) (defScope s_plus) .none kV2 dc2 pm2 an2 cd2 ct2), sl2⟩) (c2 : PySem.W.codeIn K cd2 "plus" = true) (k2 : PySem.W.keepIn K (.ref f2) = true)
    {f3 : Addr} {od3 an3 : Option Addr} {sl3 : Array (Option Value)} {oc3 kV3 dc3 pm3 cd3 ct3 : Value}
    (a3 : PySem.W.nsIn K mainGlobals "is_below" = some (some (.ref f3))) (l3 : K.lookup f3 = some ⟨oc3, od3, .func (PySem.W.fnOf "is_below" "is_below" (defArgs s_is_below) (defBody s_is_below) (defScope s_is_below) .none kV3 dc3 pm3 an3 cd3 ct3), sl3⟩) (c3 : PySem.W.codeIn K cd3 "is_below" = true) (k3 : PySem.W.keepIn K (.ref f3) = true)
    {f4 : Addr} {od4 an4 : Option Addr} {sl4 : Array (Option Value)} {oc4 kV4 dc4 pm4 cd4 ct4 : Value}
    (a4 : PySem.W.nsIn K mainGlobals "first_short" = some (some (.ref f4))) (l4 : K.lookup f4 = some ⟨oc4, od4, .func (PySem.W.fnOf "first_short" "first_short" (defArgs s_first_short) (defBody s_first_short) (defScope s_first_short) .none kV4 dc4 pm4 an4 cd4 ct4), sl4⟩) (c4 : PySem.W.codeIn K cd4 "first_short" = true) (k4 : PySem.W.keepIn K (.ref f4) = true)
    {f5 : Addr} {od5 an5 : Option Addr} {sl5 : Array (Option Value)} {oc5 kV5 dc5 pm5 cd5 ct5 : Value}
    (a5 : PySem.W.nsIn K mainGlobals "whole_rows" = some (some (.ref f5))) (l5 : K.lookup f5 = some ⟨oc5, od5, .func (PySem.W.fnOf "whole_rows" "whole_rows" (defArgs s_whole_rows) (defBody s_whole_rows) (defScope s_whole_rows) .none kV5 dc5 pm5 an5 cd5 ct5), sl5⟩) (c5 : PySem.W.codeIn K cd5 "whole_rows" = true) (k5 : PySem.W.keepIn K (.ref f5) = true)
    {f6 : Addr} {od6 an6 : Option Addr} {sl6 : Array (Option Value)} {oc6 kV6 dc6 pm6 cd6 ct6 : Value}
    (a6 : PySem.W.nsIn K mainGlobals "three_sums" = some (some (.ref f6))) (l6 : K.lookup f6 = some ⟨oc6, od6, .func (PySem.W.fnOf "three_sums" "three_sums" (defArgs s_three_sums) (defBody s_three_sums) (defScope s_three_sums) .none kV6 dc6 pm6 an6 cd6 ct6), sl6⟩) (c6 : PySem.W.codeIn K cd6 "three_sums" = true) (k6 : PySem.W.keepIn K (.ref f6) = true)
    {f7 : Addr} {od7 an7 : Option Addr} {sl7 : Array (Option Value)} {oc7 kV7 dc7 pm7 cd7 ct7 : Value}
    (a7 : PySem.W.nsIn K mainGlobals "first_odd_four" = some (some (.ref f7))) (l7 : K.lookup f7 = some ⟨oc7, od7, .func (PySem.W.fnOf "first_odd_four" "first_odd_four" (defArgs s_first_odd_four) (defBody s_first_odd_four) (defScope s_first_odd_four) .none kV7 dc7 pm7 an7 cd7 ct7), sl7⟩) (c7 : PySem.W.codeIn K cd7 "first_odd_four" = true) (k7 : PySem.W.keepIn K (.ref f7) = true)
    {f8 : Addr} {od8 an8 : Option Addr} {sl8 : Array (Option Value)} {oc8 kV8 dc8 pm8 cd8 ct8 : Value}
    (a8 : PySem.W.nsIn K mainGlobals "least_between" = some (some (.ref f8))) (l8 : K.lookup f8 = some ⟨oc8, od8, .func (PySem.W.fnOf "least_between" "least_between" (defArgs s_least_between) (defBody s_least_between) (defScope s_least_between) .none kV8 dc8 pm8 an8 cd8 ct8), sl8⟩) (c8 : PySem.W.codeIn K cd8 "least_between" = true) (k8 : PySem.W.keepIn K (.ref f8) = true)
    {f9 : Addr} {od9 an9 : Option Addr} {sl9 : Array (Option Value)} {oc9 kV9 dc9 pm9 cd9 ct9 : Value}
    (a9 : PySem.W.nsIn K mainGlobals "parts_with" = some (some (.ref f9))) (l9 : K.lookup f9 = some ⟨oc9, od9, .func (PySem.W.fnOf "parts_with" "parts_with" (defArgs s_parts_with) (defBody s_parts_with) (defScope s_parts_with) .none kV9 dc9 pm9 an9 cd9 ct9), sl9⟩) (c9 : PySem.W.codeIn K cd9 "parts_with" = true) (k9 : PySem.W.keepIn K (.ref f9) = true)
    {f10 : Addr} {od10 an10 : Option Addr} {sl10 : Array (Option Value)} {oc10 kV10 dc10 pm10 cd10 ct10 : Value}
    (a10 : PySem.W.nsIn K mainGlobals "tree_sides" = some (some (.ref f10))) (l10 : K.lookup f10 = some ⟨oc10, od10, .func (PySem.W.fnOf "tree_sides" "tree_sides" (defArgs s_tree_sides) (defBody s_tree_sides) (defScope s_tree_sides) .none kV10 dc10 pm10 an10 cd10 ct10), sl10⟩) (c10 : PySem.W.codeIn K cd10 "tree_sides" = true) (k10 : PySem.W.keepIn K (.ref f10) = true)
    {f11 : Addr} {od11 an11 : Option Addr} {sl11 : Array (Option Value)} {oc11 kV11 dc11 pm11 cd11 ct11 : Value}
    (a11 : PySem.W.nsIn K mainGlobals "tree_told" = some (some (.ref f11))) (l11 : K.lookup f11 = some ⟨oc11, od11, .func (PySem.W.fnOf "tree_told" "tree_told" (defArgs s_tree_told) (defBody s_tree_told) (defScope s_tree_told) .none kV11 dc11 pm11 an11 cd11 ct11), sl11⟩) (c11 : PySem.W.codeIn K cd11 "tree_told" = true) (k11 : PySem.W.keepIn K (.ref f11) = true)
    {f12 : Addr} {od12 an12 : Option Addr} {sl12 : Array (Option Value)} {oc12 kV12 dc12 pm12 cd12 ct12 : Value}
    (a12 : PySem.W.nsIn K mainGlobals "_law_cell_at" = some (some (.ref f12))) (l12 : K.lookup f12 = some ⟨oc12, od12, .func (PySem.W.fnOf "_law_cell_at" "_law_cell_at" (defArgs s_l_cell_at) (defBody s_l_cell_at) (defScope s_l_cell_at) .none kV12 dc12 pm12 an12 cd12 ct12), sl12⟩) (c12 : PySem.W.codeIn K cd12 "_law_cell_at" = true) (k12 : PySem.W.keepIn K (.ref f12) = true)
    {f13 : Addr} {od13 an13 : Option Addr} {sl13 : Array (Option Value)} {oc13 kV13 dc13 pm13 cd13 ct13 : Value}
    (a13 : PySem.W.nsIn K mainGlobals "_law_stir" = some (some (.ref f13))) (l13 : K.lookup f13 = some ⟨oc13, od13, .func (PySem.W.fnOf "_law_stir" "_law_stir" (defArgs s_l_stir) (defBody s_l_stir) (defScope s_l_stir) .none kV13 dc13 pm13 an13 cd13 ct13), sl13⟩) (c13 : PySem.W.codeIn K cd13 "_law_stir" = true) (k13 : PySem.W.keepIn K (.ref f13) = true)
    {f14 : Addr} {od14 an14 : Option Addr} {sl14 : Array (Option Value)} {oc14 kV14 dc14 pm14 cd14 ct14 : Value}
    (a14 : PySem.W.nsIn K mainGlobals "_law_numbers" = some (some (.ref f14))) (l14 : K.lookup f14 = some ⟨oc14, od14, .func (PySem.W.fnOf "_law_numbers" "_law_numbers" (defArgs s_l_numbers) (defBody s_l_numbers) (defScope s_l_numbers) .none kV14 dc14 pm14 an14 cd14 ct14), sl14⟩) (c14 : PySem.W.codeIn K cd14 "_law_numbers" = true) (k14 : PySem.W.keepIn K (.ref f14) = true)
    {f15 : Addr} {od15 an15 : Option Addr} {sl15 : Array (Option Value)} {oc15 kV15 dc15 pm15 cd15 ct15 : Value}
    (a15 : PySem.W.nsIn K mainGlobals "_law_low" = some (some (.ref f15))) (l15 : K.lookup f15 = some ⟨oc15, od15, .func (PySem.W.fnOf "_law_low" "_law_low" (defArgs s_l_low) (defBody s_l_low) (defScope s_l_low) .none kV15 dc15 pm15 an15 cd15 ct15), sl15⟩) (c15 : PySem.W.codeIn K cd15 "_law_low" = true) (k15 : PySem.W.keepIn K (.ref f15) = true)
    {f16 : Addr} {od16 an16 : Option Addr} {sl16 : Array (Option Value)} {oc16 kV16 dc16 pm16 cd16 ct16 : Value}
    (a16 : PySem.W.nsIn K mainGlobals "_law_alike" = some (some (.ref f16))) (l16 : K.lookup f16 = some ⟨oc16, od16, .func (PySem.W.fnOf "_law_alike" "_law_alike" (defArgs s_l_alike) (defBody s_l_alike) (defScope s_l_alike) .none kV16 dc16 pm16 an16 cd16 ct16), sl16⟩) (c16 : PySem.W.codeIn K cd16 "_law_alike" = true) (k16 : PySem.W.keepIn K (.ref f16) = true)
    {f17 : Addr} {od17 an17 : Option Addr} {sl17 : Array (Option Value)} {oc17 kV17 dc17 pm17 cd17 ct17 : Value}
    (a17 : PySem.W.nsIn K mainGlobals "_law_clusters" = some (some (.ref f17))) (l17 : K.lookup f17 = some ⟨oc17, od17, .func (PySem.W.fnOf "_law_clusters" "_law_clusters" (defArgs s_l_clusters) (defBody s_l_clusters) (defScope s_l_clusters) .none kV17 dc17 pm17 an17 cd17 ct17), sl17⟩) (c17 : PySem.W.codeIn K cd17 "_law_clusters" = true) (k17 : PySem.W.keepIn K (.ref f17) = true)
    {f18 : Addr} {od18 an18 : Option Addr} {sl18 : Array (Option Value)} {oc18 kV18 dc18 pm18 cd18 ct18 : Value}
    (a18 : PySem.W.nsIn K mainGlobals "_law_weights" = some (some (.ref f18))) (l18 : K.lookup f18 = some ⟨oc18, od18, .func (PySem.W.fnOf "_law_weights" "_law_weights" (defArgs s_l_weights) (defBody s_l_weights) (defScope s_l_weights) .none kV18 dc18 pm18 an18 cd18 ct18), sl18⟩) (c18 : PySem.W.codeIn K cd18 "_law_weights" = true) (k18 : PySem.W.keepIn K (.ref f18) = true)
    {f19 : Addr} {od19 an19 : Option Addr} {sl19 : Array (Option Value)} {oc19 kV19 dc19 pm19 cd19 ct19 : Value}
    (a19 : PySem.W.nsIn K mainGlobals "_law_bottom" = some (some (.ref f19))) (l19 : K.lookup f19 = some ⟨oc19, od19, .func (PySem.W.fnOf "_law_bottom" "_law_bottom" (defArgs s_l_bottom) (defBody s_l_bottom) (defScope s_l_bottom) .none kV19 dc19 pm19 an19 cd19 ct19), sl19⟩) (c19 : PySem.W.codeIn K cd19 "_law_bottom" = true) (k19 : PySem.W.keepIn K (.ref f19) = true)
    {f20 : Addr} {od20 an20 : Option Addr} {sl20 : Array (Option Value)} {oc20 kV20 dc20 pm20 cd20 ct20 : Value}
    (a20 : PySem.W.nsIn K mainGlobals "_law_rows" = some (some (.ref f20))) (l20 : K.lookup f20 = some ⟨oc20, od20, .func (PySem.W.fnOf "_law_rows" "_law_rows" (defArgs s_l_rows) (defBody s_l_rows) (defScope s_l_rows) .none kV20 dc20 pm20 an20 cd20 ct20), sl20⟩) (c20 : PySem.W.codeIn K cd20 "_law_rows" = true) (k20 : PySem.W.keepIn K (.ref f20) = true)
    {f21 : Addr} {od21 an21 : Option Addr} {sl21 : Array (Option Value)} {oc21 kV21 dc21 pm21 cd21 ct21 : Value}
    (a21 : PySem.W.nsIn K mainGlobals "_law_table" = some (some (.ref f21))) (l21 : K.lookup f21 = some ⟨oc21, od21, .func (PySem.W.fnOf "_law_table" "_law_table" (defArgs s_l_table) (defBody s_l_table) (defScope s_l_table) .none kV21 dc21 pm21 an21 cd21 ct21), sl21⟩) (c21 : PySem.W.codeIn K cd21 "_law_table" = true) (k21 : PySem.W.keepIn K (.ref f21) = true)
    {f22 : Addr} {od22 an22 : Option Addr} {sl22 : Array (Option Value)} {oc22 kV22 dc22 pm22 cd22 ct22 : Value}
    (a22 : PySem.W.nsIn K mainGlobals "_law_weighted" = some (some (.ref f22))) (l22 : K.lookup f22 = some ⟨oc22, od22, .func (PySem.W.fnOf "_law_weighted" "_law_weighted" (defArgs s_l_weighted) (defBody s_l_weighted) (defScope s_l_weighted) .none kV22 dc22 pm22 an22 cd22 ct22), sl22⟩) (c22 : PySem.W.codeIn K cd22 "_law_weighted" = true) (k22 : PySem.W.keepIn K (.ref f22) = true)
    {f23 : Addr} {od23 an23 : Option Addr} {sl23 : Array (Option Value)} {oc23 kV23 dc23 pm23 cd23 ct23 : Value}
    (a23 : PySem.W.nsIn K mainGlobals "_law_size" = some (some (.ref f23))) (l23 : K.lookup f23 = some ⟨oc23, od23, .func (PySem.W.fnOf "_law_size" "_law_size" (defArgs s_l_size) (defBody s_l_size) (defScope s_l_size) .none kV23 dc23 pm23 an23 cd23 ct23), sl23⟩) (c23 : PySem.W.codeIn K cd23 "_law_size" = true) (k23 : PySem.W.keepIn K (.ref f23) = true)
    {f24 : Addr} {od24 an24 : Option Addr} {sl24 : Array (Option Value)} {oc24 kV24 dc24 pm24 cd24 ct24 : Value}
    (a24 : PySem.W.nsIn K mainGlobals "law" = some (some (.ref f24))) (l24 : K.lookup f24 = some ⟨oc24, od24, .func (PySem.W.fnOf "law" "law" (defArgs s_law) (defBody s_law) (defScope s_law) .none kV24 dc24 pm24 an24 cd24 ct24), sl24⟩) (c24 : PySem.W.codeIn K cd24 "law" = true) (k24 : PySem.W.keepIn K (.ref f24) = true)
    (z_abs : PySem.W.nsIn K mainGlobals "abs" = some none)
    (z_bool : PySem.W.nsIn K mainGlobals "bool" = some none)
    (z_int : PySem.W.nsIn K mainGlobals "int" = some none)
    (z_isinstance : PySem.W.nsIn K mainGlobals "isinstance" = some none)
    (z_len : PySem.W.nsIn K mainGlobals "len" = some none)
    (z_list : PySem.W.nsIn K mainGlobals "list" = some none)
    (z_min : PySem.W.nsIn K mainGlobals "min" = some none)
    (z_range : PySem.W.nsIn K mainGlobals "range" = some none)
    (z_sorted : PySem.W.nsIn K mainGlobals "sorted" = some none)
    (z_str : PySem.W.nsIn K mainGlobals "str" = some none)
    (z_tuple : PySem.W.nsIn K mainGlobals "tuple" = some none)
    (z_zip : PySem.W.nsIn K mainGlobals "zip" = some none)
    : ∃ fd : FuncData, (∀ (s : Shared) (v : Value), BindsTo s fd ⟨[v], []⟩ [("script", v)]) ∧ ∀ base : Heap, K.In base → base.Ns mainGlobals mg → FnOk l.prog w K mg base CX0 9 fa fd ["script"] (spL K) := by
  have e := hfa.symm.trans (PySem.W.mg_of X G a24)
  cases e
  have T : Tx K mg := ⟨PySem.W.mg_none_of X G z_abs, PySem.W.mg_none_of X G z_bool, PySem.W.mg_none_of X G z_int, PySem.W.mg_none_of X G z_isinstance, PySem.W.mg_none_of X G z_len, PySem.W.mg_none_of X G z_list, PySem.W.mg_none_of X G z_min, PySem.W.mg_none_of X G z_range, PySem.W.mg_none_of X G z_sorted, PySem.W.mg_none_of X G z_str, PySem.W.mg_none_of X G z_tuple, PySem.W.mg_none_of X G z_zip⟩
  have F0 := fun_mk (st := s_common_of) l0 c0 k0
  have b0 := F0.binds (ps := ["one", "other"]) fun _ _ _ _ _ _ us hl => match us, hl with | [_, _], _ => rfl
  have F1 := fun_mk (st := s_fraction) l1 c1 k1
  have b1 := F1.binds (ps := ["top", "bottom"]) fun _ _ _ _ _ _ us hl => match us, hl with | [_, _], _ => rfl
  have F2 := fun_mk (st := s_plus) l2 c2 k2
  have b2 := F2.binds (ps := ["q", "r"]) fun _ _ _ _ _ _ us hl => match us, hl with | [_, _], _ => rfl
  have F3 := fun_mk (st := s_is_below) l3 c3 k3
  have b3 := F3.binds (ps := ["q", "r"]) fun _ _ _ _ _ _ us hl => match us, hl with | [_, _], _ => rfl
  have F4 := fun_mk (st := s_first_short) l4 c4 k4
  have b4 := F4.binds (ps := ["table"]) fun _ _ _ _ _ _ us hl => match us, hl with | [_], _ => rfl
  have F5 := fun_mk (st := s_whole_rows) l5 c5 k5
  have b5 := F5.binds (ps := ["table"]) fun _ _ _ _ _ _ us hl => match us, hl with | [_], _ => rfl
  have F6 := fun_mk (st := s_three_sums) l6 c6 k6
  have b6 := F6.binds (ps := ["rows", "i", "j", "k", "l"]) fun _ _ _ _ _ _ us hl => match us, hl with | [_, _, _, _, _], _ => rfl
  have F7 := fun_mk (st := s_first_odd_four) l7 c7 k7
  have b7 := F7.binds (ps := ["rows"]) fun _ _ _ _ _ _ us hl => match us, hl with | [_], _ => rfl
  have F8 := fun_mk (st := s_least_between) l8 c8 k8
  have b8 := F8.binds (ps := ["rows", "a", "ones", "others"]) fun _ _ _ _ _ _ us hl => match us, hl with | [_, _, _, _], _ => rfl
  have F9 := fun_mk (st := s_parts_with) l9 c9 k9
  have b9 := F9.binds (ps := ["rows", "point", "side"]) fun _ _ _ _ _ _ us hl => match us, hl with | [_, _, _], _ => rfl
  have F10 := fun_mk (st := s_tree_sides) l10 c10 k10
  have b10 := F10.binds (ps := ["rows"]) fun _ _ _ _ _ _ us hl => match us, hl with | [_], _ => rfl
  have F11 := fun_mk (st := s_tree_told) l11 c11 k11
  have b11 := F11.binds (ps := ["table"]) fun _ _ _ _ _ _ us hl => match us, hl with | [_], _ => rfl
  have F12 := fun_mk (st := s_l_cell_at) l12 c12 k12
  have b12 := F12.binds (ps := ["script", "k"]) fun _ _ _ _ _ _ us hl => match us, hl with | [_, _], _ => rfl
  have F13 := fun_mk (st := s_l_stir) l13 c13 k13
  have b13 := F13.binds (ps := ["cell", "k"]) fun _ _ _ _ _ _ us hl => match us, hl with | [_, _], _ => rfl
  have F14 := fun_mk (st := s_l_numbers) l14 c14 k14
  have b14 := F14.binds (ps := ["cell", "many"]) fun _ _ _ _ _ _ us hl => match us, hl with | [_, _], _ => rfl
  have F15 := fun_mk (st := s_l_low) l15 c15 k15
  have b15 := F15.binds (ps := ["top", "bottom"]) fun _ _ _ _ _ _ us hl => match us, hl with | [_, _], _ => rfl
  have F16 := fun_mk (st := s_l_alike) l16 c16 k16
  have b16 := F16.binds (ps := ["found", "due"]) fun _ _ _ _ _ _ us hl => match us, hl with | [_, _], _ => rfl
  have F17 := fun_mk (st := s_l_clusters) l17 c17 k17
  have b17 := F17.binds (ps := ["cell", "n"]) fun _ _ _ _ _ _ us hl => match us, hl with | [_, _], _ => rfl
  have F18 := fun_mk (st := s_l_weights) l18 c18 k18
  have b18 := F18.binds (ps := ["script", "start", "many", "cell"]) fun _ _ _ _ _ _ us hl => match us, hl with | [_, _, _, _], _ => rfl
  have F19 := fun_mk (st := s_l_bottom) l19 c19 k19
  have b19 := F19.binds (ps := ["cell"]) fun _ _ _ _ _ _ us hl => match us, hl with | [_], _ => rfl
  have F20 := fun_mk (st := s_l_rows) l20 c20 k20
  have b20 := F20.binds (ps := ["n", "sides", "weights"]) fun _ _ _ _ _ _ us hl => match us, hl with | [_, _, _], _ => rfl
  have F21 := fun_mk (st := s_l_table) l21 c21 k21
  have b21 := F21.binds (ps := ["rows", "bottom"]) fun _ _ _ _ _ _ us hl => match us, hl with | [_, _], _ => rfl
  have F22 := fun_mk (st := s_l_weighted) l22 c22 k22
  have b22 := F22.binds (ps := ["sides", "weights", "bottom"]) fun _ _ _ _ _ _ us hl => match us, hl with | [_, _, _], _ => rfl
  have F23 := fun_mk (st := s_l_size) l23 c23 k23
  have b23 := F23.binds (ps := ["cell", "least", "most", "great"]) fun _ _ _ _ _ _ us hl => match us, hl with | [_, _, _, _], _ => rfl
  have F24 := fun_mk (st := s_law) l24 c24 k24
  have b24 := F24.binds (ps := ["script"]) fun _ _ _ _ _ _ us hl => match us, hl with | [_], _ => rfl
  refine ⟨PySem.W.fnOf "law" "law" (defArgs s_law) (defBody s_law) (defScope s_law) .none kV24 dc24 pm24 an24 cd24 ct24, fun s v => .of_eq rfl, fun base _ _ => ?_⟩
  have c_common_of := cal_of (ok_common_of (P := l.prog) (w := w) (base := base) F0 T ) F0 b0 (PySem.W.mg_of X G a0)
  have c_is_below := cal_of (ok_is_below (P := l.prog) (w := w) (base := base) F3 T ) F3 b3 (PySem.W.mg_of X G a3)
  have c_three_sums := cal_of (ok_three_sums (P := l.prog) (w := w) (base := base) F6 T ) F6 b6 (PySem.W.mg_of X G a6)
  have c_least_between := cal_of (ok_least_between (P := l.prog) (w := w) (base := base) F8 T ) F8 b8 (PySem.W.mg_of X G a8)
  have c_l_cell_at := cal_of (ok_l_cell_at (P := l.prog) (w := w) (base := base) F12 T ) F12 b12 (PySem.W.mg_of X G a12)
  have c_l_stir := cal_of (ok_l_stir (P := l.prog) (w := w) (base := base) F13 T ) F13 b13 (PySem.W.mg_of X G a13)
  have c_l_low := cal_of (ok_l_low (P := l.prog) (w := w) (base := base) F15 T ) F15 b15 (PySem.W.mg_of X G a15)
  have c_l_bottom := cal_of (ok_l_bottom (P := l.prog) (w := w) (base := base) F19 T ) F19 b19 (PySem.W.mg_of X G a19)
  have c_l_rows := cal_of (ok_l_rows (P := l.prog) (w := w) (base := base) F20 T ) F20 b20 (PySem.W.mg_of X G a20)
  have c_l_size := cal_of (ok_l_size (P := l.prog) (w := w) (base := base) F23 T ) F23 b23 (PySem.W.mg_of X G a23)
  have c_fraction := cal_of (ok_fraction (P := l.prog) (w := w) (base := base) F1 T c_common_of) F1 b1 (PySem.W.mg_of X G a1)
  have c_whole_rows := cal_of (ok_whole_rows (P := l.prog) (w := w) (base := base) F5 T c_common_of) F5 b5 (PySem.W.mg_of X G a5)
  have c_first_odd_four := cal_of (ok_first_odd_four (P := l.prog) (w := w) (base := base) F7 T c_three_sums) F7 b7 (PySem.W.mg_of X G a7)
  have c_parts_with := cal_of (ok_parts_with (P := l.prog) (w := w) (base := base) F9 T c_least_between) F9 b9 (PySem.W.mg_of X G a9)
  have c_l_numbers := cal_of (ok_l_numbers (P := l.prog) (w := w) (base := base) F14 T c_l_stir) F14 b14 (PySem.W.mg_of X G a14)
  have c_l_weights := cal_of (ok_l_weights (P := l.prog) (w := w) (base := base) F18 T c_l_stir) F18 b18 (PySem.W.mg_of X G a18)
  have c_l_table := cal_of (ok_l_table (P := l.prog) (w := w) (base := base) F21 T c_l_low) F21 b21 (PySem.W.mg_of X G a21)
  have c_l_weighted := cal_of (ok_l_weighted (P := l.prog) (w := w) (base := base) F22 T c_l_low) F22 b22 (PySem.W.mg_of X G a22)
  have c_plus := cal_of (ok_plus (P := l.prog) (w := w) (base := base) F2 T c_fraction) F2 b2 (PySem.W.mg_of X G a2)
  have c_tree_sides := cal_of (ok_tree_sides (P := l.prog) (w := w) (base := base) F10 T c_parts_with) F10 b10 (PySem.W.mg_of X G a10)
  have c_l_clusters := cal_of (ok_l_clusters (P := l.prog) (w := w) (base := base) F17 T c_l_numbers) F17 b17 (PySem.W.mg_of X G a17)
  have c_first_short := cal_of (ok_first_short (P := l.prog) (w := w) (base := base) F4 T c_plus c_is_below) F4 b4 (PySem.W.mg_of X G a4)
  have c_tree_told := cal_of (ok_tree_told (P := l.prog) (w := w) (base := base) F11 T c_fraction c_first_short c_whole_rows c_first_odd_four c_tree_sides) F11 b11 (PySem.W.mg_of X G a11)
  have c_l_alike := cal_of (ok_l_alike (P := l.prog) (w := w) (base := base) F16 T (PySem.W.mg_of X G a16) b16 ) F16 b16 (PySem.W.mg_of X G a16)
  exact ok_law F24 T c_tree_told c_l_cell_at c_l_stir c_l_alike c_l_clusters c_l_weights c_l_bottom c_l_rows c_l_table c_l_weighted c_l_size
end Fc
open PySem PySem.W PyProof.Rows
set_option maxRecDepth 100000 in
set_option maxHeartbeats 0 in
theorem PySem.Challenge.cw_farcuts_k20_trees_of_drawn_cuts_holds : PySem.Challenge.rw_farcuts_k20_trees_of_drawn_cuts.Holds := by
  w_on; o_law; k_head; (case hw => w_witness2)
  k_fill
  refine L2.walk_of (l := PySem.Challenge.rw_farcuts_k20_trees_of_drawn_cuts) (n := 63) (k := 9) (x := "script") (CX := fun _ => L2.CX0) (sp := fun w => Fc.spL _) rfl (by decide) rfl ⟨rfl, by decide, by decide⟩ (fun w h Y => PySem.W.kIn_of Y) ?F (fun _ _ a ns hl _ hS => ⟨a, ns, rfl, hS, hl, fun _ => rfl⟩) (fun _ _ _ _ _ h => h)
  case F =>
    intro w mg fa h KX G hmg
    refine' Fc.all_mk KX G hmg ?a0 ?l0 ?c0 ?k0 ?a1 ?l1 ?c1 ?k1 ?a2 ?l2 ?c2 ?k2 ?a3 ?l3 ?c3 ?k3 ?a4 ?l4 ?c4 ?k4 ?a5 ?l5 ?c5 ?k5 ?a6 ?l6 ?c6 ?k6 ?a7 ?l7 ?c7 ?k7 ?a8 ?l8 ?c8 ?k8 ?a9 ?l9 ?c9 ?k9 ?a10 ?l10 ?c10 ?k10 ?a11 ?l11 ?c11 ?k11 ?a12 ?l12 ?c12 ?k12 ?a13 ?l13 ?c13 ?k13 ?a14 ?l14 ?c14 ?k14 ?a15 ?l15 ?c15 ?k15 ?a16 ?l16 ?c16 ?k16 ?a17 ?l17 ?c17 ?k17 ?a18 ?l18 ?c18 ?k18 ?a19 ?l19 ?c19 ?k19 ?a20 ?l20 ?c20 ?k20 ?a21 ?l21 ?c21 ?k21 ?a22 ?l22 ?c22 ?k22 ?a23 ?l23 ?c23 ?k23 ?a24 ?l24 ?c24 ?k24 ?z_abs ?z_bool ?z_int ?z_isinstance ?z_len ?z_list ?z_min ?z_range ?z_sorted ?z_str ?z_tuple ?z_zip
    (case a0 => k_is)
    (case l0 => k_is)
    (case c0 => k_is)
    (case k0 => k_is)
    (case a1 => k_is)
    (case l1 => k_is)
    (case c1 => k_is)
    (case k1 => k_is)
    (case a2 => k_is)
    (case l2 => k_is)
    (case c2 => k_is)
    (case k2 => k_is)
    (case a3 => k_is)
    (case l3 => k_is)
    (case c3 => k_is)
    (case k3 => k_is)
    (case a4 => k_is)
    (case l4 => k_is)
    (case c4 => k_is)
    (case k4 => k_is)
    (case a5 => k_is)
    (case l5 => k_is)
    (case c5 => k_is)
    (case k5 => k_is)
    (case a6 => k_is)
    (case l6 => k_is)
    (case c6 => k_is)
    (case k6 => k_is)
    (case a7 => k_is)
    (case l7 => k_is)
    (case c7 => k_is)
    (case k7 => k_is)
    (case a8 => k_is)
    (case l8 => k_is)
    (case c8 => k_is)
    (case k8 => k_is)
    (case a9 => k_is)
    (case l9 => k_is)
    (case c9 => k_is)
    (case k9 => k_is)
    (case a10 => k_is)
    (case l10 => k_is)
    (case c10 => k_is)
    (case k10 => k_is)
    (case a11 => k_is)
    (case l11 => k_is)
    (case c11 => k_is)
    (case k11 => k_is)
    (case a12 => k_is)
    (case l12 => k_is)
    (case c12 => k_is)
    (case k12 => k_is)
    (case a13 => k_is)
    (case l13 => k_is)
    (case c13 => k_is)
    (case k13 => k_is)
    (case a14 => k_is)
    (case l14 => k_is)
    (case c14 => k_is)
    (case k14 => k_is)
    (case a15 => k_is)
    (case l15 => k_is)
    (case c15 => k_is)
    (case k15 => k_is)
    (case a16 => k_is)
    (case l16 => k_is)
    (case c16 => k_is)
    (case k16 => k_is)
    (case a17 => k_is)
    (case l17 => k_is)
    (case c17 => k_is)
    (case k17 => k_is)
    (case a18 => k_is)
    (case l18 => k_is)
    (case c18 => k_is)
    (case k18 => k_is)
    (case a19 => k_is)
    (case l19 => k_is)
    (case c19 => k_is)
    (case k19 => k_is)
    (case a20 => k_is)
    (case l20 => k_is)
    (case c20 => k_is)
    (case k20 => k_is)
    (case a21 => k_is)
    (case l21 => k_is)
    (case c21 => k_is)
    (case k21 => k_is)
    (case a22 => k_is)
    (case l22 => k_is)
    (case c22 => k_is)
    (case k22 => k_is)
    (case a23 => k_is)
    (case l23 => k_is)
    (case c23 => k_is)
    (case k23 => k_is)
    (case a24 => k_is)
    (case l24 => k_is)
    (case c24 => k_is)
    (case k24 => k_is)
    (case z_abs => k_is)
    (case z_bool => k_is)
    (case z_int => k_is)
    (case z_isinstance => k_is)
    (case z_len => k_is)
    (case z_list => k_is)
    (case z_min => k_is)
    (case z_range => k_is)
    (case z_sorted => k_is)
    (case z_str => k_is)
    (case z_tuple => k_is)
    (case z_zip => k_is)
