import PyProof.Rows.All
import Wide.All
import OpenK.AllK
import Wide.FinOn
import PyProof.EqAt
import PyProof.EqKinds
import PyProof.TupleCall
import HandS.ForMost
import HandS.ForExc
import HandS.Wide
import HandS.WideBits
import HandS.Gcd
import HandS.Defaults
import HandS.IsInst
import HandS.More
import HandS.Flow
import HandS.Codes
import HandS.WordsExc
import HandS.Head0
import HandS.Head1
import HandS.Head2
import HandS.HeadEnd
import HandS.HeadHook1
import HandS.HeadHook2
import PySem.Challenge.RW_dearestshelf_k12_dearest_order
set_option Elab.async false
set_option linter.all false
set_option maxRecDepth 100000
set_option maxHeartbeats 4000000
namespace Z
open PySem L2
/-! ### what stood stands -/
structure Ex (H H' : Hp) : Prop where
  get : ∀ {a : Addr} {o : HO}, H a = some o → H' a = some o
theorem Ex.refl (H : Hp) : Ex H H := ⟨fun h => h⟩
theorem Ex.trans {H H1 H2 : Hp} (a : Ex H H1) (b : Ex H1 H2) : Ex H H2 := ⟨fun h => b.get (a.get h)⟩
theorem Ex.trans' {H H1 H2 : Hp} (b : Ex H1 H2) (a : Ex H H1) : Ex H H2 := a.trans b
theorem Ex.new {H : Hp} {p : Addr} {o : HO} (h : H p = none) : Ex H (upd H p o) := ⟨fun e => by rw [upd_ne (ne_of_none e h)]; exact e⟩
/-- an object that H does not know may change -/
theorem Ex.mut {H H' : Hp} {p : Addr} {o : HO} (e : Ex H H') (h : H p = none) : Ex H (upd H' p o) := ⟨fun ha => by rw [upd_ne (ne_of_none ha h)]; exact e.get ha⟩
theorem Ex.rd {H H' : Hp} {a : Addr} {u : HO} (e : Ex H H') (h : Rd H a u) : Rd H' a u := by
  rcases h with h | ⟨o, h⟩
  · exact Or.inl (e.get h)
  · exact Or.inr ⟨o, e.get h⟩
theorem Ex.l {K : PySem.W.Frag} {H H' : Hp} {a : Addr} {xs : List V} (e : Ex H H') (h : SqL K H a xs) : SqL K H' a xs := by
  rcases h with h | h
  · exact Or.inl (e.rd h)
  · exact Or.inr h
theorem Ex.t {K : PySem.W.Frag} {H H' : Hp} {a : Addr} {xs : List V} (e : Ex H H') (h : SqT K H a xs) : SqT K H' a xs := by
  rcases h with h | h
  · exact Or.inl (e.rd h)
  · exact Or.inr h
theorem Ex.back {H H' : Hp} {p : Addr} (e : Ex H H') (h : H' p = none) : H p = none := by
  cases h1 : H p with
  | none => rfl
  | some o =>
    rw [e.get h1] at h
    cases h
theorem kmut {H H' H0 : Hp} {a : Addr} (n : H0 a = none) (hk : ∀ H0, Ex H0 H → H0 a = none → Ex H0 H') (e : Ex H0 H) : Ex H0 H' := hk H0 e n
theorem sq_of {K : PySem.W.Frag} {H : Hp} {a : Addr} {xs : List V} (h : H a = some (.lst xs)) : SqL K H a xs := Or.inl (Or.inl h)
theorem st_of {K : PySem.W.Frag} {H : Hp} {a : Addr} {xs : List V} (h : H a = some (.tup xs)) : SqT K H a xs := Or.inl (Or.inl h)
/-! ### the row's defs by their names -/
abbrev FnP (K : PySem.W.Frag) (x : Str) (st : Stmt) (f : Addr) (fd : FuncData) : Prop := FunD K x x (defArgs st) (defBody st) (defScope st) [] [] f fd
def noFd : FuncData := PySem.W.fnOf "" "" { posonlyargs := [], args := [], vararg := none, kwonlyargs := [], kw_defaults := [], kwarg := none, defaults := [] } [] { kind := .function, names := [], isGenerator := false, isCoroutine := false } .none .none .none .none none .none .none
def fdOf (K : PySem.W.Frag) (a : Addr) : FuncData := match K.lookup a with
  | some ⟨_, _, .func fd, _⟩ => fd
  | _ => noFd
theorem fd_of {K : PySem.W.Frag} {x qual : Str} {params : Arguments} {body : List Stmt} {scope : Scope} {dvs : List V} {kws : List (Str × V)} {f : Addr} (h : ∃ fd, FunD K x qual params body scope dvs kws f fd) : FunD K x qual params body scope dvs kws f (fdOf K f) := by
  obtain ⟨fd, F⟩ := h
  have e : fdOf K f = fd := by
    obtain ⟨_, _, _, _, _, _, _, _, _, _, _, lk, _⟩ := F.ex
    unfold fdOf
    rw [lk]
  rw [e]
  exact F
/-! ### one step of a reading -/
def nT (Q : VK) : List V → Hp → Prop := fun xs H1 => xs.length ≤ sizeLine ∧ ∀ p, H1 p = none → Q (.ref p) (upd H1 p (.tup xs))
def nL (Q : VK) : List V → Hp → Prop := fun xs H1 => xs.length ≤ sizeLine ∧ ∀ p, H1 p = none → Q (.ref p) (upd H1 p (.lst xs))
section
variable {K : PySem.W.Frag} {σ : L2.St} {H H' : Hp} {Q : VK} {v x y : V} {ta tb te tc : TE} {r : R2} {D : Ends} {t u : TS} {c c1 c2 : TT} {ts : TA}
theorem w_var {i : Nat} (h : σ[i]? = some (some v)) (q : Q v H) : tVar i σ H Q := ⟨v, h, q⟩
theorem w_c (q : Q v H) : tC v σ H Q := q
theorem w_op (h : ta σ H fun x H1 => tb σ H1 fun y H2 => r x y H2 Q) : tOp r ta tb σ H Q := h
theorem w_un {r : V → Hp → VK → Prop} (h : ta σ H fun x H1 => r x H1 Q) : tUn r ta σ H Q := h
theorem w_cb {r : List V → Hp → VK → Prop} (h : ts σ H fun vs H1 => r vs H1 Q) : tCB r ts σ H Q := h
theorem w_nil {Q : List V → Hp → Prop} (h : Q [] H) : tNil σ H Q := h
theorem w_cons {Q : List V → Hp → Prop} (h : ta σ H fun x H1 => ts σ H1 fun xs H2 => Q (x :: xs) H2) : tCons ta ts σ H Q := h
theorem w_tup (h : ts σ H (nT Q)) : tTup ts σ H Q := h
theorem w_lst (h : ts σ H (nL Q)) : tLst ts σ H Q := h
theorem w_call {sp : Sp} {dvs : List V} {E : XK} (h : ts σ H fun vs H1 => sp (vs ++ dvs) H1 Q E) : tCall sp dvs E ts σ H Q := h
theorem w_test {Q : Bool → Hp → Prop} (h : te σ H fun x H1 => ∃ k, x = .bl k ∧ Q k H1) : tTest te σ H Q := h
theorem w_B {Q : Bool → Hp → Prop} (h : te σ H fun x H1 => ∃ k, x = .bl k ∧ Q k H1) : tB te σ H Q := h
theorem w_bl {R : Bool → Prop} {k : Bool} (h : R k) : ∃ k', (V.bl k) = .bl k' ∧ R k' := ⟨k, rfl, h⟩
theorem w_and {Q : Bool → Hp → Prop} (h : c1 σ H fun b H1 => if b = true then c2 σ H1 Q else Q false H1) : tAnd c1 c2 σ H Q := h
theorem w_or {Q : Bool → Hp → Prop} (h : c1 σ H fun b H1 => if b = true then Q true H1 else c2 σ H1 Q) : tOr c1 c2 σ H Q := h
theorem w_not {Q : Bool → Hp → Prop} (h : c σ H fun b H1 => Q (!b) H1) : tNot c σ H Q := h
theorem w_andV (h : ta σ H fun x H1 => ∃ k, x = .bl k ∧ if k = true then tb σ H1 Q else Q (.bl false) H1) : tAndV ta tb σ H Q := h
theorem w_orV (h : ta σ H fun x H1 => ∃ k, x = .bl k ∧ if k = true then Q (.bl true) H1 else tb σ H1 Q) : tOrV ta tb σ H Q := h
theorem w_notV (h : ta σ H fun x H1 => ∃ k, x = .bl k ∧ Q (.bl (!k)) H1) : tNotV ta σ H Q := h
theorem w_ifE (h : c σ H fun b H1 => if b = true then ta σ H1 Q else tb σ H1 Q) : tIf c ta tb σ H Q := h
theorem w_isN (h : ta σ H fun x H1 => Q (.bl (decide (x = .non))) H1) : tIsN ta σ H Q := h
theorem w_notN (h : ta σ H fun x H1 => Q (.bl (!decide (x = .non))) H1) : tNotN ta σ H Q := h
theorem w_seq (h : t ⟨u D, D.rt, D.bk, D.ct⟩ σ H) : tSeq t u D σ H := h
theorem w_asg {g : TG} (h : te σ H fun x H1 => g x σ H1 D.nx) : tAsg te g D σ H := h
theorem w_gn {i : Nat} {R : L2.St → Hp → Prop} (h : R (σ.set i (some v)) H) : gName i v σ H R := h
theorem w_ret (h : te σ H D.rt) : tRet te D σ H := h
theorem w_retN (h : D.rt .non H) : tRetN D σ H := h
theorem w_drop (h : te σ H fun _ H1 => D.nx σ H1) : tDrop te D σ H := h
theorem w_next (h : D.nx σ H) : tNext D σ H := h
theorem w_brk (h : D.bk σ H) : tBreak D σ H := h
theorem w_cnt (h : D.ct σ H) : tCont D σ H := h
theorem w_if (h : c σ H fun b H1 => if b = true then t D σ H1 else u D σ H1) : tIfS c t u D σ H := h
theorem w_cut (Mid : L2.St → Hp → Prop) (h : t ⟨Mid, D.rt, D.bk, D.ct⟩ σ H) (k : ∀ σ' H', Mid σ' H' → u D σ' H') : C8.tCut t u D σ H := ⟨Mid, h, k⟩
theorem w_nx {f : L2.St → Hp → Prop} {g : VK} {bk ct : L2.St → Hp → Prop} (h : f σ H) : Ends.nx ⟨f, g, bk, ct⟩ σ H := h
theorem w_bk {f : L2.St → Hp → Prop} {g : VK} {bk ct : L2.St → Hp → Prop} (h : bk σ H) : Ends.bk ⟨f, g, bk, ct⟩ σ H := h
theorem w_ct {f : L2.St → Hp → Prop} {g : VK} {bk ct : L2.St → Hp → Prop} (h : ct σ H) : Ends.ct ⟨f, g, bk, ct⟩ σ H := h
theorem w_rt {f : L2.St → Hp → Prop} {g : VK} {bk ct : L2.St → Hp → Prop} (h : g v H) : Ends.rt ⟨f, g, bk, ct⟩ v H := h
theorem w_aug {i : Nat} {ti : TIp} {z : V} (h : σ[i]? = some (some z)) (q : te σ H fun y H1 => ti z y H1 fun z H2 => D.nx (σ.set i (some z)) H2) : tAug i te ti D σ H := ⟨z, h, q⟩
theorem w_ipI {f : Int → Int → Int} {i j : Int} (q : Q (.int (f i j)) H) : ipI f (.int i) (.int j) H Q := ⟨i, j, rfl, rfl, q⟩
theorem w_I0 {g : Int → Int → V} {i j : Int} (q : Q (g i j) H) : rI0 g (.int i) (.int j) H Q := ⟨i, j, rfl, rfl, q⟩
theorem w_I {C : Int → Int → Prop} {g : Int → Int → V} {i j : Int} (hc : C i j) (q : Q (g i j) H) : rI C g (.int i) (.int j) H Q := ⟨i, j, rfl, rfl, hc, q⟩
theorem w_pow {i j z : Int} (hc : CPow i j) (hz : i ^ j.toNat = z) (q : Q (.int z) H) : rI CPow (fun i j => .int (i ^ j.toNat)) (.int i) (.int j) H Q := ⟨i, j, rfl, rfl, hc, by show Q (.int (i ^ j.toNat)) H; rw [hz]; exact q⟩
theorem w_U {g : Int → V} {i : Int} (q : Q (g i) H) : rU g (.int i) H Q := ⟨i, rfl, q⟩
theorem w_eqI {i j : Int} (q : Q (.bl (decide (i = j))) H) : rEq (.int i) (.int j) H Q := ⟨rfl, by
  have e : decide (V.int i = V.int j) = decide (i = j) := by simp
  rw [e]; exact q⟩
theorem w_neI {i j : Int} (q : Q (.bl (!decide (i = j))) H) : rNe (.int i) (.int j) H Q := ⟨rfl, by
  have e : decide (V.int i = V.int j) = decide (i = j) := by simp
  rw [e]; exact q⟩
theorem w_eqS {i j : Str} (q : Q (.bl (decide (i = j))) H) : rEq (.str i) (.str j) H Q := ⟨rfl, by
  have e : decide (V.str i = V.str j) = decide (i = j) := by simp
  rw [e]; exact q⟩
theorem w_neS {i j : Str} (q : Q (.bl (!decide (i = j))) H) : rNe (.str i) (.str j) H Q := ⟨rfl, by
  have e : decide (V.str i = V.str j) = decide (i = j) := by simp
  rw [e]; exact q⟩
/-! tests -/
theorem w_dec {p : Prop} [Decidable p] {A B : Prop} (h1 : p → A) (h2 : ¬ p → B) : if decide p = true then A else B := by
  by_cases h : p
  · rw [decide_eq_true h]; exact h1 h
  · rw [decide_eq_false h]; exact h2 h
theorem w_ndec {p : Prop} [Decidable p] {A B : Prop} (h1 : ¬ p → A) (h2 : p → B) : if (!decide p) = true then A else B := by
  by_cases h : p
  · rw [decide_eq_true h]; exact h2 h
  · rw [decide_eq_false h]; exact h1 h
theorem w_decT {p : Prop} [Decidable p] {A B : Prop} (hp : p) (h : A) : if decide p = true then A else B := w_dec (fun _ => h) (fun n => absurd hp n)
theorem w_decF {p : Prop} [Decidable p] {A B : Prop} (hp : ¬ p) (h : B) : if decide p = true then A else B := w_dec (fun n => absurd n hp) (fun _ => h)
theorem w_ndecT {p : Prop} [Decidable p] {A B : Prop} (hp : ¬ p) (h : A) : if (!decide p) = true then A else B := w_ndec (fun _ => h) (fun n => absurd n hp)
theorem w_ndecF {p : Prop} [Decidable p] {A B : Prop} (hp : p) (h : B) : if (!decide p) = true then A else B := w_ndec (fun n => absurd hp n) (fun _ => h)
theorem w_bool {b : Bool} {A B : Prop} (h1 : b = true → A) (h2 : b = false → B) : if b = true then A else B := by
  cases b
  · exact h2 rfl
  · exact h1 rfl
theorem w_nbool {b : Bool} {A B : Prop} (h1 : b = false → A) (h2 : b = true → B) : if (!b) = true then A else B := by
  cases b
  · exact h1 rfl
  · exact h2 rfl
theorem w_T {A B : Prop} (h : A) : if true = true then A else B := h
theorem w_F {A B : Prop} (h : B) : if false = true then A else B := h
theorem w_nT {A B : Prop} (h : B) : if (!true) = true then A else B := h
theorem w_nF {A B : Prop} (h : A) : if (!false) = true then A else B := h

/-! new objects: the heap behind is named, what is known of it is said -/
theorem w_newT {xs : List V} (hz : xs.length ≤ sizeLine) (q : ∀ p H2, H p = none → Ex H H2 → H2 p = some (.tup xs) → Q (.ref p) H2) : nT Q xs H :=
  ⟨hz, fun p hp => q p _ hp (Ex.new hp) upd_same⟩
theorem w_newL {xs : List V} (hz : xs.length ≤ sizeLine) (q : ∀ p H2, H p = none → Ex H H2 → H2 p = some (.lst xs) → Q (.ref p) H2) : nL Q xs H :=
  ⟨hz, fun p hp => q p _ hp (Ex.new hp) upd_same⟩
end
/-! ### operators of several kinds -/
/-- a product that the model reckons -/
def CM (i j : Int) : Prop := CMul i j ∨ CMulX i j
theorem CM.of_left {i j : Int} (h : i.natAbs < 2 ^ 64) : CM i j := .inl (.inl ⟨by omega, by omega⟩)
theorem CM.of_right {i j : Int} (h : j.natAbs < 2 ^ 64) : CM i j := .inl (.inr ⟨by omega, by omega⟩)
theorem CM.of_pow {i j : Int} {a b : Nat} (ha : i.natAbs < 2 ^ a) (hb : j.natAbs < 2 ^ b) (h : a + b ≤ 134217728) : CM i j := .inr (mulx_ok ha hb h)
def rInt1 : List V → Hp → VK → Prop := fun xs H Q => (∃ i, xs = [.int i] ∧ Q (.int i) H) ∨ ∃ k, xs = [.bl k] ∧ Q (.int (if k then 1 else 0)) H
def rTupOf (K : PySem.W.Frag) : List V → Hp → VK → Prop := fun xs H Q => ∃ p ys, xs = [.ref p] ∧ ((SqL K H p ys ∧ ∀ l, H l = none → Q (.ref l) (upd H l (.tup ys))) ∨ (SqT K H p ys ∧ Q (.ref p) H))
def rListOf (K : PySem.W.Frag) : List V → Hp → VK → Prop := fun xs H Q => ∃ p ys, xs = [.ref p] ∧ (SqL K H p ys ∨ SqT K H p ys) ∧ ∀ l, H l = none → Q (.ref l) (upd H l (.lst ys))
def rIns : V → List V → Hp → VK → Prop := fun x vs H Q => ∃ (l : Addr) (xs : List V) (i : Int) (y : V), x = .ref l ∧ vs = [.int i, y] ∧ H l = some (.lst xs) ∧ xs.length < sizeLine ∧ 0 ≤ i ∧ i < 2 ^ 63 ∧ Q .non (upd H l (.lst (xs.take i.toNat ++ [y] ++ xs.drop i.toNat)))
def rAddZ : R2 := fun x y H Q => (rI0 fun i j => .int (i + j)) x y H Q ∨ rCat x y H Q
def rMulZ : R2 := fun x y H Q => rI CMul (fun i j => .int (i * j)) x y H Q ∨ rI CMulX (fun i j => .int (i * j)) x y H Q
def rEqZ (K : PySem.W.Frag) : R2 := fun x y H Q => rEq x y H Q ∨ rEqD K x y H Q
def rNeZ (K : PySem.W.Frag) : R2 := fun x y H Q => rNe x y H Q ∨ rNeD K x y H Q
section
variable {X : Cx}
theorem op_add : OpR X (binaryOp .Add) rAddZ := L2.op_add.or op_cat
theorem op_sub : OpR X (binaryOp .Sub) (rI0 fun i j => .int (i - j)) := L2.op_sub
theorem op_mul : OpR X (binaryOp .Mult) rMulZ := L2.op_mul.or op_mulX
theorem op_fdiv : OpR X (binaryOp .FloorDiv) (rI CDivW fun i j => .int (i / j)) := op_fdivW
theorem op_mod : OpR X (binaryOp .Mod) (rI (fun _ j => 0 < j) fun i j => .int (i % j)) := L2.op_mod
theorem un_neg : UnR X (unaryOp .USub) (rU fun i => .int (-i)) := L2.un_neg
theorem op_lt : OpR X (compareOp .Lt) (rI0 fun i j => .bl (decide (i < j))) := L2.op_lt
theorem op_le : OpR X (compareOp .LtE) (rI0 fun i j => .bl (decide (i ≤ j))) := L2.op_le
theorem op_gt : OpR X (compareOp .Gt) (rI0 fun i j => .bl (decide (j < i))) := L2.op_gt
theorem op_ge : OpR X (compareOp .GtE) (rI0 fun i j => .bl (decide (j ≤ i))) := L2.op_ge
variable {K : PySem.W.Frag}
theorem op_eq (hK : X.K = K) (hu : X.A.units + 64 < cLine) : OpR X (compareOp .Eq) (rEqZ K) := hK ▸ L2.op_eq.or (op_eqD hu)
theorem op_ne (hK : X.K = K) (hu : X.A.units + 64 < cLine) : OpR X (compareOp .NotEq) (rNeZ K) := hK ▸ L2.op_ne.or (op_neD hu)
theorem op_in (hK : X.K = K) : OpR X (compareOp .In) (rIn K false) := hK ▸ op_in_seq
theorem op_notin (hK : X.K = K) : OpR X (compareOp .NotIn) (rIn K true) := hK ▸ op_notIn_seq
theorem ix (hK : X.K = K) : IxR X (rIx K) := hK ▸ ix_seq
theorem slL (hK : X.K = K) : SlR X (rSlL K) := hK ▸ sl_list
theorem slT (hK : X.K = K) : SlR X (rSlT K) := hK ▸ sl_tup
theorem call_len (hK : X.K = K) : CallR X (.builtin "len") (rLen K) := hK ▸ L2.call_len
theorem mt_ins : MtR X "list.insert" rIns := mt_insert
theorem call_int : CallR X (.type "int") rInt1 := call_int1
theorem call_tuple (hK : X.K = K) : CallR X (.type "tuple") (rTupOf K) := hK ▸ call_tuple_of
theorem call_list (hK : X.K = K) : CallR X (.type "list") (rListOf K) := hK ▸ call_list_of
theorem call_isi (hK : X.K = K) : CallR X (.builtin "isinstance") (rIsi K) := hK ▸ L2.call_isi
theorem call_sum (hK : X.K = K) (hc : X.calm = true) : CallR X (.builtin "sum") (rSum K) := hK ▸ cr_sum hc
theorem call_min (hK : X.K = K) (hc : X.calm = true) : CallR X (.builtin "min") (rMin K) := hK ▸ cr_min hc
theorem call_max (hK : X.K = K) (hc : X.calm = true) : CallR X (.builtin "max") (rMax K) := hK ▸ cr_max hc
theorem call_any (hK : X.K = K) (hc : X.calm = true) : CallR X (.builtin "any") (rAny K) := hK ▸ cr_any hc
theorem call_all (hK : X.K = K) (hc : X.calm = true) : CallR X (.builtin "all") (rAll K) := hK ▸ cr_all hc
theorem call_sorted (hK : X.K = K) : CallR X (.builtin "sorted") (rSorted K) := hK ▸ cr_sorted
theorem piL (hK : X.K = K) {tg l : Expr} {tl : TE} (hl : PE X l tl) : PI X tg l (iList K tl) := hK ▸ pi_list hl
theorem piT (hK : X.K = K) {tg l : Expr} {tl : TE} (hl : PE X l tl) : PI X tg l (iTup K tl) := hK ▸ pi_tup hl
theorem fld (hK : X.K = K) {e : Expr} {ta : TE} {f : Str} {pos : Pos} (he : PE X e ta) (hb : attributeBase e f X.env (eval e X.env) = eval e X.env) : PE X (.Attribute e f pos) (tFld K ta f) := hK ▸ pe_fld he hb
theorem con (hK : X.K = K) {e : Expr} {ta : TE} {f : Str} {pos : Pos} (he : PE X e ta) (hb : attributeBase e f X.env (eval e X.env) = eval e X.env) : PE X (.Attribute e f pos) (tCon K ta f) := hK ▸ pe_con he hb
end
section
variable {K : PySem.W.Frag} {σ : L2.St} {H H' : Hp} {Q : VK} {v x y : V} {a b p : Addr} {xs ys : List V} {i j : Int}
theorem w_addI (q : Q (.int (i + j)) H) : rAddZ (.int i) (.int j) H Q := .inl ⟨i, j, rfl, rfl, q⟩
theorem w_addL (h1 : H a = some (.lst xs)) (h2 : H b = some (.lst ys)) (hz : xs.length + ys.length ≤ sizeLine) (q : ∀ p H2, H p = none → Ex H H2 → H2 p = some (.lst (xs ++ ys)) → Q (.ref p) H2) : rAddZ (.ref a) (.ref b) H Q :=
  .inr ⟨a, b, xs, ys, rfl, rfl, h1, h2, hz, fun p hp => q p _ hp (Ex.new hp) upd_same⟩
theorem w_mulI (hc : CM i j) (q : Q (.int (i * j)) H) : rMulZ (.int i) (.int j) H Q := hc.elim (fun h => .inl ⟨i, j, rfl, rfl, h, q⟩) fun h => .inr ⟨i, j, rfl, rfl, h, q⟩
theorem w_eqZI (q : Q (.bl (decide (i = j))) H) : rEqZ K (.int i) (.int j) H Q := .inl (w_eqI q)
theorem w_neZI (q : Q (.bl (!decide (i = j))) H) : rNeZ K (.int i) (.int j) H Q := .inl (w_neI q)
theorem w_eqZS {i j : Str} (q : Q (.bl (decide (i = j))) H) : rEqZ K (.str i) (.str j) H Q := .inl (w_eqS q)
theorem w_neZS {i j : Str} (q : Q (.bl (!decide (i = j))) H) : rNeZ K (.str i) (.str j) H Q := .inl (w_neS q)
theorem w_int1 (q : Q (.int i) H) : rInt1 [.int i] H Q := .inl ⟨i, rfl, q⟩
theorem w_tupL (h : SqL K H a xs) (q : ∀ p H2, H p = none → Ex H H2 → H2 p = some (.tup xs) → Q (.ref p) H2) : rTupOf K [.ref a] H Q := ⟨a, xs, rfl, .inl ⟨h, fun p hp => q p _ hp (Ex.new hp) upd_same⟩⟩
theorem w_tupT (h : SqT K H a xs) (q : Q (.ref a) H) : rTupOf K [.ref a] H Q := ⟨a, xs, rfl, .inr ⟨h, q⟩⟩
theorem w_listL (h : SqL K H a xs) (q : ∀ p H2, H p = none → Ex H H2 → H2 p = some (.lst xs) → Q (.ref p) H2) : rListOf K [.ref a] H Q := ⟨a, xs, rfl, .inl h, fun p hp => q p _ hp (Ex.new hp) upd_same⟩
theorem w_listT (h : SqT K H a xs) (q : ∀ p H2, H p = none → Ex H H2 → H2 p = some (.lst xs) → Q (.ref p) H2) : rListOf K [.ref a] H Q := ⟨a, xs, rfl, .inr h, fun p hp => q p _ hp (Ex.new hp) upd_same⟩
theorem w_lenL (h : SqL K H a xs) (q : Q (.int xs.length) H) : rLen K [.ref a] H Q := ⟨_, _, rfl, .inl ⟨xs, h, rfl⟩, q⟩
theorem w_lenT (h : SqT K H a xs) (q : Q (.int xs.length) H) : rLen K [.ref a] H Q := ⟨_, _, rfl, .inr ⟨xs, h, rfl⟩, q⟩
theorem atI_int {ns : List Int} (h0 : 0 ≤ i) (h1 : i < ns.length) : atI (ns.map V.int) i = some (.int (ns.getD i.toNat 0)) := by
  unfold atI ixN
  rw [if_pos h0, List.length_map, if_pos h1]
  show (ns.map V.int)[i.toNat]? = _
  have h : i.toNat < ns.length := by omega
  rw [List.getElem?_map, List.getD_eq_getElem?_getD, List.getElem?_eq_getElem h]
  rfl
theorem w_ixLI {ns : List Int} {k : Nat} (h : SqL K H a (ns.map V.int)) (hk : i.toNat = k) (h0 : 0 ≤ i) (h1 : i < ns.length) (q : Q (.int (ns.getD k 0)) H) : rIx K (.ref a) (.int i) H Q := .inl ⟨a, _, i, _, rfl, rfl, h, atI_int h0 h1, hk ▸ q⟩
theorem w_ixTI {ns : List Int} {k : Nat} (h : SqT K H a (ns.map V.int)) (hk : i.toNat = k) (h0 : 0 ≤ i) (h1 : i < ns.length) (q : Q (.int (ns.getD k 0)) H) : rIx K (.ref a) (.int i) H Q := .inr (.inl ⟨a, _, i, _, rfl, rfl, h, atI_int h0 h1, hk ▸ q⟩)
theorem w_ixL (h : SqL K H a xs) (ha : atI xs i = some v) (q : Q v H) : rIx K (.ref a) (.int i) H Q := .inl ⟨a, _, i, _, rfl, rfl, h, ha, q⟩
theorem w_ixT (h : SqT K H a xs) (ha : atI xs i = some v) (q : Q v H) : rIx K (.ref a) (.int i) H Q := .inr (.inl ⟨a, _, i, _, rfl, rfl, h, ha, q⟩)
theorem w_bm {T : String} {r : V → List V → Hp → VK → Prop} {to : TE} {t : TA} (h : to σ H fun x H1 => tyV K T x H1 ∧ t σ H1 fun xs H2 => r x xs H2 Q) : tBM K T r to t σ H Q := h
theorem w_bm0 {T : String} {r : V → List V → Hp → VK → Prop} {to : TE} (h : to σ H fun x H1 => tyV K T x H1 ∧ r x [] H1 Q) : tBM0 K T r to σ H Q := h
/-- the object of a list's method stands -/
theorem w_tyL {A : Prop} (h : H a = some (.lst xs)) (k : A) : tyV K "list" (.ref a) H ∧ A := ⟨.inl ⟨rfl, _, sq_of h⟩, k⟩
theorem w_app (h : H a = some (.lst xs)) (hz : xs.length < sizeLine) (q : ∀ H2, H2 a = some (.lst (xs ++ [v])) → (∀ H0, Ex H0 H → H0 a = none → Ex H0 H2) → (∀ b o, b ≠ a → H b = some o → H2 b = some o) → Q .non H2) : rAppend (.ref a) [v] H Q :=
  ⟨a, xs, v, rfl, rfl, h, hz, q _ upd_same (fun H0 e n => Ex.mut e n) (fun b o hb e => by rw [upd_ne hb]; exact e)⟩
theorem w_sl {r : V → Option Int → Option Int → Hp → VK → Prop} {te : TE} {tl th : TO} (h : te σ H fun x H1 => tl σ H1 fun l H2 => th σ H2 fun u H3 => r x l u H3 Q) : tSl r te tl th σ H Q := h
theorem w_noPart {Q : Option Int → Hp → Prop} (h : Q none H) : tNoPart σ H Q := h
theorem w_part {t : TE} {Q : Option Int → Hp → Prop} (h : t σ H fun x H1 => ∃ i, x = .int i ∧ Q (some i) H1) : tPart t σ H Q := h
theorem w_exI {R : Int → Prop} (h : R i) : ∃ i', V.int i = .int i' ∧ R i' := ⟨i, rfl, h⟩
theorem w_slL {lo hi : Option Int} (h : SqL K H a xs) (q : ∀ p H2, H p = none → Ex H H2 → H2 p = some (.lst (cutV xs lo hi)) → Q (.ref p) H2) : rSlL K (.ref a) lo hi H Q := ⟨a, xs, rfl, h, fun p hp => q p _ hp (Ex.new hp) upd_same⟩
theorem cut_from {xs : List V} (h : 0 ≤ i) : cutV xs (some i) none = xs.drop i.toNat := by
  obtain ⟨k, rfl⟩ := Int.eq_ofNat_of_zero_le h
  unfold cutV
  rw [HT.sIx_nat, HT.sIx_none, Int.toNat_natCast]
  by_cases hk : k ≤ xs.length
  · rw [Nat.min_eq_left hk, List.take_of_length_le]
    rw [List.length_drop]
    exact Nat.le_refl _
  · rw [Nat.min_eq_right (by omega), Nat.sub_self, List.take_zero, List.drop_eq_nil_of_le (by omega)]
theorem cut_to {xs : List V} (h : 0 ≤ i) : cutV xs none (some i) = xs.take i.toNat := by
  obtain ⟨k, rfl⟩ := Int.eq_ofNat_of_zero_le h
  unfold cutV
  rw [HT.sIx_nat, HT.sIx_none, Int.toNat_natCast, List.drop_zero, Nat.sub_zero]
  by_cases hk : k ≤ xs.length
  · rw [Nat.min_eq_left hk]
  · rw [Nat.min_eq_right (by omega), List.take_of_length_le (Nat.le_refl _), List.take_of_length_le (by omega)]
theorem cut_ft {xs : List V} (h : 0 ≤ i) (h2 : 0 ≤ j) : cutV xs (some i) (some j) = (xs.drop i.toNat).take (j.toNat - i.toNat) := by
  obtain ⟨k, rfl⟩ := Int.eq_ofNat_of_zero_le h
  obtain ⟨l, rfl⟩ := Int.eq_ofNat_of_zero_le h2
  unfold cutV
  rw [HT.sIx_nat, HT.sIx_nat, Int.toNat_natCast, Int.toNat_natCast]
  by_cases hk : k ≤ xs.length
  · rw [Nat.min_eq_left hk]
    by_cases hl : l ≤ xs.length
    · rw [Nat.min_eq_left hl]
    · rw [Nat.min_eq_right (by omega), List.take_of_length_le (by rw [List.length_drop]; exact Nat.le_refl _), List.take_of_length_le (by rw [List.length_drop]; omega)]
  · rw [Nat.min_eq_right (by omega : xs.length ≤ k), List.drop_eq_nil_of_le (Nat.le_refl _), List.drop_eq_nil_of_le (by omega), List.take_nil, List.take_nil]
theorem w_slLIf {ns : List Int} (h : SqL K H a (ns.map V.int)) (h0 : 0 ≤ i) (q : ∀ p H2, H p = none → Ex H H2 → H2 p = some (.lst ((ns.drop i.toNat).map V.int)) → Q (.ref p) H2) : rSlL K (.ref a) (some i) none H Q := w_slL h fun p H2 a b c => q p H2 a b (by rw [c, cut_from h0, List.map_drop])
theorem w_slLIt {ns : List Int} (h : SqL K H a (ns.map V.int)) (h0 : 0 ≤ i) (q : ∀ p H2, H p = none → Ex H H2 → H2 p = some (.lst ((ns.take i.toNat).map V.int)) → Q (.ref p) H2) : rSlL K (.ref a) none (some i) H Q := w_slL h fun p H2 a b c => q p H2 a b (by rw [c, cut_to h0, List.map_take])
theorem w_slLIft {ns : List Int} (h : SqL K H a (ns.map V.int)) (h0 : 0 ≤ i) (h1 : 0 ≤ j) (q : ∀ p H2, H p = none → Ex H H2 → H2 p = some (.lst (((ns.drop i.toNat).take (j.toNat - i.toNat)).map V.int)) → Q (.ref p) H2) : rSlL K (.ref a) (some i) (some j) H Q := w_slL h fun p H2 a b c => q p H2 a b (by rw [c, cut_ft h0 h1, List.map_take, List.map_drop])
theorem w_ins {k : Nat} (h : H a = some (.lst xs)) (hz : xs.length < sizeLine) (hk : i.toNat = k) (h0 : 0 ≤ i) (h1 : i < 2 ^ 63) (q : ∀ H2, H2 a = some (.lst (xs.take k ++ [v] ++ xs.drop k)) → (∀ H0, Ex H0 H → H0 a = none → Ex H0 H2) → (∀ b o, b ≠ a → H b = some o → H2 b = some o) → Q .non H2) : rIns (.ref a) [.int i, v] H Q :=
  ⟨a, xs, i, v, rfl, rfl, h, hz, h0, h1, q _ (by rw [upd_same, hk]) (fun H0 e n => Ex.mut e n) (fun b o hb e => by rw [upd_ne hb]; exact e)⟩
theorem w_gT {n : Nat} {t : TGs} {R : L2.St → Hp → Prop} (h : SqT K H a xs) (hn : xs.length = n) (q : t xs σ H R) : gTup K n t (.ref a) σ H R := ⟨a, xs, rfl, h, hn, q⟩
theorem w_gC {g : TG} {u : TGs} {R : L2.St → Hp → Prop} (q : g v σ H fun σ' H' => u xs σ' H' R) : gCons g u (v :: xs) σ H R := ⟨v, xs, rfl, q⟩
theorem w_gN {R : L2.St → Hp → Prop} (q : R σ H) : gNil [] σ H R := ⟨rfl, q⟩
theorem w_yes {Q : Bool → Hp → Prop} (h : Q true H) : tYes σ H Q := h
theorem w_wp {A : Prop} {vs : List Nat} {σ1 σ2 : L2.St} (h : wipe σ1 vs = wipe σ2 vs) (k : A) : wipe σ1 vs = wipe σ2 vs ∧ A := ⟨h, k⟩
theorem w_setL {k : Nat} {R : Hp → Prop} (h : H a = some (.lst xs)) (h0 : ixN xs.length i = some k) (q : ∀ H2, H2 a = some (.lst (xs.set k v)) → (∀ H0, Ex H0 H → H0 a = none → Ex H0 H2) → (∀ b o, b ≠ a → H b = some o → H2 b = some o) → R H2) : rSetL (.ref a) (.int i) v H R :=
  ⟨a, xs, i, k, rfl, rfl, h, h0, q _ upd_same (fun H0 e n => Ex.mut e n) (fun b o hb e => by rw [upd_ne hb]; exact e)⟩
/-! == of lists and tuples of ints that are the same -/
theorem dpAll_ints : ∀ ns : List Int, DpAll K H (ns.map V.int) (ns.map PyData.int)
  | [] => .nil
  | n :: r => .cons (.int n) (dpAll_ints r)
theorem eqvAll_ints : ∀ ns ms : List Int, PyData.eqvAll (ns.map PyData.int) (ms.map PyData.int) = decide (ns = ms)
  | [], [] => by simp [PyData.eqvAll]
  | [], _ :: _ => by simp [PyData.eqvAll]
  | _ :: _, [] => by simp [PyData.eqvAll]
  | a :: r, b :: t => by
    simp only [List.map_cons, PyData.eqvAll, PyData.eqv, eqvAll_ints r t]
    by_cases h : a = b <;> by_cases h' : r = t <;> simp [h, h']
theorem shaped_tup (ns : List Int) : SeqAt.shaped (.tuple (ns.map PyData.int)) = true := by
  simp [SeqAt.shaped, PyData.canLay0, PyData.depth, PySem.W.ke_canLayAll0, PySem.W.ke_depthAll]
theorem w_eqLI {ns ms : List Int} (h1 : SqL K H a (ns.map V.int)) (h2 : SqL K H b (ms.map V.int)) (q : Q (.bl (decide (ns = ms))) H) : rEqZ K (.ref a) (.ref b) H Q :=
  .inr ⟨_, _, .lst h1 (dpAll_ints ns), .lst h2 (dpAll_ints ms), PySem.W.ke_shaped_ints ns, PySem.W.ke_shaped_ints ms, by simp only [PyData.eqv, eqvAll_ints]; exact q⟩
theorem w_neLI {ns ms : List Int} (h1 : SqL K H a (ns.map V.int)) (h2 : SqL K H b (ms.map V.int)) (q : Q (.bl (!decide (ns = ms))) H) : rNeZ K (.ref a) (.ref b) H Q :=
  .inr ⟨_, _, .lst h1 (dpAll_ints ns), .lst h2 (dpAll_ints ms), PySem.W.ke_shaped_ints ns, PySem.W.ke_shaped_ints ms, by simp only [PyData.eqv, eqvAll_ints]; exact q⟩
theorem w_eqTI {ns ms : List Int} (h1 : SqT K H a (ns.map V.int)) (h2 : SqT K H b (ms.map V.int)) (q : Q (.bl (decide (ns = ms))) H) : rEqZ K (.ref a) (.ref b) H Q :=
  .inr ⟨_, _, .tup h1 (dpAll_ints ns), .tup h2 (dpAll_ints ms), shaped_tup ns, shaped_tup ms, by simp only [PyData.eqv, eqvAll_ints]; exact q⟩
theorem w_neTI {ns ms : List Int} (h1 : SqT K H a (ns.map V.int)) (h2 : SqT K H b (ms.map V.int)) (q : Q (.bl (!decide (ns = ms))) H) : rNeZ K (.ref a) (.ref b) H Q :=
  .inr ⟨_, _, .tup h1 (dpAll_ints ns), .tup h2 (dpAll_ints ms), shaped_tup ns, shaped_tup ms, by simp only [PyData.eqv, eqvAll_ints]; exact q⟩
/-! membership among ints -/
theorem inV_int {ns : List Int} : inV (.int i) (ns.map V.int) = decide (i ∈ ns) := by
  unfold inV
  induction ns with
  | nil => simp
  | cons n r ih =>
    rw [List.map_cons, List.any_cons, ih]
    have e : eqV (.int n) (.int i) = decide (n = i) := by unfold eqV; rfl
    rw [e]
    by_cases h : n = i
    · subst h; simp
    · have h' : ¬ i = n := fun z => h z.symm
      simp [h, h']
theorem flat_ints {ns : List Int} : (ns.map V.int).all flatV = true := by
  rw [List.all_map]
  exact List.all_eq_true.mpr fun _ _ => rfl
theorem w_inT {ns : List Int} (h : SqT K H a (ns.map V.int)) (q : Q (.bl (decide (i ∈ ns))) H) : rIn K false (.int i) (.ref a) H Q := ⟨a, _, rfl, .inr h, rfl, flat_ints, by rw [inV_int]; exact q⟩
theorem w_ninT {ns : List Int} (h : SqT K H a (ns.map V.int)) (q : Q (.bl (!decide (i ∈ ns))) H) : rIn K true (.int i) (.ref a) H Q := ⟨a, _, rfl, .inr h, rfl, flat_ints, by rw [inV_int]; exact q⟩
theorem w_inL {ns : List Int} (h : SqL K H a (ns.map V.int)) (q : Q (.bl (decide (i ∈ ns))) H) : rIn K false (.int i) (.ref a) H Q := ⟨a, _, rfl, .inl h, rfl, flat_ints, by rw [inV_int]; exact q⟩
theorem w_ninL {ns : List Int} (h : SqL K H a (ns.map V.int)) (q : Q (.bl (!decide (i ∈ ns))) H) : rIn K true (.int i) (.ref a) H Q := ⟨a, _, rfl, .inl h, rfl, flat_ints, by rw [inV_int]; exact q⟩
/-! lists of naturals -/
theorem getD_map_cast (os : List Nat) (k : Nat) : (os.map (fun n : Nat => (n : Int))).getD k 0 = ((os.getD k 0 : Nat) : Int) := by
  simp only [List.getD_eq_getElem?_getD, List.getElem?_map]
  cases os[k]? <;> rfl
theorem getD_get {α : Type} (xs : List α) (k : Nat) (d : α) (h : k < xs.length) : xs.getD k d = xs[k] := by
  rw [List.getD_eq_getElem?_getD, List.getElem?_eq_getElem h]; rfl
theorem w_ixTN {os : List Nat} {k : Nat} (h : SqT K H a ((os.map fun n : Nat => (n : Int)).map V.int)) (hk : i.toNat = k) (h0 : 0 ≤ i) (h1 : i < os.length) (q : Q (.int ((os.getD k 0 : Nat) : Int)) H) : rIx K (.ref a) (.int i) H Q :=
  w_ixTI h hk h0 (by rw [List.length_map]; exact h1) (by rw [getD_map_cast]; exact q)
theorem w_ixLN {os : List Nat} {k : Nat} (h : SqL K H a ((os.map fun n : Nat => (n : Int)).map V.int)) (hk : i.toNat = k) (h0 : 0 ≤ i) (h1 : i < os.length) (q : Q (.int ((os.getD k 0 : Nat) : Int)) H) : rIx K (.ref a) (.int i) H Q :=
  w_ixLI h hk h0 (by rw [List.length_map]; exact h1) (by rw [getD_map_cast]; exact q)
theorem get_nat {os : List Nat} {k : Nat} {x : V} (h : ((os.map fun n : Nat => (n : Int)).map V.int)[k]? = some x) : k < os.length ∧ x = .int ((os.getD k 0 : Nat) : Int) := by
  have h1 : k < os.length := by simpa using (List.getElem?_eq_some_iff.mp h).1
  have h2 : x = ((os.map fun n : Nat => (n : Int)).map V.int)[k]'(by simpa using h1) := by
    rw [List.getElem?_eq_getElem (by simpa using h1)] at h; exact (Option.some.inj h).symm
  refine ⟨h1, ?_⟩
  rw [h2, List.getElem_map, List.getElem_map, getD_get _ _ _ h1]
theorem get_int {ns : List Int} {k : Nat} {x : V} (h : (ns.map V.int)[k]? = some x) : k < ns.length ∧ x = .int (ns.getD k 0) := by
  rw [List.getElem?_map] at h
  cases e : ns[k]? with
  | none => rw [e] at h; cases h
  | some y =>
    rw [e] at h
    cases h
    exact ⟨(List.getElem?_eq_some_iff.mp e).1, by rw [List.getD_eq_getElem?_getD, e]; rfl⟩
/-! isinstance with a built-in class -/
theorem w_isiB {a b : String} {r : Bool} (ty : TyX K H x (.type a)) (h : kitB a b = some r) (q : Q (.bl r) H) : rIsi K [x, .ty b] H Q := ⟨x, _, _, _, r, rfl, .ty b, ty, kit_ty h, q⟩
theorem w_isiII (q : Q (.bl true) H) : rIsi K [.int i, .ty "int"] H Q := w_isiB (.base (.int _)) (by decide +kernel) q
theorem w_isiIB (q : Q (.bl false) H) : rIsi K [.int i, .ty "bool"] H Q := w_isiB (.base (.int _)) (by decide +kernel) q
theorem w_isiBI {k : Bool} (q : Q (.bl true) H) : rIsi K [.bl k, .ty "int"] H Q := w_isiB (.base (.bl _)) (by decide +kernel) q
theorem w_isiBB {k : Bool} (q : Q (.bl true) H) : rIsi K [.bl k, .ty "bool"] H Q := w_isiB (.base (.bl _)) (by decide +kernel) q
theorem w_isiTT (h : H a = some (.tup xs)) (q : Q (.bl true) H) : rIsi K [.ref a, .ty "tuple"] H Q := w_isiB (.base (.tup h)) (by decide +kernel) q
theorem w_isiLL (h : H a = some (.lst xs)) (q : Q (.bl true) H) : rIsi K [.ref a, .ty "list"] H Q := w_isiB (.base (.lst h)) (by decide +kernel) q
theorem w_isiSS {z : Str} (q : Q (.bl true) H) : rIsi K [.str z, .ty "str"] H Q := w_isiB (.base (.str _)) (by decide +kernel) q
end
/-! ### loops: what is walked (Src), the loop's goal (FG), a comprehension's (CG) -/
/-- J takes n turns while Φ holds; the i-th thing x stands in the heap behind as Y says -/
structure Src (J : It) (Φ : Hp → Prop) (n : Nat) (Y : Nat → V → Hp → Prop) : Prop where
  go : ∀ i H', Φ H' → i < n → J.go i H'
  stop : ∀ H', Φ H' → J.stop n H'
  yld : ∀ i H' x H'', Φ H' → i < n → J.yld i H' x H'' → Ex H' H'' ∧ Y i x H''
def FG (J : It) (g : TG) (tb : TS) (D : Ends) (σ : L2.St) (H1 : Hp) : Prop := ∃ W : Nat → Nat → L2.St → Hp → Prop, (∃ m, W 0 m σ H1) ∧ ∀ i m σ H, W i m σ H →
  (J.stop i H ∧ D.nx σ H) ∨ (J.go i H ∧ ∃ N : L2.St → Hp → Prop, (∀ σ' H', N σ' H' → ∃ m', m' < m ∧ W (i + 1) m' σ' H') ∧ ∀ x H', J.yld i H x H' → g x σ H' fun σ2 H2 => tb { D with nx := N, ct := N, bk := D.nx } σ2 H2)
def CG (J : It) (g : TG) (tt : TT) (te : TE) (vs : List Nat) (σ : L2.St) (H1 : Hp) (Q : VK) : Prop := ∀ D, H1 D = none → ∃ W : Nat → Nat → Hp → Prop, (∃ m, W 0 m (upd H1 D (.lst []))) ∧ ∀ i m H, W i m H →
  (J.stop i H ∧ Q (.ref D) H) ∨ (J.go i H ∧ ∃ Nx : Hp → Prop, (∀ H', Nx H' → ∃ m', m' < m ∧ W (i + 1) m' H') ∧ ∀ x H', J.yld i H x H' → g x (wipe σ vs) H' fun σ2 H2 => wipe σ2 vs = wipe σ vs ∧ tt σ2 H2 fun b H3 =>
    if b = true then te σ2 H3 fun y H4 => ∃ acc, H4 D = some (.lst acc) ∧ acc.length < sizeLine ∧ Nx (upd H4 D (.lst (acc ++ [y]))) else Nx H3)
section
variable {K : PySem.W.Frag} {σ : L2.St} {H H' : Hp} {Q : VK} {v x y : V} {a b p : Addr} {xs ys : List V} {i j : Int} {J : It} {Φ : Hp → Prop} {n : Nat} {Y : Nat → V → Hp → Prop} {g : TG} {tb : TS} {D : Ends} {R : It → Hp → Prop} {tt : TT} {te : TE} {vs : List Nat} {ta : TA}
def dL (K : PySem.W.Frag) (R : It → Hp → Prop) : VK := fun x H1 => ∃ a, x = .ref a ∧ (∃ xs, SqL K H1 a xs) ∧ R (Itl K a) H1
def dT (K : PySem.W.Frag) (R : It → Hp → Prop) : VK := fun x H1 => ∃ a, x = .ref a ∧ (∃ xs, SqT K H1 a xs) ∧ R (Itt K a) H1
def dR1 (R : It → Hp → Prop) : List V → Hp → Prop := fun vs H1 => ∃ j : Int, vs = [.int j] ∧ -(2 ^ 62) ≤ j ∧ j < 2 ^ 62 ∧ R (Itr 0 j.toNat) H1
def dR2 (R : It → Hp → Prop) : List V → Hp → Prop := fun vs H1 => ∃ i j : Int, vs = [.int i, .int j] ∧ (-(2 ^ 62) ≤ i ∧ i < 2 ^ 62 ∧ -(2 ^ 62) ≤ j ∧ j < 2 ^ 62) ∧ R (Itr i (j - i).toNat) H1
def dE (K : PySem.W.Frag) (R : It → Hp → Prop) : List V → Hp → Prop := fun vs H1 => ∃ a xs, vs = [.ref a] ∧ SqL K H1 a xs ∧ R (Ite K a) H1
theorem w_for {wi : TI} (h : wi σ H fun J H1 => FG J g tb D σ H1) : tFor wi g tb D σ H := h
theorem w_lc {wi : TI} (h : wi σ H fun J H1 => CG J g tt te vs σ H1 Q) : tLc wi g tt te vs σ H Q := h
theorem w_iL (h : te σ H (dL K R)) : iList K te σ H R := h
theorem w_iT (h : te σ H (dT K R)) : iTup K te σ H R := h
theorem w_iR1 (h : ta σ H (dR1 R)) : iRng1 ta σ H R := h
theorem w_iR2 (h : ta σ H (dR2 R)) : iRng2 ta σ H R := h
theorem w_iE (h : ta σ H (dE K R)) : iEnum K ta σ H R := h
theorem i_L (h : SqL K H a xs) (k : ∀ J, Src J (fun H' => SqL K H' a xs) xs.length (fun i x _ => xs[i]? = some x) → R J H) : dL K R (.ref a) H :=
  ⟨a, rfl, ⟨xs, h⟩, k _ ⟨fun i H' hp hi => ⟨xs, xs[i], hp, List.getElem?_eq_getElem hi⟩, fun H' hp => ⟨xs, hp, Nat.le_refl _⟩, fun i H' x H'' hp hi hy => by
    obtain ⟨e, f⟩ := hy
    exact ⟨by rw [e]; exact Ex.refl _, f xs hp⟩⟩⟩
theorem i_T (h : SqT K H a xs) (k : ∀ J, Src J (fun H' => SqT K H' a xs) xs.length (fun i x _ => xs[i]? = some x) → R J H) : dT K R (.ref a) H :=
  ⟨a, rfl, ⟨xs, h⟩, k _ ⟨fun i H' hp hi => ⟨xs, xs[i], hp, List.getElem?_eq_getElem hi⟩, fun H' hp => ⟨xs, hp, Nat.le_refl _⟩, fun i H' x H'' hp hi hy => by
    obtain ⟨e, f⟩ := hy
    exact ⟨by rw [e]; exact Ex.refl _, f xs hp⟩⟩⟩
theorem i_R1 (h1 : -(2 ^ 62) ≤ i) (h2 : i < 2 ^ 62) (k : ∀ J, Src J (fun _ => True) i.toNat (fun k x _ => x = .int (k : Nat)) → R J H) : dR1 R [.int i] H :=
  ⟨i, rfl, h1, h2, k _ ⟨fun i H' _ hi => hi, fun H' _ => Nat.le_refl _, fun i H' x H'' _ hi hy => by
    obtain ⟨e, f⟩ := hy
    exact ⟨by rw [e]; exact Ex.refl _, by rw [f, Int.zero_add]⟩⟩⟩
theorem i_R2 (h1 : -(2 ^ 62) ≤ i ∧ i < 2 ^ 62 ∧ -(2 ^ 62) ≤ j ∧ j < 2 ^ 62) (k : ∀ J, Src J (fun _ => True) (j - i).toNat (fun k x _ => x = .int (i + (k : Nat))) → R J H) : dR2 R [.int i, .int j] H :=
  ⟨i, j, rfl, h1, k _ ⟨fun i H' _ hi => hi, fun H' _ => Nat.le_refl _, fun i H' x H'' _ hi hy => by
    obtain ⟨e, f⟩ := hy
    exact ⟨by rw [e]; exact Ex.refl _, f⟩⟩⟩
theorem i_E (h : SqL K H a xs) (k : ∀ J, Src J (fun H' => SqL K H' a xs) xs.length (fun i x H'' => ∃ T y, x = .ref T ∧ H'' T = some (.tup [.int (i : Nat), y]) ∧ xs[i]? = some y) → R J H) : dE K R [.ref a] H :=
  ⟨a, xs, rfl, h, k _ ⟨fun i H' hp hi => ⟨xs, xs[i], hp, List.getElem?_eq_getElem hi⟩, fun H' hp => ⟨xs, hp, Nat.le_refl _⟩, fun i H' x H'' hp hi hy => by
    obtain ⟨T, y, e1, e2, e3, f⟩ := hy
    exact ⟨by rw [e3]; exact Ex.new e2, T, y, e1, by rw [e3]; exact upd_same, f xs hp⟩⟩⟩
/-- a for loop by its invariant -/
theorem fg (S : Src J Φ n Y) (Pv : Nat → L2.St → Hp → Prop) (h0 : Pv 0 σ H) (hx : ∀ i σ' H', i ≤ n → Pv i σ' H' → Φ H')
    (hs : ∀ i x σ' H' H'', i < n → Pv i σ' H' → Ex H' H'' → Y i x H'' → g x σ' H'' fun σ2 H2 => tb ⟨Pv (i + 1), D.rt, D.nx, Pv (i + 1)⟩ σ2 H2) (hd : ∀ σ' H', Pv n σ' H' → D.nx σ' H') : FG J g tb D σ H := by
  refine ⟨fun i m σ H => m = n - i ∧ i ≤ n ∧ Pv i σ H, ⟨n, by simp, Nat.zero_le _, h0⟩, ?_⟩
  rintro i m σ H ⟨rfl, hi, p⟩
  have hp := hx i σ H hi p
  by_cases hlt : i < n
  · refine Or.inr ⟨S.go i H hp hlt, Pv (i + 1), fun σ' H' q => ⟨n - (i + 1), by omega, rfl, hlt, q⟩, fun x H' hy => ?_⟩
    obtain ⟨e, y⟩ := S.yld i H x H' hp hlt hy
    exact hs i x σ H H' hlt p e y
  · have e : i = n := by omega
    subst e
    exact Or.inl ⟨S.stop H hp, hd σ H p⟩
/-- a comprehension's list at Dl, between two turns -/
structure CD (H : Hp) (Dl : Addr) (acc : List V) (H' : Hp) : Prop where
  new : H Dl = none
  ex : Ex H H'
  at_ : H' Dl = some (.lst acc)
/-- behind a turn's element -/
def ElE (H : Hp) (Dl : Addr) (acc : List V) : VK := fun y H4 => ∃ acc', H4 Dl = some (.lst acc') ∧ acc'.length < sizeLine ∧ CD H Dl acc (upd H4 Dl (.lst (acc' ++ [y])))
theorem ele {H H' H4 : Hp} {Dl : Addr} {acc : List V} {y : V} (c : CD H Dl acc H') (hz : acc.length < sizeLine) (e : Ex H' H4) : ElE H Dl (acc ++ [y]) y H4 :=
  ⟨acc, e.get c.at_, hz, c.new, Ex.mut (c.ex.trans e) c.new, upd_same⟩
/-- a comprehension without a test; the elements are values that hang on no object -/
theorem cgF (S : Src J Φ n Y) (f : Nat → V) (hx : ∀ H', Ex H H' → Φ H') (hz : n ≤ sizeLine)
    (hs : ∀ Dl i x H', i < n → CD H Dl ((List.range i).map f) H' → Y i x H' → g x (wipe σ vs) H' fun σ2 H2 => wipe σ2 vs = wipe σ vs ∧ tt σ2 H2 fun b H3 => if b = true then te σ2 H3 (ElE H Dl ((List.range i).map f ++ [f i])) else False)
    (q : ∀ p H2, H p = none → Ex H H2 → H2 p = some (.lst ((List.range n).map f)) → Q (.ref p) H2) (htt : tt = tYes) : CG J g tt te vs σ H Q := by
  subst htt
  have er : ∀ i, (List.range i).map f ++ [f i] = (List.range (i + 1)).map f := fun i => by rw [List.range_succ, List.map_append]; rfl
  intro Dl hD
  refine ⟨fun i m H' => m = n - i ∧ i ≤ n ∧ CD H Dl ((List.range i).map f) H', ⟨n, by simp, Nat.zero_le _, hD, Ex.new hD, upd_same⟩, ?_⟩
  rintro i m H1 ⟨rfl, hi, c⟩
  have hp := hx H1 c.ex
  by_cases hlt : i < n
  · refine Or.inr ⟨S.go i H1 hp hlt, fun H' => CD H Dl ((List.range i).map f ++ [f i]) H', fun H' q => ⟨n - (i + 1), by omega, rfl, hlt, er i ▸ q⟩, fun x H' hy => ?_⟩
    obtain ⟨e', y⟩ := S.yld i H1 x H' hp hlt hy
    exact hs Dl i x H' hlt ⟨c.new, c.ex.trans e', e'.get c.at_⟩ y
  · have e2 : i = n := by omega
    subst e2
    exact Or.inl ⟨S.stop H1 hp, q Dl H1 hD c.ex c.at_⟩
/-- .. ints -/
theorem cgI (S : Src J Φ n Y) (f : Nat → Int) (hx : ∀ H', Ex H H' → Φ H') (hz : n ≤ sizeLine)
    (hs : ∀ Dl i x H', i < n → CD H Dl ((List.range i).map fun k => V.int (f k)) H' → Y i x H' → g x (wipe σ vs) H' fun σ2 H2 => wipe σ2 vs = wipe σ vs ∧ tt σ2 H2 fun b H3 => if b = true then te σ2 H3 (ElE H Dl ((List.range i).map (fun k => V.int (f k)) ++ [V.int (f i)])) else False)
    (q : ∀ p H2, H p = none → Ex H H2 → H2 p = some (.lst (((List.range n).map f).map V.int)) → Q (.ref p) H2) (htt : tt = tYes) : CG J g tt te vs σ H Q :=
  cgF S (fun k => V.int (f k)) hx hz hs (fun p H2 hn he hp => q p H2 hn he (by rw [hp, List.map_map]; rfl)) htt
/-- a comprehension with a test: which turns give an element (p), and which (f) -/
theorem cgP (S : Src J Φ n Y) (p : Nat → Bool) (f : Nat → V) (hx : ∀ H', Ex H H' → Φ H') (hz : n ≤ sizeLine)
    (hs : ∀ Dl i x H', i < n → CD H Dl (((List.range i).filter p).map f) H' → (((List.range i).filter p).map f).length < sizeLine → Y i x H' → g x (wipe σ vs) H' fun σ2 H2 => wipe σ2 vs = wipe σ vs ∧ tt σ2 H2 fun b H3 => if b = true then te σ2 H3 (ElE H Dl (((List.range (i + 1)).filter p).map f)) else CD H Dl (((List.range (i + 1)).filter p).map f) H3)
    (q : ∀ p' H2, H p' = none → Ex H H2 → H2 p' = some (.lst (((List.range n).filter p).map f)) → Q (.ref p') H2) : CG J g tt te vs σ H Q := by
  intro Dl hD
  refine ⟨fun i m H' => m = n - i ∧ i ≤ n ∧ CD H Dl (((List.range i).filter p).map f) H', ⟨n, by simp, Nat.zero_le _, hD, Ex.new hD, upd_same⟩, ?_⟩
  rintro i m H1 ⟨rfl, hi, c⟩
  have hp := hx H1 c.ex
  by_cases hlt : i < n
  · refine Or.inr ⟨S.go i H1 hp hlt, fun H' => CD H Dl (((List.range (i + 1)).filter p).map f) H', fun H' q => ⟨n - (i + 1), by omega, rfl, hlt, q⟩, fun x H' hy => ?_⟩
    obtain ⟨e', y⟩ := S.yld i H1 x H' hp hlt hy
    refine hs Dl i x H' hlt ⟨c.new, c.ex.trans e', e'.get c.at_⟩ ?_ y
    rw [List.length_map]
    exact Nat.lt_of_le_of_lt (List.length_filter_le _ _) (by rw [List.length_range]; omega)
  · have e2 : i = n := by omega
    subst e2
    exact Or.inl ⟨S.stop H1 hp, q Dl H1 hD c.ex c.at_⟩
theorem fr_T {α : Type} {p : Nat → Bool} {f : Nat → α} {i : Nat} (h : p i = true) : ((List.range (i + 1)).filter p).map f = ((List.range i).filter p).map f ++ [f i] := by
  rw [List.range_succ, List.filter_append, List.map_append]
  simp [h]
theorem fr_F {α : Type} {p : Nat → Bool} {f : Nat → α} {i : Nat} (h : p i = false) : ((List.range (i + 1)).filter p).map f = ((List.range i).filter p).map f := by
  rw [List.range_succ, List.filter_append, List.map_append]
  simp [h]
/-- a while by an invariant that tells a falling number -/
def WB (W : Nat → L2.St → Hp → Prop) (t : TS) (D : Ends) (m : Nat) (σ' : L2.St) : Bool → Hp → Prop := fun b H1 => if b = true then ∃ N : L2.St → Hp → Prop, (∀ σ' H', N σ' H' → ∃ m', m' < m ∧ W m' σ' H') ∧ t { D with nx := N, ct := N, bk := D.nx } σ' H1 else D.nx σ' H1
theorem w_while {c : TT} {t : TS} (W : Nat → L2.St → Hp → Prop) (m0 : Nat) (h0 : W m0 σ H) (hs : ∀ m σ' H', W m σ' H' → c σ' H' (WB W t D m σ')) : tWhile c t D σ H := ⟨W, ⟨m0, h0⟩, hs⟩
section
variable {W : Nat → L2.St → Hp → Prop} {t : TS} {m : Nat}
theorem wb_T (h : t ⟨fun σ2 H2 => ∃ m', m' < m ∧ W m' σ2 H2, D.rt, D.nx, fun σ2 H2 => ∃ m', m' < m ∧ W m' σ2 H2⟩ σ H) : WB W t D m σ true H := ⟨_, fun _ _ h => h, h⟩
theorem wb_F (h : D.nx σ H) : WB W t D m σ false H := h
theorem wb_dec {p : Prop} [Decidable p] (h1 : p → t ⟨fun σ2 H2 => ∃ m', m' < m ∧ W m' σ2 H2, D.rt, D.nx, fun σ2 H2 => ∃ m', m' < m ∧ W m' σ2 H2⟩ σ H) (h2 : ¬ p → D.nx σ H) : WB W t D m σ (decide p) H := by
  by_cases h : p
  · rw [decide_eq_true h]; exact wb_T (h1 h)
  · rw [decide_eq_false h]; exact wb_F (h2 h)
end
end
end Z
local macro_rules | `(tactic| walk_at "ex") => `(tactic| first | with_reducible assumption | exact Z.Ex.refl _ | ((with_reducible apply Z.Ex.trans'); (with_reducible assumption); walk_at "ex"))
local macro_rules | `(tactic| walk_at "fx") => `(tactic| first | with_reducible assumption | ((with_reducible apply Z.sq_of); with_reducible assumption) | ((with_reducible apply Z.st_of); with_reducible assumption) | ((with_reducible apply Z.Ex.l); (with_reducible assumption); walk_at "fx") | ((with_reducible apply Z.Ex.t); (with_reducible assumption); walk_at "fx") | ((with_reducible apply Z.Ex.get); (with_reducible assumption); walk_at "fx"))
local macro_rules | `(tactic| walk_at "num") => `(tactic| first | with_reducible assumption | omega | (simp only [List.length_map, List.length_append, List.length_cons, List.length_nil, List.length_range, List.length_take, List.length_drop, List.length_replicate] at *; omega) | decide)
local macro_rules | `(tactic| walk_at "nat") => `(tactic| first | with_reducible assumption | (simp only [Int.reduceToNat]; exact rfl) | (simp only [Int.toNat_natCast]; exact rfl) | exact rfl)
local macro_rules | `(tactic| walk_at "sz") => `(tactic| first | (show _ ≤ 16777216; walk_at "num") | (show _ < 16777216; walk_at "num"))
local macro_rules | `(tactic| walk_at "mul") => `(tactic| first | exact Z.CM.of_right (by decide) | exact Z.CM.of_left (by decide) | exact Z.CM.of_right (by omega) | exact Z.CM.of_left (by omega))
local macro_rules | `(tactic| walk_at "div") => `(tactic| first | with_reducible assumption | exact L2.wide_div (b := 64) (by omega) (by omega) (by decide) (by decide) | exact L2.wide_div (b := 64) (by decide) (by decide) (by decide) (by decide))
local macro_rules | `(tactic| walk_at "st1") => `(tactic| (first
  | ((with_reducible apply Z.w_var); exact rfl)
  | with_reducible refine Z.w_c ?_
  | with_reducible refine Z.w_op ?_
  | with_reducible refine Z.w_un ?_
  | with_reducible refine Z.w_cb ?_
  | with_reducible refine Z.w_nil ?_
  | with_reducible refine Z.w_cons ?_
  | with_reducible refine Z.w_tup ?_
  | with_reducible refine Z.w_lst ?_
  | with_reducible refine Z.w_call ?_
  | with_reducible refine Z.w_test ?_
  | with_reducible refine Z.w_B ?_
  | with_reducible refine Z.w_bl ?_
  | with_reducible refine Z.w_and ?_
  | with_reducible refine Z.w_or ?_
  | with_reducible refine Z.w_not ?_
  | with_reducible refine Z.w_andV ?_
  | with_reducible refine Z.w_orV ?_
  | with_reducible refine Z.w_notV ?_
  | with_reducible refine Z.w_ifE ?_
  | with_reducible refine Z.w_isN ?_
  | with_reducible refine Z.w_notN ?_
  | with_reducible refine Z.w_seq ?_
  | with_reducible refine Z.w_asg ?_
  | with_reducible refine Z.w_gn ?_
  | with_reducible refine Z.w_ret ?_
  | with_reducible refine Z.w_retN ?_
  | with_reducible refine Z.w_drop ?_
  | with_reducible refine Z.w_next ?_
  | with_reducible refine Z.w_brk ?_
  | with_reducible refine Z.w_cnt ?_
  | with_reducible refine Z.w_if ?_
  | with_reducible refine Z.w_nx ?_
  | with_reducible refine Z.w_bk ?_
  | with_reducible refine Z.w_ct ?_
  | with_reducible refine Z.w_rt ?_
  | ((with_reducible apply Z.w_aug); exact rfl)
  | with_reducible refine Z.w_for ?_
  | with_reducible refine Z.w_lc ?_
  | with_reducible refine Z.w_iL ?_
  | with_reducible refine Z.w_iT ?_
  | with_reducible refine Z.w_iR1 ?_
  | with_reducible refine Z.w_iR2 ?_
  | with_reducible refine Z.w_iE ?_
  | with_reducible refine Z.w_bm ?_
  | with_reducible refine Z.w_bm0 ?_
  | with_reducible refine Z.w_yes ?_
  | with_reducible refine Z.w_sl ?_
  | with_reducible refine Z.w_noPart ?_
  | with_reducible refine Z.w_part ?_
  | ((with_reducible refine Z.w_wp ?_ ?_); exact rfl)))
local macro_rules | `(tactic| walk_at "st2") => `(tactic| (first
  | with_reducible refine Z.w_ipI ?_
  | with_reducible refine Z.w_I0 ?_
  | with_reducible refine Z.w_U ?_
  | with_reducible refine Z.w_addI ?_
  | ((with_reducible refine Z.w_mulI ?_ ?_); (walk_at "mul"))
  | with_reducible refine Z.w_eqZI ?_
  | with_reducible refine Z.w_neZI ?_
  | with_reducible refine Z.w_eqZS ?_
  | with_reducible refine Z.w_neZS ?_
  | with_reducible refine Z.w_T ?_
  | with_reducible refine Z.w_F ?_
  | with_reducible refine Z.w_nT ?_
  | with_reducible refine Z.w_nF ?_
  | with_reducible refine Z.w_int1 ?_
  | with_reducible refine Z.w_exI ?_
  | ((with_reducible apply Z.w_eqLI); (walk_at "fx"); (walk_at "fx"))
  | ((with_reducible apply Z.w_neLI); (walk_at "fx"); (walk_at "fx"))
  | ((with_reducible apply Z.w_eqTI); (walk_at "fx"); (walk_at "fx"))
  | ((with_reducible apply Z.w_neTI); (walk_at "fx"); (walk_at "fx"))
  | ((with_reducible apply Z.w_inT); (walk_at "fx"))
  | ((with_reducible apply Z.w_ninT); (walk_at "fx"))
  | ((with_reducible apply Z.w_inL); (walk_at "fx"))
  | ((with_reducible apply Z.w_ninL); (walk_at "fx"))
  | with_reducible refine Z.wb_F ?_
  | with_reducible refine Z.wb_T ?_
  | ((with_reducible apply Z.w_ins); (walk_at "fx"); (walk_at "sz"); (walk_at "nat"); (walk_at "num"); (walk_at "num"); (intro H2 hp hk ho); (try have hke := Z.kmut (by with_reducible assumption) hk (by walk_at "ex")))
  | ((with_reducible apply Z.w_gT); (walk_at "fx"); exact rfl)
  | with_reducible refine Z.w_gC ?_
  | with_reducible refine Z.w_gN ?_
  | with_reducible refine Z.w_isiII ?_
  | with_reducible refine Z.w_isiIB ?_
  | with_reducible refine Z.w_isiBI ?_
  | with_reducible refine Z.w_isiBB ?_
  | with_reducible refine Z.w_isiSS ?_
  | ((with_reducible apply Z.w_isiTT); (walk_at "fx"))
  | ((with_reducible apply Z.w_isiLL); (walk_at "fx"))
  | ((with_reducible apply Z.w_addL); (walk_at "fx"); (walk_at "fx"); (walk_at "sz"); (intro p H2 hn he hp))
  | ((with_reducible apply Z.w_slLIf); (walk_at "fx"); (walk_at "num"); (intro p H2 hn he hp))
  | ((with_reducible apply Z.w_slLIt); (walk_at "fx"); (walk_at "num"); (intro p H2 hn he hp))
  | ((with_reducible apply Z.w_slLIft); (walk_at "fx"); (walk_at "num"); (walk_at "num"); (intro p H2 hn he hp))
  | ((with_reducible apply Z.w_app); (walk_at "fx"); (walk_at "sz"); (intro H2 hp hk ho); (try have hke := Z.kmut (by with_reducible assumption) hk (by walk_at "ex")))
  | ((with_reducible apply Z.ele); (with_reducible assumption); (walk_at "sz"); (walk_at "ex"))
  | ((with_reducible apply Z.w_tupL); (walk_at "fx"); (intro p H2 hn he hp))
  | ((with_reducible apply Z.w_tupT); (walk_at "fx"))
  | ((with_reducible apply Z.w_listL); (walk_at "fx"); (intro p H2 hn he hp))
  | ((with_reducible apply Z.w_listT); (walk_at "fx"); (intro p H2 hn he hp))
  | ((with_reducible refine Z.w_newT ?_ (fun p H2 hn he hp => ?_)); (walk_at "sz"))
  | ((with_reducible refine Z.w_newL ?_ (fun p H2 hn he hp => ?_)); (walk_at "sz"))
  | ((with_reducible apply Z.w_lenL); (walk_at "fx"))
  | ((with_reducible apply Z.w_lenT); (walk_at "fx"))
  | ((with_reducible apply Z.w_pow); (exact ⟨by decide, by decide, by decide⟩); (simp only [Int.reduceToNat, Int.reducePow]; exact rfl))
  | ((with_reducible refine Z.w_I (C := L2.CDivW) ?_ ?_); (walk_at "div"))
  | ((with_reducible refine Z.w_I (C := fun _ j => 0 < j) ?_ ?_); (first | assumption | omega | decide))
  | ((with_reducible apply Z.w_ixLN); (walk_at "fx"); (walk_at "nat"); (walk_at "num"); (walk_at "num"))
  | ((with_reducible apply Z.w_ixTN); (walk_at "fx"); (walk_at "nat"); (walk_at "num"); (walk_at "num"))
  | ((with_reducible apply Z.w_ixLI); (walk_at "fx"); (walk_at "nat"); (walk_at "num"); (walk_at "num"))
  | ((with_reducible apply Z.w_ixTI); (walk_at "fx"); (walk_at "nat"); (walk_at "num"); (walk_at "num"))
  | ((with_reducible apply Z.i_L); (walk_at "fx"); intro J S)
  | ((with_reducible apply Z.i_T); (walk_at "fx"); intro J S)
  | ((with_reducible apply Z.i_E); (walk_at "fx"); intro J S)
  | ((with_reducible refine Z.i_R1 ?_ ?_ (fun J S => ?_)); (walk_at "num"); (walk_at "num"))
  | ((with_reducible refine Z.i_R2 ?_ (fun J S => ?_)); (exact ⟨by walk_at "num", by walk_at "num", by walk_at "num", by walk_at "num"⟩))
  | ((with_reducible apply Z.w_tyL); (walk_at "fx"))))
local macro_rules | `(tactic| walk_at "go") => `(tactic| repeat (first | walk_at "st1" | walk_at "st2"))
local macro_rules | `(tactic| walk_at "br") => `(tactic| (first
  | ((with_reducible refine Z.w_decT ?_ ?_); (walk_at "num"))
  | ((with_reducible refine Z.w_decF ?_ ?_); (walk_at "num"))
  | ((with_reducible refine Z.w_ndecF ?_ ?_); (walk_at "num"))
  | ((with_reducible refine Z.w_ndecT ?_ ?_); (walk_at "num"))))
local macro_rules | `(tactic| walk_at "run") => `(tactic| repeat (first | walk_at "st1" | walk_at "st2" | walk_at "br"))
namespace R
open PySem L2 Z
def top (i : Nat) : Stmt := PySem.Challenge.pw_dearestshelf_k12_dearest_order.main.body.getD i (.Pass ⟨0, 0, 0, 0⟩)
abbrev s__law_cell : Stmt := top 3
theorem sc__law_cell : FnScope ["_law_script", "_law_place"] ["_law_script", "_law_place"] (defScope s__law_cell) := ⟨rfl, rfl, rfl, by decide +kernel, rfl, by decide +kernel, by decide +kernel⟩
abbrev s__law_draws : Stmt := top 4
theorem sc__law_draws : FnScope ["_law_cell_here", "_law_sizes", "_law_left", "_law_found", "_law_size", "_law_k", "_law_low", "_law_high"] ["_law_cell_here", "_law_sizes"] (defScope s__law_draws) := ⟨rfl, rfl, rfl, by decide +kernel, rfl, by decide +kernel, by decide +kernel⟩
abbrev s__law_is_int : Stmt := top 6
theorem sc__law_is_int : FnScope ["_law_x"] ["_law_x"] (defScope s__law_is_int) := ⟨rfl, rfl, rfl, by decide +kernel, rfl, by decide +kernel, by decide +kernel⟩
abbrev s__law_right : Stmt := top 7
theorem sc__law_right : FnScope ["_law_order", "_law_prices", "_law_thing", "_law_k", "_law_before"] ["_law_order", "_law_prices"] (defScope s__law_right) := ⟨rfl, rfl, rfl, by decide +kernel, rfl, by decide +kernel, by decide +kernel⟩
abbrev s__law_row : Stmt := top 5
theorem sc__law_row : FnScope ["_law_cell_here", "_law_count", "_law_drawn", "_law_bound", "_law_k", "_law_value"] ["_law_cell_here", "_law_count"] (defScope s__law_row) := ⟨rfl, rfl, rfl, by decide +kernel, rfl, by decide +kernel, by decide +kernel⟩
abbrev s_dearest_order : Stmt := top 1
theorem sc_dearest_order : FnScope ["prices", "order", "thing", "price", "place"] ["prices"] (defScope s_dearest_order) := ⟨rfl, rfl, rfl, by decide +kernel, rfl, by decide +kernel, by decide +kernel⟩
abbrev s_law : Stmt := top 8
theorem sc_law : FnScope ["_law_script", "_law_ways", "_law_many", "_law_prices", "_law_place", "_law_passed", "_law_k"] ["_law_script"] (defScope s_law) := ⟨rfl, rfl, rfl, by decide +kernel, rfl, by decide +kernel, by decide +kernel⟩
structure Tx (K : PySem.W.Frag) (mg : Str → Option Value) : Prop where
  n_bool : mg "bool" = none
  n_enumerate : mg "enumerate" = none
  n_int : mg "int" = none
  n_isinstance : mg "isinstance" = none
  n_len : mg "len" = none
  n_list : mg "list" = none
  n_range : mg "range" = none
  n_tuple : mg "tuple" = none
  g__law_cell : mg "_law_cell" = some (.ref (He.ga K "_law_cell"))
  F__law_cell : Z.FnP K "_law_cell" s__law_cell (He.ga K "_law_cell") (Z.fdOf K (He.ga K "_law_cell"))
  b__law_cell : Binds K (Z.fdOf K (He.ga K "_law_cell")) ["_law_script", "_law_place"] []
  g__law_draws : mg "_law_draws" = some (.ref (He.ga K "_law_draws"))
  F__law_draws : Z.FnP K "_law_draws" s__law_draws (He.ga K "_law_draws") (Z.fdOf K (He.ga K "_law_draws"))
  b__law_draws : Binds K (Z.fdOf K (He.ga K "_law_draws")) ["_law_cell_here", "_law_sizes"] []
  g__law_is_int : mg "_law_is_int" = some (.ref (He.ga K "_law_is_int"))
  F__law_is_int : Z.FnP K "_law_is_int" s__law_is_int (He.ga K "_law_is_int") (Z.fdOf K (He.ga K "_law_is_int"))
  b__law_is_int : Binds K (Z.fdOf K (He.ga K "_law_is_int")) ["_law_x"] []
  g__law_right : mg "_law_right" = some (.ref (He.ga K "_law_right"))
  F__law_right : Z.FnP K "_law_right" s__law_right (He.ga K "_law_right") (Z.fdOf K (He.ga K "_law_right"))
  b__law_right : Binds K (Z.fdOf K (He.ga K "_law_right")) ["_law_order", "_law_prices"] []
  g__law_row : mg "_law_row" = some (.ref (He.ga K "_law_row"))
  F__law_row : Z.FnP K "_law_row" s__law_row (He.ga K "_law_row") (Z.fdOf K (He.ga K "_law_row"))
  b__law_row : Binds K (Z.fdOf K (He.ga K "_law_row")) ["_law_cell_here", "_law_count"] []
  g_dearest_order : mg "dearest_order" = some (.ref (He.ga K "dearest_order"))
  F_dearest_order : Z.FnP K "dearest_order" s_dearest_order (He.ga K "dearest_order") (Z.fdOf K (He.ga K "dearest_order"))
  b_dearest_order : Binds K (Z.fdOf K (He.ga K "dearest_order")) ["prices"] []
  g_law : mg "law" = some (.ref (He.ga K "law"))
  F_law : Z.FnP K "law" s_law (He.ga K "law") (Z.fdOf K (He.ga K "law"))
  b_law : Binds K (Z.fdOf K (He.ga K "law")) ["_law_script"] []
variable {P : Program} {w : World} {K : PySem.W.Frag} {mg : Str → Option Value} {base : Heap}
--lib
/-! ### orders of things by a weak order -/
/-- a strict weak order -/
structure Wk (lt : Nat → Nat → Prop) : Prop where
  asym : ∀ {a b}, lt a b → ¬ lt b a
  tr : ∀ {a b c}, ¬ lt a b → ¬ lt b c → ¬ lt a c
/-- a stands ahead of b: dearer, or equally dear and lower -/
def Ahd (lt : Nat → Nat → Prop) (a b : Nat) : Prop := lt b a ∨ (¬ lt a b ∧ ¬ lt b a ∧ a < b)
/-- the order of the things below n -/
structure DOrd (lt : Nat → Nat → Prop) (n : Nat) (os : List Nat) : Prop where
  perm : os.Perm (List.range n)
  srt : os.Pairwise (Ahd lt)
theorem DOrd.nil (lt : Nat → Nat → Prop) : DOrd lt 0 [] := ⟨.refl _, .nil⟩
theorem DOrd.len {lt : Nat → Nat → Prop} {n : Nat} {os : List Nat} (d : DOrd lt n os) : os.length = n := by rw [d.perm.length_eq, List.length_range]
theorem DOrd.lt {lt : Nat → Nat → Prop} {n : Nat} {os : List Nat} (d : DOrd lt n os) {x : Nat} (h : x ∈ os) : x < n := List.mem_range.mp (d.perm.mem_iff.mp h)
theorem DOrd.mem {lt : Nat → Nat → Prop} {n : Nat} {os : List Nat} (d : DOrd lt n os) {x : Nat} (h : x < n) : x ∈ os := d.perm.mem_iff.mpr (List.mem_range.mpr h)
theorem DOrd.nodup {lt : Nat → Nat → Prop} {n : Nat} {os : List Nat} (d : DOrd lt n os) : os.Nodup := d.perm.nodup_iff.mpr List.nodup_range
/-- one thing more is put in -/
theorem DOrd.ins {lt : Nat → Nat → Prop} (W : Wk lt) {n pl : Nat} {os : List Nat} (d : DOrd lt n os) (hp : pl ≤ os.length) (low : ∀ x ∈ os.drop pl, lt x n) (up : pl = 0 ∨ ∃ x, os[pl - 1]? = some x ∧ ¬ lt x n) :
    DOrd lt (n + 1) (os.take pl ++ [n] ++ os.drop pl) := by
  have hup : ∀ x ∈ os.take pl, ¬ lt x n := by
    intro x hx
    rcases up with rfl | ⟨y, hy, hn⟩
    · simp at hx
    · by_cases h0 : pl = 0
      · subst h0; simp at hx
      obtain ⟨i, hi, rfl⟩ := List.mem_iff_getElem.mp hx
      rw [List.length_take] at hi
      rw [List.getElem_take]
      have hyl : pl - 1 < os.length := by omega
      rw [List.getElem?_eq_getElem hyl] at hy
      cases hy
      by_cases e : i = pl - 1
      · subst e; exact hn
      · have r := List.pairwise_iff_getElem.mp d.srt i (pl - 1) (by omega) hyl (by omega)
        rcases r with r | ⟨r, _, _⟩
        · exact W.tr (W.asym r) hn
        · exact W.tr r hn
  refine ⟨?_, ?_⟩
  · rw [List.range_succ]
    have e : os.take pl ++ [n] ++ os.drop pl = os.take pl ++ ([n] ++ os.drop pl) := by rw [List.append_assoc]
    rw [e]
    refine (List.Perm.append_left _ List.perm_append_comm).trans ?_
    rw [← List.append_assoc, List.take_append_drop]
    exact d.perm.append_right _
  · have s1 : (os.take pl).Pairwise (Ahd lt) := d.srt.sublist (List.take_sublist _ _)
    have s2 : (os.drop pl).Pairwise (Ahd lt) := d.srt.sublist (List.drop_sublist _ _)
    have s0 := d.srt
    rw [← List.take_append_drop pl os, List.pairwise_append] at s0
    rw [List.pairwise_append, List.pairwise_append]
    refine ⟨⟨s1, List.pairwise_singleton _ _, fun a ha b hb => ?_⟩, s2, fun a ha b hb => ?_⟩
    · rw [List.mem_singleton] at hb
      subst hb
      have hl := d.lt (List.mem_of_mem_take ha)
      by_cases q : lt b a
      · exact .inl q
      · exact .inr ⟨hup a ha, q, hl⟩
    · rcases List.mem_append.mp ha with ha | ha
      · exact s0.2.2 a ha b hb
      · rw [List.mem_singleton] at ha
        subst ha
        exact .inl (low b hb)
theorem wk_int (f : Nat → Int) : Wk (fun a b => f a < f b) := ⟨fun h => by omega, fun h g => by omega⟩

def ltI (ps : List Int) : Nat → Nat → Prop := fun a b => ps.getD a 0 < ps.getD b 0
def sp_dearest_order (K : PySem.W.Frag) : Sp := fun vs H Q _ => ∃ (l : Addr) (ps : List Int), vs = [.ref l] ∧ SqL K H l (ps.map V.int) ∧ ps.length ≤ 1000 ∧
  ∀ (p : Addr) (H' : Hp) (os : List Nat), H p = none → Ex H H' → H' p = some (.tup ((os.map fun n : Nat => (n : Int)).map V.int)) → DOrd (ltI ps) ps.length os → Q (.ref p) H'
theorem ok_dearest_order (T : Tx K mg) : FnOk P w K mg base (L2.CX P w) 1 (He.ga K "dearest_order") (Z.fdOf K (He.ga K "dearest_order")) ["prices"] (sp_dearest_order K) := by
  refine T.F_dearest_order.ok sc_dearest_order (fun vs H Q E h => ?_) (fun cdv A outer s H vs Q E hr h => ?_)
  · obtain ⟨l, ps, rfl, _⟩ := h
    rfl
  · obtain ⟨l, ps, rfl, hl, hlen, k⟩ := h
    refine ⟨_, PSs.nox (pss_cons (ps_set (i := 1) sc_dearest_order.nd rfl (Or.inl rfl) (pe_lst pa_nil))
      (pss_cons (ps_for PassesOwn.never rfl (pi_enum (by rfl) T.n_enumerate (pa_cons (pv 0) pa_nil)) (pg_tup (by rfl) (pgs_cons (pg_name (i := 2) sc_dearest_order.nd rfl (by first | exact Or.inl rfl | exact Or.inr rfl)) (pgs_cons (pg_name (i := 3) sc_dearest_order.nd rfl (by first | exact Or.inl rfl | exact Or.inr rfl)) pgs_nil))) (pss_cons (ps_set (i := 4) sc_dearest_order.nd rfl (Or.inl rfl) (pe_callB (Z.call_len (K := K) rfl) (by rfl) T.n_len (by decide +kernel) (pa_cons (pv 1) pa_nil)))
      (pss_cons (ps_while PassesOwn.never (PW.pt (pw_and (pt_cmpR Z.op_gt (pv 4) pe_int (nomark _)) (pw_and1 (pt_cmpR Z.op_lt (pe_ix (Z.ix (K := K) rfl) (pv 0) (pe_ix (Z.ix (K := K) rfl) (pv 1) (pe_op Z.op_sub (pv 4) pe_int) (fun _ _ => rfl)) (fun _ _ => rfl)) (pv 3) (nomark _))))) (pss_one (ps_aug (i := 4) sc_dearest_order.nd rfl (Or.inl rfl) pe_int ip_sub)))
      (pss_one (ps_expr (pe_bm PySem.F.plainAttrs_list PySem.F.slot_list_insert PySem.F.type_list_insert Z.mt_ins (pv 1) (pa_cons (pv 4) (pa_cons (pv 2) pa_nil))))))))
      (pss_one (ps_ret (pe_callTy (Z.call_tuple (K := K) rfl) (by rfl) T.n_tuple (by decide +kernel) (pa_cons (pv 1) pa_nil)))))), ?_⟩
    try dsimp only [cxOf, Cx.nox, Cx.wish]
    walk_at "go"
    rename_i F H1 hF e1 h1 J S
    refine Z.fg S (fun i σ H' => ∃ (os : List Nat) (v2 v3 v4 : Option V), σ = [some (.ref l), some (.ref F), v2, v3, v4] ∧ Ex H H' ∧ H' F = some (.lst ((os.map fun n : Nat => (n : Int)).map V.int)) ∧ DOrd (ltI ps) i os)
      ⟨[], none, none, none, rfl, e1, h1, DOrd.nil _⟩ (fun i σ' H' _ ⟨_, _, _, _, _, e, _⟩ => by walk_at "fx") ?_ ?_
    · rintro i x σ' H' H'' hi ⟨os, v2, v3, v4, rfl, e, hF2, d⟩ e2 ⟨T2, y, rfl, hT, hy⟩
      rw [List.length_map] at hi
      rw [List.getElem?_map, List.getElem?_eq_getElem hi] at hy
      obtain rfl := (Option.some.inj hy).symm
      have hF3 := e2.get hF2
      walk_at "go"
      have hol : os.length = i := d.len
      refine Z.w_while (fun m σ G => σ = [some (.ref l), some (.ref F), some (.int (i : Nat)), some (.int ps[i]), some (.int (m : Nat))] ∧ G = H'' ∧ m ≤ os.length ∧ ∀ x ∈ os.drop m, ltI ps x i) os.length ⟨by simp, rfl, Nat.le_refl _, by simp⟩ ?_
      rintro m σ' G ⟨rfl, rfl, hm, hlow⟩
      have hend : (∀ x ∈ os.drop m, ltI ps x i) → (m = 0 ∨ ∃ x, os[m - 1]? = some x ∧ ¬ ltI ps x i) → DOrd (ltI ps) (i + 1) (os.take m ++ [i] ++ os.drop m) := fun a b => d.ins (wk_int _) hm a b
      have ep : ps.getD i 0 = ps[i] := getD_get _ _ _ hi
      have cast : ∀ m, ((os.map fun n : Nat => (n : Int)).map V.int).take m ++ [V.int (i : Nat)] ++ ((os.map fun n : Nat => (n : Int)).map V.int).drop m = ((os.take m ++ [i] ++ os.drop m).map fun n : Nat => (n : Int)).map V.int := fun m => by
        simp only [List.map_append, List.map_take, List.map_drop]; rfl
      walk_at "go"
      refine Z.w_dec (fun h0 => ?_) (fun h0 => ?_)
      · have em : ((m : Int) - 1).toNat = m - 1 := by omega
        have hm1 : m - 1 < os.length := by omega
        have hb : (os.getD (m - 1) 0) < ps.length := by
          rw [getD_get _ _ _ hm1]
          have := d.lt (List.getElem_mem hm1)
          omega
        walk_at "go"
        rw [← ep]
        refine Z.wb_dec (fun h3 => ?_) (fun h3 => ?_)
        · walk_at "go"
          refine ⟨m - 1, by omega, by rw [← em]; simp; omega, rfl, by omega, fun x hx => ?_⟩
          have ed : os.drop (m - 1) = os[m - 1] :: os.drop m := by
            rw [List.drop_eq_getElem_cons hm1, show m - 1 + 1 = m by omega]
          rw [ed] at hx
          rcases List.mem_cons.mp hx with rfl | hx
          · rw [getD_get _ _ _ hm1] at h3
            exact h3
          · exact hlow x hx
        · walk_at "go"
          rename_i H2 hp hk ho hke
          refine ⟨_, _, _, _, rfl, hke, by rw [hp, cast], hend hlow (.inr ⟨os[m - 1], List.getElem?_eq_getElem hm1, ?_⟩)⟩
          rw [getD_get _ _ _ hm1] at h3
          exact h3
      · have e0 : m = 0 := by omega
        subst e0
        walk_at "go"
        rename_i H2 hp hk ho hke
        exact ⟨_, _, _, _, rfl, hke, by rw [hp, cast], hend hlow (.inl rfl)⟩
    · rintro σ' H' ⟨os, v2, v3, v4, rfl, e, hF2, d⟩
      walk_at "go"
      rename_i p H2 hn he hp
      rw [List.length_map] at d
      exact k p H2 os (e.back hn) (e.trans he) hp d

/-- a cell of the script, or 0: some int -/
def sp__law_cell (K : PySem.W.Frag) : Sp := fun vs H Q _ => ∃ (l : Addr) (ns : List Int) (j : Int), vs = [.ref l, .int j] ∧ SqL K H l (ns.map V.int) ∧ 0 ≤ j ∧ ∀ i : Int, Q (.int i) H
theorem ok__law_cell (T : Tx K mg) : FnOk P w K mg base (L2.CX P w) 1 (He.ga K "_law_cell") (Z.fdOf K (He.ga K "_law_cell")) ["_law_script", "_law_place"] (sp__law_cell K) := by
  refine T.F__law_cell.ok sc__law_cell (fun vs H Q E h => ?_) (fun cdv A outer s H vs Q E hr h => ?_)
  · obtain ⟨l, ns, j, rfl, _⟩ := h
    rfl
  · obtain ⟨l, ns, j, rfl, hl, hj, k⟩ := h
    refine ⟨_, PSs.nox (pss_cons (ps_if (pt_cmpR Z.op_lt (pv 1) (pe_callB (Z.call_len (K := K) rfl) (by rfl) T.n_len (by decide +kernel) (pa_cons (pv 0) pa_nil)) (nomark _)) (pss_one (ps_ret (pe_callTy Z.call_int (by rfl) T.n_int (by decide +kernel) (pa_cons (pe_ix (Z.ix (K := K) rfl) (pv 0) (pv 1) (fun _ _ => rfl)) pa_nil)))) pss_nil)
      (pss_one (ps_ret pe_int))), ?_⟩
    try dsimp only [cxOf, Cx.nox, Cx.wish]
    walk_at "go"
    refine Z.w_dec (fun hc => ?_) (fun hc => ?_)
    · rw [List.length_map] at hc
      walk_at "go"
      exact k _
    · walk_at "go"
      exact k _

/-- as many numbers as sizes, each below its size -/
def Dr (sz ds : List Int) : Prop := ds.length = sz.length ∧ ∀ k, k < ds.length → 0 ≤ ds.getD k 0 ∧ ds.getD k 0 < sz.getD k 0
def sp__law_draws (K : PySem.W.Frag) : Sp := fun vs H Q _ => ∃ (c : Int) (l : Addr) (sz : List Int), vs = [.int c, .ref l] ∧ SqL K H l (sz.map V.int) ∧ sz.length ≤ 100000 ∧ (∀ z ∈ sz, 0 < z ∧ z < 2 ^ 250) ∧
  ∀ (p : Addr) (H' : Hp) (ds : List Int), H p = none → Ex H H' → H' p = some (.lst (ds.map V.int)) → Dr sz ds → Q (.ref p) H'
theorem dr_snoc {sz ds : List Int} {z : Int} (hl : ds.length < sz.length) (h : ∀ k, k < ds.length → 0 ≤ ds.getD k 0 ∧ ds.getD k 0 < sz.getD k 0) (h0 : 0 ≤ z) (h1 : z < sz.getD ds.length 0) :
    ∀ k, k < (ds ++ [z]).length → 0 ≤ (ds ++ [z]).getD k 0 ∧ (ds ++ [z]).getD k 0 < sz.getD k 0 := by
  intro k hk
  rw [List.length_append] at hk
  by_cases e : k < ds.length
  · have := h k e
    simp only [List.getD_eq_getElem?_getD, List.getElem?_append_left e] at this ⊢
    exact this
  · have ek : k = ds.length := by simp at hk; omega
    subst ek
    simp only [List.getD_eq_getElem?_getD] at h1 ⊢
    simp [h0, h1]
theorem ok__law_draws (T : Tx K mg) : FnOk P w K mg base (L2.CX P w) 1 (He.ga K "_law_draws") (Z.fdOf K (He.ga K "_law_draws")) ["_law_cell_here", "_law_sizes"] (sp__law_draws K) := by
  refine T.F__law_draws.ok sc__law_draws (fun vs H Q E h => ?_) (fun cdv A outer s H vs Q E hr h => ?_)
  · obtain ⟨c, l, sz, rfl, _⟩ := h
    rfl
  · obtain ⟨c, l, sz, rfl, hl, hz, hp, k⟩ := h
    have gp : ∀ i, i < sz.length → 0 < sz.getD i 0 ∧ sz.getD i 0 < 2 ^ 250 := fun i hi => by
      rw [List.getD_eq_getElem?_getD, List.getElem?_eq_getElem hi]
      exact hp _ (List.getElem_mem hi)
    refine ⟨_, PSs.nox (pss_cons (ps_if (pt_cmpR (Z.op_eq (K := K) rfl hr.units) (pv 0) pe_int (nomark _)) (pss_one (ps_ret (pe_lc (own := [("_law_size", 4)]) rfl sc__law_draws.nd (Z.piL (K := K) rfl (pv 1)) (blkOk_by (N := ["_law_cell_here", "_law_sizes", "_law_left", "_law_found", "_law_size", "_law_k", "_law_low", "_law_high"]) (sc := defScope s__law_draws) (by decide +kernel)) (fun _ _ _ _ _ => (pg_name (i := 4) sc__law_draws.nd rfl (by first | exact Or.inl rfl | exact Or.inr rfl))) (fun _ _ _ _ _ => pts_nil) (fun _ _ _ _ _ => pe_int)))) pss_nil)
      (pss_cons (ps_if (pt_cmpR Z.op_ge (pv 0) (pe_op op_pow pe_int pe_int) (nomark _)) (pss_cons (ps_set (i := 2) sc__law_draws.nd rfl (Or.inl rfl) (pe_op Z.op_sub (pv 0) (pe_op op_pow pe_int pe_int)))
      (pss_cons (ps_set (i := 3) sc__law_draws.nd rfl (Or.inl rfl) (pe_lst pa_nil))
      (pss_cons (ps_for PassesOwn.never rfl (Z.piL (K := K) rfl (pv 1)) (pg_name (i := 4) sc__law_draws.nd rfl (by first | exact Or.inl rfl | exact Or.inr rfl)) (pss_cons (ps_expr (pe_bm PySem.F.plainAttrs_list PySem.F.slot_list_append PySem.F.type_list_append mt_append (pv 3) (pa_cons (pe_op Z.op_mod (pe_callTy Z.call_int (by rfl) T.n_int (by decide +kernel) (pa_cons (pv 2) pa_nil)) (pv 4)) pa_nil)))
      (pss_one (ps_set (i := 2) sc__law_draws.nd rfl (Or.inl rfl) (pe_op Z.op_fdiv (pv 2) (pv 4))))))
      (pss_one (ps_ret (pv 3)))))) pss_nil)
      (pss_cons (ps_set (i := 3) sc__law_draws.nd rfl (Or.inl rfl) (pe_lst pa_nil))
      (pss_cons (ps_for PassesOwn.never rfl (pi_range1 (by rfl) T.n_range (pa_cons (pe_callB (Z.call_len (K := K) rfl) (by rfl) T.n_len (by decide +kernel) (pa_cons (pv 1) pa_nil)) pa_nil)) (pg_name (i := 5) sc__law_draws.nd rfl (by first | exact Or.inl rfl | exact Or.inr rfl)) (pss_cons (ps_set (i := 6) sc__law_draws.nd rfl (Or.inl rfl) (pe_op Z.op_mod (pe_callTy Z.call_int (by rfl) T.n_int (by decide +kernel) (pa_cons (pe_op Z.op_add (pe_op Z.op_mul (pv 0) pe_int) (pe_op Z.op_mul (pe_op Z.op_add (pv 5) pe_int) pe_int)) pa_nil)) pe_int))
      (pss_cons (ps_set (i := 6) sc__law_draws.nd rfl (Or.inl rfl) (pe_op Z.op_mod (pe_callTy Z.call_int (by rfl) T.n_int (by decide +kernel) (pa_cons (pe_op Z.op_add (pe_op Z.op_mul (pv 6) pe_int) (pe_op Z.op_mul (pe_op Z.op_add (pv 5) pe_int) pe_int)) pa_nil)) pe_int))
      (pss_cons (ps_set (i := 7) sc__law_draws.nd rfl (Or.inl rfl) (pe_op Z.op_mod (pe_callTy Z.call_int (by rfl) T.n_int (by decide +kernel) (pa_cons (pe_op Z.op_add (pe_op Z.op_mul (pv 0) pe_int) (pe_op Z.op_mul (pe_op Z.op_add (pv 5) pe_int) pe_int)) pa_nil)) pe_int))
      (pss_cons (ps_set (i := 7) sc__law_draws.nd rfl (Or.inl rfl) (pe_op Z.op_mod (pe_callTy Z.call_int (by rfl) T.n_int (by decide +kernel) (pa_cons (pe_op Z.op_add (pe_op Z.op_mul (pv 7) pe_int) (pv 6)) pa_nil)) pe_int))
      (pss_one (ps_expr (pe_bm PySem.F.plainAttrs_list PySem.F.slot_list_append PySem.F.type_list_append mt_append (pv 3) (pa_cons (pe_op Z.op_mod (pe_callTy Z.call_int (by rfl) T.n_int (by decide +kernel) (pa_cons (pe_op Z.op_add (pe_op Z.op_mul (pv 7) pe_int) (pv 6)) pa_nil)) (pe_ix (Z.ix (K := K) rfl) (pv 1) (pv 5) (fun _ _ => rfl))) pa_nil)))))))))
      (pss_one (ps_ret (pv 3))))))), ?_⟩
    try dsimp only [cxOf, Cx.nox, Cx.wish]
    walk_at "go"
    refine Z.w_dec (fun hc => ?_) (fun hc => ?_)
    · walk_at "go"
      refine Z.cgF (by assumption) (fun _ => .int 0) (fun H' e => by walk_at "fx") (by walk_at "sz") (fun Dl i x H' hi c y => ?_) (fun p H2 hn he hp => ?_) rfl
      · walk_at "go"
      · refine k p H2 (List.replicate sz.length 0) hn he ?_ ⟨List.length_replicate, fun i hi => ?_⟩
        · rw [hp]
          congr 2
          rw [List.map_replicate]
          apply List.ext_getElem
          · simp
          · intro i h1 h2; simp
        · rw [List.length_replicate] at hi
          simp only [List.getD_eq_getElem?_getD, List.getElem?_replicate, hi, if_true, Option.getD_some]
          have := (gp i hi).1
          rw [List.getD_eq_getElem?_getD] at this
          exact ⟨Int.le_refl 0, this⟩
    · walk_at "go"
      refine Z.w_dec (fun hd => ?_) (fun hd => ?_)
      · walk_at "go"
        rename_i F H1 hF e1 h1 J S
        refine Z.fg S (fun i σ H' => ∃ (left : Int) (ds : List Int) (v : Option V), σ = [some (.int c), some (.ref l), some (.int left), some (.ref F), v, none, none, none] ∧ Ex H H' ∧ H' F = some (.lst (ds.map V.int)) ∧ ds.length = i ∧ ∀ k, k < ds.length → 0 ≤ ds.getD k 0 ∧ ds.getD k 0 < sz.getD k 0)
          ⟨_, [], none, rfl, e1, h1, rfl, fun k hk => absurd hk (by simp)⟩ (fun i σ' H' _ ⟨_, _, _, _, e, _⟩ => by walk_at "fx") ?_ ?_
        · rintro i x σ' H' H'' hi ⟨left, ds, v, rfl, e, hds, hlen, hall⟩ e2 hx
          rw [List.length_map] at hi
          rw [List.getElem?_map, List.getElem?_eq_getElem hi] at hx
          obtain rfl := (Option.some.inj hx).symm
          have g0 := gp i hi
          have ei : sz.getD i 0 = sz[i] := by rw [List.getD_eq_getElem?_getD, List.getElem?_eq_getElem hi]; rfl
          rw [ei] at g0
          have hds2 := e2.get hds
          have hdv : CDivW left sz[i] := wide_div (b := 250) g0.1 (by have := g0.2; have := g0.1; omega) (by decide) (by decide)
          walk_at "go"
          rename_i H2 hp2 hk2 ho2 hke
          refine ⟨_, ds ++ [left % sz[i]], some _, rfl, hk2 _ (e.trans e2) hF, by rw [hp2, List.map_append]; rfl, by simp [hlen], dr_snoc (by omega) hall (Int.emod_nonneg _ (by omega)) ?_⟩
          rw [hlen, ei]
          exact Int.emod_lt_of_pos _ g0.1
        · rintro σ' H' ⟨left, ds, v, rfl, e, hds, hlen, hall⟩
          walk_at "go"
          exact k F H' ds hF e hds ⟨by simpa using hlen, hall⟩
      · walk_at "go"
        rename_i F H1 hF e1 h1 J S
        refine Z.fg S (fun i σ H' => ∃ (ds : List Int) (v5 v6 v7 : Option V), σ = [some (.int c), some (.ref l), none, some (.ref F), none, v5, v6, v7] ∧ Ex H H' ∧ H' F = some (.lst (ds.map V.int)) ∧ ds.length = i ∧ ∀ k, k < ds.length → 0 ≤ ds.getD k 0 ∧ ds.getD k 0 < sz.getD k 0)
          ⟨[], none, none, none, rfl, e1, h1, rfl, fun k hk => absurd hk (by simp)⟩ (fun i σ' H' _ _ => trivial) ?_ ?_
        · rintro i x σ' H' H'' hi ⟨ds, v5, v6, v7, rfl, e, hds, hlen, hall⟩ e2 rfl
          have hi' : i < sz.length := by simpa using hi
          have g0 := gp i hi'
          have hds2 := e2.get hds
          have g1 : 0 < sz.getD (Int.toNat (i : Int)) 0 := by rw [Int.toNat_natCast]; exact g0.1
          walk_at "go"
          rename_i H2 hp2 hk2 ho2 hke
          refine ⟨ds ++ [_], some _, some _, some _, rfl, hk2 _ (e.trans e2) hF, by rw [hp2, List.map_append]; rfl, by simp [hlen], dr_snoc (by omega) hall (Int.emod_nonneg _ (by omega)) ?_⟩
          rw [hlen]
          exact Int.emod_lt_of_pos _ g1
        · rintro σ' H' ⟨ds, v5, v6, v7, rfl, e, hds, hlen, hall⟩
          walk_at "go"
          exact k F H' ds hF e hds ⟨by simpa using hlen, hall⟩

def sp__law_row (K : PySem.W.Frag) : Sp := fun vs H Q _ => ∃ (c n : Int), vs = [.int c, .int n] ∧ 0 ≤ n ∧ n ≤ 50000 ∧
  ∀ (p : Addr) (H' : Hp) (ns : List Int), H p = none → Ex H H' → H' p = some (.lst (ns.map V.int)) → ns.length = n.toNat → (∀ x ∈ ns, 0 ≤ x ∧ x < 999999999999999999) → Q (.ref p) H'
theorem ok__law_row (T : Tx K mg) : FnOk P w K mg base (L2.CX P w) 2 (He.ga K "_law_row") (Z.fdOf K (He.ga K "_law_row")) ["_law_cell_here", "_law_count"] (sp__law_row K) := by
  refine T.F__law_row.ok sc__law_row (fun vs H Q E h => ?_) (fun cdv A outer s H vs Q E hr h => ?_)
  · obtain ⟨c, n, rfl, _⟩ := h
    rfl
  · obtain ⟨c, n, rfl, hn0, hn1, k⟩ := h
    refine ⟨_, PSs.nox (pss_cons (ps_set (i := 2) sc__law_row.nd rfl (Or.inl rfl) (pe_call (ok__law_draws T) (hr.mono (by decide)) (by rfl) T.g__law_draws T.F__law_draws.kp T.b__law_draws .nil passL (pa_cons (pv 0) (pa_cons (pe_op Z.op_add (pe_lst (pa_cons pe_int pa_nil)) (pe_lc (own := [("_law_k", 4)]) rfl sc__law_row.nd (pi_range1 (by rfl) T.n_range (pa_cons (pv 1) pa_nil)) (blkOk_by (N := ["_law_cell_here", "_law_count", "_law_drawn", "_law_bound", "_law_k", "_law_value"]) (sc := defScope s__law_row) (by decide +kernel)) (fun _ _ _ _ _ => (pg_name (i := 4) sc__law_row.nd rfl (by first | exact Or.inl rfl | exact Or.inr rfl))) (fun _ _ _ _ _ => pts_nil) (fun _ _ _ _ _ => (pe_op op_pow pe_int pe_int)))) pa_nil))))
      (pss_cons (ps_set (i := 3) sc__law_row.nd rfl (Or.inr rfl) (pe_ix (Z.ix (K := K) rfl) (pe_lst (pa_cons pe_int (pa_cons pe_int (pa_cons (pe_op op_pow pe_int pe_int) (pa_cons (pe_op Z.op_sub (pe_op op_pow pe_int pe_int) pe_int) pa_nil))))) (pe_ix (Z.ix (K := K) rfl) (pv 2) pe_int (fun _ _ => rfl)) (fun _ _ => rfl)))
      (pss_one (ps_ret (pe_lc (own := [("_law_value", 5)]) rfl sc__law_row.nd (Z.piL (K := K) rfl (pe_slice (Z.slL (K := K) rfl) (pv 2) (po_some pe_int) po_none)) (blkOk_by (N := ["_law_cell_here", "_law_count", "_law_drawn", "_law_bound", "_law_k", "_law_value"]) (sc := defScope s__law_row) (by decide +kernel)) (fun _ _ _ _ _ => (pg_name (i := 5) sc__law_row.nd rfl (by first | exact Or.inl rfl | exact Or.inr rfl))) (fun _ _ _ _ _ => pts_nil) (fun _ _ _ _ _ => (pe_op Z.op_mod (pe_callTy Z.call_int (by rfl) T.n_int (by decide +kernel) (pa_cons (pv 5) pa_nil)) (pv 3)))))))), ?_⟩
    try dsimp only [cxOf, Cx.nox, Cx.wish]
    walk_at "go"
    refine Z.cgI (by assumption) (fun _ => 1000000000000000000) (fun H' e => trivial) (by walk_at "sz") (fun Dl i x H' hi c y => ?_) (fun p2 H3 hn3 he3 hp3 => ?_) rfl
    · walk_at "go"
    · walk_at "go"
      rename_i p0 H2 hn2 he2 hp2 J S p4 H4 hn4 he4 hp4
      refine ⟨c, p4, 4 :: (List.range n.toNat).map (fun _ => 1000000000000000000), rfl, Z.sq_of hp4, by simp; omega, ?_, fun p5 H5 ds hn5 he5 hp5 hd => ?_⟩
      · intro z hz
        rcases List.mem_cons.mp hz with rfl | hz
        · exact ⟨by decide, by omega⟩
        · obtain ⟨_, _, rfl⟩ := List.mem_map.mp hz
          exact ⟨by decide, by omega⟩
      have hl : ds.length = n.toNat + 1 := by rw [hd.1]; simp
      have h0 := hd.2 0 (by omega)
      have h0' : ds.getD 0 0 < 4 := h0.2
      walk_at "go"
      rename_i p6 H6 hn6 he6 hp6
      have hs6 : SqL K H6 p6 (([4, 30, 1000000000, 999999999999999999] : List Int).map V.int) := Z.sq_of hp6
      have h6 : ∀ i : Int, 0 ≤ i → i < 4 → 0 < ([4, 30, 1000000000, 999999999999999999] : List Int).getD i.toNat 0 ∧ ([4, 30, 1000000000, 999999999999999999] : List Int).getD i.toNat 0 ≤ 999999999999999999 := by
        intro i h1 h2
        have : i = 0 ∨ i = 1 ∨ i = 2 ∨ i = 3 := by omega
        rcases this with rfl | rfl | rfl | rfl <;> decide
      have hb := h6 (ds.getD 0 0) h0.1 h0'
      walk_at "go"
      generalize ([4, 30, 1000000000, 999999999999999999] : List Int).getD (ds.getD 0 0).toNat 0 = bd at hb
      rename_i p7 H7 hn7 he7 hp7 J7 S7
      have hlen : (ds.drop (Int.toNat 1)).length = n.toNat := by simp [hl]
      generalize hds : ds.drop (Int.toNat 1) = es at *
      refine Z.cgI S7 (fun i => es.getD i 0 % bd) (fun H' e => by walk_at "fx") (by rw [List.length_map, hlen]; show _ ≤ 16777216; omega) (fun Dl i x H' hi c y => ?_) (fun p8 H8 hn8 he8 hp8 => ?_) rfl
      · rw [List.length_map] at hi
        rw [List.getElem?_map, List.getElem?_eq_getElem hi] at y
        obtain rfl := (Option.some.inj y).symm
        have ei : es.getD i 0 = es[i] := by rw [List.getD_eq_getElem?_getD, List.getElem?_eq_getElem hi]; rfl
        rw [ei]
        walk_at "go"
      · rw [List.length_map, hlen] at hp8
        refine k p8 H8 _ ?_ ?_ hp8 (by simp) ?_
        · exact (((((he2.trans he3).trans he4).trans he5).trans he6).trans he7).back hn8
        · walk_at "ex"
        · intro x hx
          obtain ⟨i, _, rfl⟩ := List.mem_map.mp hx
          exact ⟨Int.emod_nonneg _ (by omega), Int.lt_of_lt_of_le (Int.emod_lt_of_pos _ hb.1) hb.2⟩

def sp__law_is_int : Sp := fun vs H Q _ => ∃ i : Int, vs = [.int i] ∧ Q (.bl true) H
theorem ok__law_is_int (T : Tx K mg) : FnOk P w K mg base (L2.CX P w) 1 (He.ga K "_law_is_int") (Z.fdOf K (He.ga K "_law_is_int")) ["_law_x"] sp__law_is_int := by
  refine T.F__law_is_int.ok sc__law_is_int (fun vs H Q E h => ?_) (fun cdv A outer s H vs Q E hr h => ?_)
  · obtain ⟨i, rfl, _⟩ := h
    rfl
  · obtain ⟨i, rfl, k⟩ := h
    refine ⟨_, PSs.nox (pss_one (ps_ret (pe_and (pe_callB (Z.call_isi (K := K) rfl) (by rfl) T.n_isinstance (by decide +kernel) (pa_cons (pv 0) (pa_cons (pe_bltn (v := .ty "int") (u := .type "int") (by rfl) T.n_int (by decide +kernel) rfl) pa_nil))) (pe_one (pe_not (pe_callB (Z.call_isi (K := K) rfl) (by rfl) T.n_isinstance (by decide +kernel) (pa_cons (pv 0) (pa_cons (pe_bltn (v := .ty "bool") (u := .type "bool") (by rfl) T.n_bool (by decide +kernel) rfl) pa_nil)))))))), ?_⟩
    try dsimp only [cxOf, Cx.nox, Cx.wish]
    walk_at "go"
    exact k

def sp__law_right (K : PySem.W.Frag) : Sp := fun vs H Q _ => ∃ (a l : Addr) (os : List Nat) (ps : List Int), vs = [.ref a, .ref l] ∧ H a = some (.tup ((os.map fun n : Nat => (n : Int)).map V.int)) ∧ SqL K H l (ps.map V.int) ∧ ps.length ≤ 1000 ∧ DOrd (ltI ps) ps.length os ∧ ∀ H', Ex H H' → Q (.bl true) H'
theorem ok__law_right (T : Tx K mg) : FnOk P w K mg base (L2.CX P w) 2 (He.ga K "_law_right") (Z.fdOf K (He.ga K "_law_right")) ["_law_order", "_law_prices"] (sp__law_right K) := by
  refine T.F__law_right.ok sc__law_right (fun vs H Q E h => ?_) (fun cdv A outer s H vs Q E hr h => ?_)
  · obtain ⟨a, l, os, ps, rfl, _⟩ := h
    rfl
  · obtain ⟨a, l, os, ps, rfl, ha, hl, hz, d, k⟩ := h
    have hol : os.length = ps.length := d.len
    refine ⟨_, PSs.nox (pss_cons (ps_if (PW.pt (pw_or (pt_not (pt_val (pe_callB (Z.call_isi (K := K) rfl) (by rfl) T.n_isinstance (by decide +kernel) (pa_cons (pv 0) (pa_cons (pe_bltn (v := .ty "tuple") (u := .type "tuple") (by rfl) T.n_tuple (by decide +kernel) rfl) pa_nil))))) (pw_or1 (pt_cmpR (Z.op_ne (K := K) rfl hr.units) (pe_callB (Z.call_len (K := K) rfl) (by rfl) T.n_len (by decide +kernel) (pa_cons (pv 0) pa_nil)) (pe_callB (Z.call_len (K := K) rfl) (by rfl) T.n_len (by decide +kernel) (pa_cons (pv 1) pa_nil)) (nomark _))))) (pss_one (ps_ret pe_bl)) pss_nil)
      (pss_cons (ps_for PassesOwn.never rfl (Z.piT (K := K) rfl (pv 0)) (pg_name (i := 2) sc__law_right.nd rfl (by first | exact Or.inl rfl | exact Or.inr rfl)) (pss_one (ps_if (pt_not (pt_val (pe_call (ok__law_is_int T) (hr.mono (by decide)) (by rfl) T.g__law_is_int T.F__law_is_int.kp T.b__law_is_int .nil passL (pa_cons (pv 2) pa_nil)))) (pss_one (ps_ret pe_bl)) pss_nil)))
      (pss_cons (ps_for PassesOwn.never rfl (pi_range1 (by rfl) T.n_range (pa_cons (pe_callB (Z.call_len (K := K) rfl) (by rfl) T.n_len (by decide +kernel) (pa_cons (pv 1) pa_nil)) pa_nil)) (pg_name (i := 2) sc__law_right.nd rfl (by first | exact Or.inl rfl | exact Or.inr rfl)) (pss_one (ps_if (pt_cmpR (Z.op_notin (K := K) rfl) (pv 2) (pv 0) (by rfl)) (pss_one (ps_ret pe_bl)) pss_nil)))
      (pss_cons (ps_for PassesOwn.never rfl (pi_range2 (by rfl) T.n_range (pa_cons pe_int (pa_cons (pe_callB (Z.call_len (K := K) rfl) (by rfl) T.n_len (by decide +kernel) (pa_cons (pv 0) pa_nil)) pa_nil))) (pg_name (i := 3) sc__law_right.nd rfl (by first | exact Or.inl rfl | exact Or.inr rfl)) (pss_cons (ps_set (i := 4) sc__law_right.nd rfl (Or.inl rfl) (pe_ix (Z.ix (K := K) rfl) (pv 1) (pe_ix (Z.ix (K := K) rfl) (pv 0) (pe_op Z.op_sub (pv 3) pe_int) (fun _ _ => rfl)) (fun _ _ => rfl)))
      (pss_one (ps_if (PW.pt (pw_or (pt_cmpR Z.op_lt (pv 4) (pe_ix (Z.ix (K := K) rfl) (pv 1) (pe_ix (Z.ix (K := K) rfl) (pv 0) (pv 3) (fun _ _ => rfl)) (fun _ _ => rfl)) (nomark _)) (pw_or1 (PW.pt (pw_and (pt_cmpR (Z.op_eq (K := K) rfl hr.units) (pv 4) (pe_ix (Z.ix (K := K) rfl) (pv 1) (pe_ix (Z.ix (K := K) rfl) (pv 0) (pv 3) (fun _ _ => rfl)) (fun _ _ => rfl)) (nomark _)) (pw_and1 (pt_cmpR Z.op_gt (pe_ix (Z.ix (K := K) rfl) (pv 0) (pe_op Z.op_sub (pv 3) pe_int) (fun _ _ => rfl)) (pe_ix (Z.ix (K := K) rfl) (pv 0) (pv 3) (fun _ _ => rfl)) (nomark _)))))))) (pss_one (ps_ret pe_bl)) pss_nil))))
      (pss_one (ps_ret pe_bl)))))), ?_⟩
    try dsimp only [cxOf, Cx.nox, Cx.wish]
    walk_at "go"
    walk_at "run"
    refine Z.fg (by assumption) (fun i σ G => ∃ v2, σ = [some (.ref a), some (.ref l), v2, none, none] ∧ Ex H G) ⟨none, rfl, Ex.refl _⟩ (fun i σ' G _ ⟨_, _, e⟩ => by walk_at "fx") ?_ ?_
    · rintro i x σ' G G2 hi ⟨v2, rfl, e⟩ e2 hx
      obtain ⟨_, rfl⟩ := get_int hx
      walk_at "run"
      refine ⟨_, rfl, ?_⟩
      walk_at "run"
      exact ⟨_, rfl, e.trans e2⟩
    rintro σ' G ⟨v2, rfl, e⟩
    walk_at "run"
    refine Z.fg (by assumption) (fun i σ G => ∃ v2, σ = [some (.ref a), some (.ref l), v2, none, none] ∧ Ex H G) ⟨_, rfl, e⟩ (fun i σ' G _ _ => trivial) ?_ ?_
    · rintro i x σ' G G2 hi ⟨v2, rfl, e⟩ e2 rfl
      have hi' : i < ps.length := by simpa using hi
      have hm : (i : Int) ∈ os.map (fun n : Nat => (n : Int)) := List.mem_map.mpr ⟨i, d.mem hi', rfl⟩
      walk_at "run"
      exact ⟨_, rfl, e.trans e2⟩
    rintro σ' G ⟨v2, rfl, e⟩
    walk_at "run"
    refine Z.fg (by assumption) (fun i σ G => ∃ v3 v4, σ = [some (.ref a), some (.ref l), v2, v3, v4] ∧ Ex H G) ⟨_, _, rfl, e⟩ (fun i σ' G _ _ => trivial) ?_ ?_
    · rintro i x σ' G G2 hi ⟨v3, v4, rfl, e⟩ e2 rfl
      have hi' : i + 1 < os.length := by simp at hi; omega
      have r := List.pairwise_iff_getElem.mp d.srt i (i + 1) (by omega) hi' (by omega)
      have e1 : (1 + (i : Int) - 1).toNat = i := by omega
      have e3 : (1 + (i : Int)).toNat = i + 1 := by omega
      have b1 : os.getD i 0 < ps.length := by rw [getD_get _ _ _ (by omega)]; exact d.lt (List.getElem_mem _)
      have b2 : os.getD (i + 1) 0 < ps.length := by rw [getD_get _ _ _ (by omega)]; exact d.lt (List.getElem_mem _)
      rw [← getD_get _ _ 0 (by omega), ← getD_get _ _ 0 (by omega)] at r
      unfold Ahd ltI at r
      walk_at "run"
      by_cases q1 : ps.getD (os.getD i 0) 0 = ps.getD (os.getD (i + 1) 0) 0
      · walk_at "run"
        exact ⟨_, _, rfl, e.trans e2⟩
      · walk_at "run"
        exact ⟨_, _, rfl, e.trans e2⟩
    rintro σ' G ⟨v3, v4, rfl, e⟩
    walk_at "run"
    exact k _ e

def sp_law (K : PySem.W.Frag) : Sp := fun vs H Q _ => ∃ (a : Addr) (ns : List Int), vs = [.ref a] ∧ SqL K H a (ns.map V.int) ∧ ∀ H', Q (.bl true) H'
theorem ok_law (T : Tx K mg) : FnOk P w K mg base CX0 3 (He.ga K "law") (Z.fdOf K (He.ga K "law")) ["_law_script"] (sp_law K) := by
  refine T.F_law.ok sc_law (fun vs H Q E h => ?_) (fun cdv A outer s H vs Q E hr h => ?_)
  · obtain ⟨a, ns, rfl, _⟩ := h
    rfl
  · obtain ⟨a, ns, rfl, hS, k⟩ := h
    refine ⟨_, PSs.nox (pss_cons (ps_set (i := 1) sc_law.nd rfl (Or.inl rfl) (pe_call (ok__law_draws T) (hr.mono (by decide)) (by rfl) T.g__law_draws T.F__law_draws.kp T.b__law_draws .nil passL (pa_cons (pe_call (ok__law_cell T) (hr.mono (by decide)) (by rfl) T.g__law_cell T.F__law_cell.kp T.b__law_cell .nil passL (pa_cons (pv 0) (pa_cons pe_int pa_nil))) (pa_cons (pe_lst (pa_cons pe_int (pa_cons pe_int (pa_cons pe_int (pa_cons pe_int (pa_cons pe_int pa_nil)))))) pa_nil))))
      (pss_cons (ps_set (i := 2) sc_law.nd rfl (Or.inl rfl) (pe_ix (Z.ix (K := K) rfl) (pv 1) pe_int (fun _ _ => rfl)))
      (C8.pss_cut (ps_if (pt_cmpR (Z.op_eq (K := K) rfl hr.units) (pe_ix (Z.ix (K := K) rfl) (pv 1) pe_int (fun _ _ => rfl)) pe_int (nomark _)) (pss_one (ps_set (i := 2) sc_law.nd rfl (Or.inl rfl) (pe_ix (Z.ix (K := K) rfl) (pv 1) pe_int (fun _ _ => rfl)))) pss_nil)
      (pss_cons (ps_set (i := 3) sc_law.nd rfl (Or.inr rfl) (pe_call (ok__law_row T) (hr.mono (by decide)) (by rfl) T.g__law_row T.F__law_row.kp T.b__law_row .nil passL (pa_cons (pe_call (ok__law_cell T) (hr.mono (by decide)) (by rfl) T.g__law_cell T.F__law_cell.kp T.b__law_cell .nil passL (pa_cons (pv 0) (pa_cons pe_int pa_nil))) (pa_cons (pv 2) pa_nil))))
      (C8.pss_cut (ps_if (PW.pt (pw_and (pt_cmpR (Z.op_eq (K := K) rfl hr.units) (pe_ix (Z.ix (K := K) rfl) (pv 1) pe_int (fun _ _ => rfl)) pe_int (nomark _)) (pw_and1 (pt_cmpR Z.op_gt (pv 2) pe_int (nomark _))))) (pss_cons (ps_set (i := 4) sc_law.nd rfl (Or.inr rfl) (pe_op Z.op_mod (pe_callTy Z.call_int (by rfl) T.n_int (by decide +kernel) (pa_cons (pe_ix (Z.ix (K := K) rfl) (pv 1) pe_int (fun _ _ => rfl)) pa_nil)) (pv 2)))
      (pss_one (ps_set (i := 3) sc_law.nd rfl (Or.inr rfl) (pe_op Z.op_add (pe_slice (Z.slL (K := K) rfl) (pv 3) po_none (po_some (pv 4))) (pe_lc (own := [("_law_k", 6)]) rfl sc_law.nd (pi_range1 (by rfl) T.n_range (pa_cons (pe_op Z.op_sub (pv 2) (pv 4)) pa_nil)) (blkOk_by (N := ["_law_script", "_law_ways", "_law_many", "_law_prices", "_law_place", "_law_passed", "_law_k"]) (sc := defScope s_law) (by decide +kernel)) (fun _ _ _ _ _ => (pg_name (i := 6) sc_law.nd rfl (by first | exact Or.inl rfl | exact Or.inr rfl))) (fun _ _ _ _ _ => pts_nil) (fun _ _ _ _ _ => (pe_ix (Z.ix (K := K) rfl) (pv 3) (pv 4) (fun _ _ => rfl)))))))) pss_nil)
      (pss_cons (ps_set (i := 5) sc_law.nd rfl (Or.inl rfl) (pe_callTy (Z.call_list (K := K) rfl) (by rfl) T.n_list (by decide +kernel) (pa_cons (pv 3) pa_nil)))
      (pss_cons (ps_if (pt_not (pt_val (pe_call (ok__law_right T) (hr.mono (by decide)) (by rfl) T.g__law_right T.F__law_right.kp T.b__law_right .nil passL (pa_cons (pe_call (ok_dearest_order T) (hr.mono (by decide)) (by rfl) T.g_dearest_order T.F_dearest_order.kp T.b_dearest_order .nil passL (pa_cons (pv 5) pa_nil)) (pa_cons (pv 3) pa_nil))))) (pss_one (ps_ret pe_bl)) pss_nil)
      (pss_one (ps_ret (pe_and (pe_cmpR (Z.op_eq (K := K) rfl hr.units) (pv 5) (pv 3) (nomark _)) (pe_one (pe_call (ok__law_right T) (hr.mono (by decide)) (by rfl) T.g__law_right T.F__law_right.kp T.b__law_right .nil passL (pa_cons (pe_call (ok_dearest_order T) (hr.mono (by decide)) (by rfl) T.g_dearest_order T.F_dearest_order.kp T.b_dearest_order .nil passL (pa_cons (pv 5) pa_nil)) (pa_cons (pv 3) pa_nil)))))))))))))), ?_⟩
    try dsimp only [cxOf, Cx.nox, Cx.wish]
    walk_at "go"
    refine ⟨a, ns, _, rfl, hS, by decide, fun c => ?_⟩
    walk_at "go"
    rename_i p1 H1 hn1 he1 hp1
    refine ⟨c, p1, [4, 61, 7, 3, 60], rfl, sq_of hp1, by decide, by decide, fun p2 H2 ds hn2 he2 hp2 hd => ?_⟩
    have hl : ds.length = 5 := hd.1
    have b1 := hd.2 1 (by omega)
    have b2 := hd.2 2 (by omega)
    have b4 := hd.2 4 (by omega)
    simp only [List.getD_cons_succ, List.getD_cons_zero] at b1 b2 b4
    walk_at "go"
    refine Z.w_cut (fun σ' G => ∃ m : Int, 0 ≤ m ∧ m ≤ 60 ∧ G = H2 ∧ σ' = [some (.ref a), some (.ref p2), some (.int m), none, none, none, none]) ?_ ?_
    · walk_at "go"
      refine Z.w_dec (fun hc => ?_) (fun hc => ?_)
      · walk_at "go"
        exact ⟨ds.getD 1 0, by omega, by omega, rfl, rfl⟩
      · walk_at "go"
        exact ⟨ds.getD 2 0, by omega, by omega, rfl, rfl⟩
    rintro σ' G ⟨m, hm0, hm1, rfl, rfl⟩
    walk_at "go"
    refine ⟨a, ns, _, rfl, by walk_at "fx", by decide, fun c2 => ?_⟩
    walk_at "go"
    refine ⟨c2, m, rfl, hm0, by omega, fun p3 H3 ps hn3 he3 hp3 hps _ => ?_⟩
    walk_at "go"
    refine Z.w_cut (fun σ' G => ∃ (p : Addr) (qs : List Int) (v4 : Option V), Ex H3 G ∧ G p = some (.lst (qs.map V.int)) ∧ qs.length ≤ 1000 ∧ σ' = [some (.ref a), some (.ref p2), some (.int m), some (.ref p), v4, none, none]) ?_ ?_
    · walk_at "go"
      refine Z.w_dec (fun hc => ?_) (fun hc => ?_)
      · walk_at "go"
        refine Z.w_dec (fun hc2 => ?_) (fun hc2 => ?_)
        · have hr0 := Int.emod_nonneg (ds.getD 4 0) (show m ≠ 0 by omega)
          have hr1 := Int.emod_lt_of_pos (ds.getD 4 0) hc2
          walk_at "go"
          refine Z.cgI (by assumption) (fun _ => ps.getD (ds.getD 4 0 % m).toNat 0) (fun _ _ => trivial) (by walk_at "sz") (fun Dl i x H' hi c y => ?_) (fun p5 H5 hn5 he5 hp5 => ?_) rfl
          · have hcx := c.ex
            walk_at "go"
          · walk_at "go"
            rename_i p4 H4 hn4 he4 hp4 J S p6 H6 hn6 he6 hp6
            refine ⟨p6, ps.take (ds.getD 4 0 % m).toNat ++ (List.range (m - ds.getD 4 0 % m).toNat).map (fun _ => ps.getD (ds.getD 4 0 % m).toNat 0), some _, by walk_at "ex", by rw [hp6, ← List.map_append], ?_, rfl⟩
            simp only [List.length_append, List.length_take, List.length_map, List.length_range]
            omega
        · walk_at "go"
          exact ⟨p3, ps, none, Ex.refl _, hp3, by omega, rfl⟩
      · walk_at "go"
        exact ⟨p3, ps, none, Ex.refl _, hp3, by omega, rfl⟩
    rintro σ' G ⟨p, qs, v4, hG, hp, hq, rfl⟩
    walk_at "go"
    rename_i p7 H7 hn7 he7 hp7
    refine ⟨p7, qs, rfl, by walk_at "fx", hq, fun p9 H9 os hn9 he9 hp9 d => ?_⟩
    walk_at "go"
    refine ⟨p9, p, os, qs, rfl, hp9, by walk_at "fx", hq, d, fun H10 e10 => ?_⟩
    walk_at "go"
    refine Z.w_decT rfl ?_
    walk_at "go"
    refine ⟨p7, qs, rfl, by walk_at "fx", hq, fun p11 H11 os2 hn11 he11 hp11 d2 => ?_⟩
    walk_at "go"
    exact ⟨p11, p, os2, qs, rfl, hp11, by walk_at "fx", hq, d2, fun H12 e12 => k _⟩

def d__law_cell : He.DefD := ⟨("_law_cell", none), "_law_cell", "_law_cell", defArgs s__law_cell, defBody s__law_cell, defScope s__law_cell, [], []⟩
def d__law_draws : He.DefD := ⟨("_law_draws", none), "_law_draws", "_law_draws", defArgs s__law_draws, defBody s__law_draws, defScope s__law_draws, [], []⟩
def d__law_is_int : He.DefD := ⟨("_law_is_int", none), "_law_is_int", "_law_is_int", defArgs s__law_is_int, defBody s__law_is_int, defScope s__law_is_int, [], []⟩
def d__law_right : He.DefD := ⟨("_law_right", none), "_law_right", "_law_right", defArgs s__law_right, defBody s__law_right, defScope s__law_right, [], []⟩
def d__law_row : He.DefD := ⟨("_law_row", none), "_law_row", "_law_row", defArgs s__law_row, defBody s__law_row, defScope s__law_row, [], []⟩
def d_dearest_order : He.DefD := ⟨("dearest_order", none), "dearest_order", "dearest_order", defArgs s_dearest_order, defBody s_dearest_order, defScope s_dearest_order, [], []⟩
def d_law : He.DefD := ⟨("law", none), "law", "law", defArgs s_law, defBody s_law, defScope s_law, [], []⟩
def fn : List He.DefD := [d__law_cell, d__law_draws, d__law_is_int, d__law_right, d__law_row, d_dearest_order, d_law]
def fa : List He.Fa := [.free "bool", .free "enumerate", .free "int", .free "isinstance", .free "len", .free "list", .free "range", .free "tuple", .glo "_law_cell", .glo "_law_draws", .glo "_law_is_int", .glo "_law_right", .glo "_law_row", .glo "dearest_order", .glo "law"]
abbrev Rw : PySem.W.OpenRow := PySem.W.OpenLaw.row PySem.Challenge.rw_dearestshelf_k12_dearest_order
abbrev hk : PySem.W.Hook := He.hookD 5 fa fn
def ob (s : PySem.W.SharedT) : He.AlD := He.obsDG 5 fa fn (HandSHeadRun.getT s)
theorem ob_eq (s : PySem.W.SharedT) : ob s = hk.obs s.abs := He.obsDG_eq (HandSHeadRun.getT_eq s)
theorem run (w : World) : HandSHeadRun.RunEq Rw (PySem.W.view Rw.prog [8]) hk ob 20000 ["dearest_order", "_law_cell", "_law_draws", "_law_row", "_law_is_int", "_law_right"] w := by
  intro os
  kernel_rfl
theorem tx {K : PySem.W.Frag} {h : Heap} {mg : Str → Option Value} (X : K.In h) (G : h.Ns mainGlobals mg) (c : He.SaysD fa fn K) : Tx K mg := by
  have F__law_cell := Z.fd_of (c.def_ 0 (d := d__law_cell) rfl)
  have F__law_draws := Z.fd_of (c.def_ 1 (d := d__law_draws) rfl)
  have F__law_is_int := Z.fd_of (c.def_ 2 (d := d__law_is_int) rfl)
  have F__law_right := Z.fd_of (c.def_ 3 (d := d__law_right) rfl)
  have F__law_row := Z.fd_of (c.def_ 4 (d := d__law_row) rfl)
  have F_dearest_order := Z.fd_of (c.def_ 5 (d := d_dearest_order) rfl)
  have F_law := Z.fd_of (c.def_ 6 (d := d_law) rfl)
  exact {
    n_bool := He.free_ok X G (c.fact 0 (f := .free "bool") rfl)
    n_enumerate := He.free_ok X G (c.fact 1 (f := .free "enumerate") rfl)
    n_int := He.free_ok X G (c.fact 2 (f := .free "int") rfl)
    n_isinstance := He.free_ok X G (c.fact 3 (f := .free "isinstance") rfl)
    n_len := He.free_ok X G (c.fact 4 (f := .free "len") rfl)
    n_list := He.free_ok X G (c.fact 5 (f := .free "list") rfl)
    n_range := He.free_ok X G (c.fact 6 (f := .free "range") rfl)
    n_tuple := He.free_ok X G (c.fact 7 (f := .free "tuple") rfl)
    g__law_cell := He.glo_ok X G (c.fact 8 (f := .glo "_law_cell") rfl)
    g__law_draws := He.glo_ok X G (c.fact 9 (f := .glo "_law_draws") rfl)
    g__law_is_int := He.glo_ok X G (c.fact 10 (f := .glo "_law_is_int") rfl)
    g__law_right := He.glo_ok X G (c.fact 11 (f := .glo "_law_right") rfl)
    g__law_row := He.glo_ok X G (c.fact 12 (f := .glo "_law_row") rfl)
    g_dearest_order := He.glo_ok X G (c.fact 13 (f := .glo "dearest_order") rfl)
    g_law := He.glo_ok X G (c.fact 14 (f := .glo "law") rfl)
    F__law_cell := F__law_cell
    b__law_cell := F__law_cell.bindsN fun _ _ _ _ _ _ us hl => match us, hl with | [_, _], _ => rfl
    F__law_draws := F__law_draws
    b__law_draws := F__law_draws.bindsN fun _ _ _ _ _ _ us hl => match us, hl with | [_, _], _ => rfl
    F__law_is_int := F__law_is_int
    b__law_is_int := F__law_is_int.bindsN fun _ _ _ _ _ _ us hl => match us, hl with | [_], _ => rfl
    F__law_right := F__law_right
    b__law_right := F__law_right.bindsN fun _ _ _ _ _ _ us hl => match us, hl with | [_, _], _ => rfl
    F__law_row := F__law_row
    b__law_row := F__law_row.bindsN fun _ _ _ _ _ _ us hl => match us, hl with | [_, _], _ => rfl
    F_dearest_order := F_dearest_order
    b_dearest_order := F_dearest_order.bindsN fun _ _ _ _ _ _ us hl => match us, hl with | [_], _ => rfl
    F_law := F_law
    b_law := F_law.bindsN fun _ _ _ _ _ _ us hl => match us, hl with | [_], _ => rfl }
end R
open PySem PySem.W PySem.Calls PyProof.Rows
set_option maxRecDepth 100000 in
set_option maxHeartbeats 0 in
theorem PySem.Challenge.cw_dearestshelf_k12_dearest_order_holds : PySem.Challenge.rw_dearestshelf_k12_dearest_order.Holds := by
  w_on; o_law
  refine HandSHeadRun.head_any (r := OpenLaw.row PySem.Challenge.rw_dearestshelf_k12_dearest_order) (q := view (OpenLaw.row PySem.Challenge.rw_dearestshelf_k12_dearest_order).prog [8]) (H := R.hk) (ob := R.ob) (M := 20000) (loose := ["dearest_order", "_law_cell", "_law_draws", "_law_row", "_law_is_int", "_law_right"]) (d := HandSHeadRun.topDef (OpenLaw.row PySem.Challenge.rw_dearestshelf_k12_dearest_order).prog 8) (kwd := []) R.ob_eq
    (by kernel_rfl) (fun s => by kernel_rfl) R.run (by kernel_rfl) (by kernel_rfl) (by kernel_rfl) (by rfl) (by first | assumption | decide +kernel) (by decide +kernel) ⟨rfl, rfl, rfl, rfl, rfl, by decide +kernel⟩ ?hw ?hc
  case hw => w_witness2
  case hc =>
    refine L2.walk_ofE (l := PySem.Challenge.rw_dearestshelf_k12_dearest_order) (n := 63) (k := 3) (x := "_law_script") (CX := L2.CX0) rfl (by decide) (by kernel_rfl) ⟨rfl, by decide, by decide⟩ ?F (fun _ _ _ _ z => z)
    intro w mg fa h Y G hmg0
    obtain ⟨K, KX, c⟩ := Y
    have hmg : mg ("law" : PySem.Str) = some (.ref fa) := by
      have e : (HandSHeadRun.topDef (OpenLaw.row PySem.Challenge.rw_dearestshelf_k12_dearest_order).prog 8).name = ("law" : PySem.Str) := by kernel_rfl
      rw [← e]
      exact hmg0
    have T := R.tx KX G c
    have e := hmg.symm.trans T.g_law
    cases e
    have b := L2.FunD.bindsA (ps := ["_law_script"]) T.F_law fun _ _ _ _ _ _ us hl => match us, hl with | [_], _ => rfl
    exact ⟨K, _, R.sp_law K, KX, fun s v => b s [v] rfl, fun H a ns hl _ hS => ⟨a, ns, rfl, hS, fun _ => rfl⟩, fun base _ _ => R.ok_law T⟩
