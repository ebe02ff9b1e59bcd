import PyProof.Rows.All
import Wide.All
import OpenK.AllK
import Wide.FinOn
import PyProof.EqAt
import PyProof.EqKinds
import PyProof.TupleCall
import HandS.ForMost
import HandS.ForExc
import HandS.Wide
import HandS.WideBits
import HandS.Gcd
import HandS.Defaults
import HandS.IsInst
import HandS.More
import HandS.Flow
import HandS.Codes
import HandS.SlotsOwn
import HandS.WordsExc
import HandS.Head0
import HandS.Head1
import HandS.Head2
import HandS.HeadEnd
import HandS.HeadHook1
import HandS.HeadHook2
import HandS.Head3
import HandS.CallSlots
import HandS.ExcIs
import HandS.TryOnly
import HandS.Style
import PySem.Challenge.RW_dearestshelf_k04_ratio_order
set_option Elab.async false
set_option linter.all false
set_option maxRecDepth 100000
set_option maxHeartbeats 4000000
namespace Z
open PySem L2
/-! ### what stands at an address; what stood stands -/
/-- o stands at a -/
def At (H : Hp) (a : Addr) (o : HO) : Prop := H a = some o
/-- a is free -/
def Fr (H : Hp) (a : Addr) : Prop := H a = none
theorem At.ne {H : Hp} {a b : Addr} {o : HO} (h : At H a o) (f : Fr H b) : a ≠ b := ne_of_none h f
theorem At.inj {H : Hp} {a : Addr} {o o' : HO} (h : At H a o) (h' : At H a o') : o = o' := Option.some.inj ((show H a = some o from h).symm.trans h')
theorem At.l {H : Hp} {a : Addr} {xs ys : List V} (h : At H a (.lst xs)) (e : xs = ys) : At H a (.lst ys) := e ▸ h
theorem At.t {H : Hp} {a : Addr} {xs ys : List V} (h : At H a (.tup xs)) (e : xs = ys) : At H a (.tup ys) := e ▸ h
theorem at_upd {H : Hp} {a : Addr} {o : HO} : At (upd H a o) a o := upd_same
/-- one step: what stood stands -/
class Ex (H H' : Hp) : Prop where
  get : ∀ {a : Addr} {o : HO}, At H a o → At H' a o
theorem Ex.refl (H : Hp) : Ex H H := ⟨fun h => h⟩
theorem Ex.trans {H H1 H2 : Hp} (a : Ex H H1) (b : Ex H1 H2) : Ex H H2 := ⟨fun h => b.get (a.get h)⟩
theorem Ex.new {H : Hp} {p : Addr} {o : HO} (h : Fr H p) : Ex H (upd H p o) := ⟨fun e => by
  show upd H p o _ = _
  rw [upd_ne (ne_of_none e h)]; exact e⟩
/-- an object that H does not know may change -/
theorem Ex.mut {H H' : Hp} {p : Addr} {o : HO} (e : Ex H H') (h : Fr H p) : Ex H (upd H' p o) := ⟨fun ha => by
  show upd H' p o _ = _
  rw [upd_ne (ne_of_none ha h)]; exact e.get ha⟩
theorem Ex.rd {H H' : Hp} {a : Addr} {u : HO} (e : Ex H H') (h : Rd H a u) : Rd H' a u := by
  rcases h with h | ⟨o, h⟩
  · exact Or.inl (e.get h)
  · exact Or.inr ⟨o, e.get h⟩
theorem Ex.l {K : PySem.W.Frag} {H H' : Hp} {a : Addr} {xs : List V} (e : Ex H H') (h : SqL K H a xs) : SqL K H' a xs := by
  rcases h with h | h
  · exact Or.inl (e.rd h)
  · exact Or.inr h
theorem Ex.t {K : PySem.W.Frag} {H H' : Hp} {a : Addr} {xs : List V} (e : Ex H H') (h : SqT K H a xs) : SqT K H' a xs := by
  rcases h with h | h
  · exact Or.inl (e.rd h)
  · exact Or.inr h
theorem Ex.back {H H' : Hp} {p : Addr} (e : Ex H H') (h : Fr H' p) : Fr H p := by
  cases h1 : H p with
  | none => exact h1
  | some o =>
    have z := e.get h1
    unfold At at z
    unfold Fr at h
    rw [z] at h
    cases h
/-- any number of steps -/
class Exs (H H' : Hp) : Prop where
  ex : Ex H H'
set_option synthInstance.checkSynthOrder false in
instance Exs.step {H H1 H2 : Hp} [b : Ex H1 H2] [a : Exs H H1] : Exs H H2 := ⟨a.ex.trans b⟩
instance Exs.here {H : Hp} : Exs H H := ⟨Ex.refl H⟩
theorem exE {H H' : Hp} (e : Exs H H') : Ex H H' := e.ex
theorem getE {H H' : Hp} {a : Addr} {o : HO} (h : At H a o) (e : Exs H H') : At H' a o := e.ex.get h
theorem frE {H H' : Hp} {a : Addr} (h : Fr H' a) (e : Exs H H') : Fr H a := e.ex.back h
theorem kmut {H H' H0 : Hp} {a : Addr} (hk : ∀ H0, Ex H0 H → Fr H0 a → Ex H0 H') (n : Fr H0 a) (e : Exs H0 H) : Ex H0 H' := hk H0 e.ex n
theorem sq_of {K : PySem.W.Frag} {H : Hp} {a : Addr} {xs : List V} (h : At H a (.lst xs)) : SqL K H a xs := Or.inl (Or.inl h)
theorem st_of {K : PySem.W.Frag} {H : Hp} {a : Addr} {xs : List V} (h : At H a (.tup xs)) : SqT K H a xs := Or.inl (Or.inl h)
section
variable {K : PySem.W.Frag} {H H' : Hp} {a : Addr} {xs : List V}
theorem lE (h : SqL K H a xs) (e : Exs H H') : SqL K H' a xs := e.ex.l h
theorem lA (h : At H a (.lst xs)) (e : Exs H H') : SqL K H' a xs := e.ex.l (sq_of h)
theorem tE (h : SqT K H a xs) (e : Exs H H') : SqT K H' a xs := e.ex.t h
theorem tA (h : At H a (.tup xs)) (e : Exs H H') : SqT K H' a xs := e.ex.t (st_of h)
end
/-- one step: all but lists stands -/
class Nl (H1 H2 : Hp) : Prop where
  get : ∀ {a : Addr} {o : HO}, (∀ l, o ≠ HO.lst l) → At H1 a o → At H2 a o
theorem Ex.nl {H1 H2 : Hp} (e : Ex H1 H2) : Nl H1 H2 := ⟨fun _ h => e.get h⟩
theorem Nl.trans {H1 H2 H3 : Hp} (a : Nl H1 H2) (b : Nl H2 H3) : Nl H1 H3 := ⟨fun h e => b.get h (a.get h e)⟩
theorem Nl.refl (H : Hp) : Nl H H := ⟨fun _ h => h⟩
theorem Nl.upd {H : Hp} {p : Addr} {xs ys : List V} (h : At H p (.lst xs)) : Nl H (upd H p (.lst ys)) := ⟨fun {a} {o} ho e => by
  show L2.upd H p _ a = _
  rw [upd_ne (fun z => ho xs (by subst z; exact (h.inj e).symm))]; exact e⟩
theorem Nl.of_other {H H2 : Hp} {p : Addr} {xs : List V} (h : At H p (.lst xs)) (ho : ∀ b o, b ≠ p → At H b o → At H2 b o) : Nl H H2 := ⟨fun {a} {o} hk e => ho a o (fun z => hk xs (by subst z; exact (h.inj e).symm)) e⟩
class Nls (H H' : Hp) : Prop where
  nl : Nl H H'
set_option synthInstance.checkSynthOrder false in
instance Nls.stepE {H H1 H2 : Hp} [b : Ex H1 H2] [a : Nls H H1] : Nls H H2 := ⟨a.nl.trans b.nl⟩
set_option synthInstance.checkSynthOrder false in
instance Nls.step {H H1 H2 : Hp} [b : Nl H1 H2] [a : Nls H H1] : Nls H H2 := ⟨a.nl.trans b⟩
instance Nls.here {H : Hp} : Nls H H := ⟨Nl.refl H⟩
theorem getTN {H H' : Hp} {a : Addr} {xs : List V} (h : At H a (.tup xs)) (e : Nls H H') : At H' a (.tup xs) := e.nl.get (fun l z => by cases z) h
theorem tNA {K : PySem.W.Frag} {H H' : Hp} {a : Addr} {xs : List V} (h : At H a (.tup xs)) (e : Nls H H') : SqT K H' a xs := st_of (getTN h e)
theorem getIN {H H' : Hp} {a C d : Addr} {fs : List (Str × V)} (h : At H a (.ins C d fs)) (e : Nls H H') : At H' a (.ins C d fs) := e.nl.get (fun l z => by cases z) h
/-! ### the row's defs by their names -/
abbrev FnP (K : PySem.W.Frag) (x : Str) (st : Stmt) (f : Addr) (fd : FuncData) : Prop := FunD K x x (defArgs st) (defBody st) (defScope st) [] [] f fd
def noFd : FuncData := PySem.W.fnOf "" "" { posonlyargs := [], args := [], vararg := none, kwonlyargs := [], kw_defaults := [], kwarg := none, defaults := [] } [] { kind := .function, names := [], isGenerator := false, isCoroutine := false } .none .none .none .none none .none .none
def fdOf (K : PySem.W.Frag) (a : Addr) : FuncData := match K.lookup a with
  | some ⟨_, _, .func fd, _⟩ => fd
  | _ => noFd
theorem fd_of {K : PySem.W.Frag} {x qual : Str} {params : Arguments} {body : List Stmt} {scope : Scope} {dvs : List V} {kws : List (Str × V)} {f : Addr} (h : ∃ fd, FunD K x qual params body scope dvs kws f fd) : FunD K x qual params body scope dvs kws f (fdOf K f) := by
  obtain ⟨fd, F⟩ := h
  have e : fdOf K f = fd := by
    obtain ⟨_, _, _, _, _, _, _, _, _, _, _, lk, _⟩ := F.ex
    unfold fdOf
    rw [lk]
  rw [e]
  exact F
/-! ### one step of a reading -/
def nT (Q : VK) : List V → Hp → Prop := fun xs H1 => xs.length ≤ sizeLine ∧ ∀ p, Fr H1 p → Q (.ref p) (upd H1 p (.tup xs))
def nL (Q : VK) : List V → Hp → Prop := fun xs H1 => xs.length ≤ sizeLine ∧ ∀ p, Fr H1 p → Q (.ref p) (upd H1 p (.lst xs))
section
variable {K : PySem.W.Frag} {σ : L2.St} {H H' : Hp} {Q : VK} {v x y : V} {ta tb te tc : TE} {r : R2} {D : Ends} {t u : TS} {c c1 c2 : TT} {ts : TA}
theorem w_var {i : Nat} (h : σ[i]? = some (some v)) (q : Q v H) : tVar i σ H Q := ⟨v, h, q⟩
theorem w_c (q : Q v H) : tC v σ H Q := q
theorem w_op (h : ta σ H fun x H1 => tb σ H1 fun y H2 => r x y H2 Q) : tOp r ta tb σ H Q := h
theorem w_un {r : V → Hp → VK → Prop} (h : ta σ H fun x H1 => r x H1 Q) : tUn r ta σ H Q := h
theorem w_cb {r : List V → Hp → VK → Prop} (h : ts σ H fun vs H1 => r vs H1 Q) : tCB r ts σ H Q := h
theorem w_nil {Q : List V → Hp → Prop} (h : Q [] H) : tNil σ H Q := h
theorem w_cons {Q : List V → Hp → Prop} (h : ta σ H fun x H1 => ts σ H1 fun xs H2 => Q (x :: xs) H2) : tCons ta ts σ H Q := h
theorem w_tup (h : ts σ H (nT Q)) : tTup ts σ H Q := h
theorem w_lst (h : ts σ H (nL Q)) : tLst ts σ H Q := h
theorem w_call {sp : Sp} {dvs : List V} {E : XK} (h : ts σ H fun vs H1 => sp (vs ++ dvs) H1 Q E) : tCall sp dvs E ts σ H Q := h
theorem w_call0 {sp : Sp} {E : XK} (h : ts σ H fun vs H1 => sp vs H1 Q E) : tCall sp [] E ts σ H Q := by
  show ts σ H fun vs H1 => sp (vs ++ []) H1 Q E
  simp only [List.append_nil]
  exact h
theorem w_test {Q : Bool → Hp → Prop} (h : te σ H fun x H1 => ∃ k, x = .bl k ∧ Q k H1) : tTest te σ H Q := h
theorem w_B {Q : Bool → Hp → Prop} (h : te σ H fun x H1 => ∃ k, x = .bl k ∧ Q k H1) : tB te σ H Q := h
theorem w_bl {R : Bool → Prop} {k : Bool} (h : R k) : ∃ k', (V.bl k) = .bl k' ∧ R k' := ⟨k, rfl, h⟩
theorem w_and {Q : Bool → Hp → Prop} (h : c1 σ H fun b H1 => if b = true then c2 σ H1 Q else Q false H1) : tAnd c1 c2 σ H Q := h
theorem w_or {Q : Bool → Hp → Prop} (h : c1 σ H fun b H1 => if b = true then Q true H1 else c2 σ H1 Q) : tOr c1 c2 σ H Q := h
theorem w_not {Q : Bool → Hp → Prop} (h : c σ H fun b H1 => Q (!b) H1) : tNot c σ H Q := h
theorem w_andV (h : ta σ H fun x H1 => ∃ k, x = .bl k ∧ if k = true then tb σ H1 Q else Q (.bl false) H1) : tAndV ta tb σ H Q := h
theorem w_orV (h : ta σ H fun x H1 => ∃ k, x = .bl k ∧ if k = true then Q (.bl true) H1 else tb σ H1 Q) : tOrV ta tb σ H Q := h
theorem w_notV (h : ta σ H fun x H1 => ∃ k, x = .bl k ∧ Q (.bl (!k)) H1) : tNotV ta σ H Q := h
theorem w_ifE (h : c σ H fun b H1 => if b = true then ta σ H1 Q else tb σ H1 Q) : tIf c ta tb σ H Q := h
theorem w_isN (h : ta σ H fun x H1 => Q (.bl (decide (x = .non))) H1) : tIsN ta σ H Q := h
theorem w_notN (h : ta σ H fun x H1 => Q (.bl (!decide (x = .non))) H1) : tNotN ta σ H Q := h
theorem w_seq (h : t ⟨u D, D.rt, D.bk, D.ct⟩ σ H) : tSeq t u D σ H := h
theorem w_asg {g : TG} (h : te σ H fun x H1 => g x σ H1 D.nx) : tAsg te g D σ H := h
theorem w_gn {i : Nat} {R : L2.St → Hp → Prop} (h : R (σ.set i (some v)) H) : gName i v σ H R := h
theorem w_ret (h : te σ H D.rt) : tRet te D σ H := h
theorem w_retN (h : D.rt .non H) : tRetN D σ H := h
theorem w_drop (h : te σ H fun _ H1 => D.nx σ H1) : tDrop te D σ H := h
theorem w_next (h : D.nx σ H) : tNext D σ H := h
theorem w_brk (h : D.bk σ H) : tBreak D σ H := h
theorem w_cnt (h : D.ct σ H) : tCont D σ H := h
theorem w_if (h : c σ H fun b H1 => if b = true then t D σ H1 else u D σ H1) : tIfS c t u D σ H := h
theorem w_par {i j : Nat} (h : ts σ H fun vs H1 => ∃ v w, vs = [v, w] ∧ D.nx ((σ.set i (some v)).set j (some w)) H1) : tPar i j ts D σ H := h
theorem w_exP {R : V → V → Prop} (h : R v x) : ∃ v' x', [v, x] = [v', x'] ∧ R v' x' := ⟨v, x, rfl, h⟩
theorem w_cut (Mid : L2.St → Hp → Prop) (h : t ⟨Mid, D.rt, D.bk, D.ct⟩ σ H) (k : ∀ σ' H', Mid σ' H' → u D σ' H') : C8.tCut t u D σ H := ⟨Mid, h, k⟩
theorem w_nx {f : L2.St → Hp → Prop} {g : VK} {bk ct : L2.St → Hp → Prop} (h : f σ H) : Ends.nx ⟨f, g, bk, ct⟩ σ H := h
theorem w_bk {f : L2.St → Hp → Prop} {g : VK} {bk ct : L2.St → Hp → Prop} (h : bk σ H) : Ends.bk ⟨f, g, bk, ct⟩ σ H := h
theorem w_ct {f : L2.St → Hp → Prop} {g : VK} {bk ct : L2.St → Hp → Prop} (h : ct σ H) : Ends.ct ⟨f, g, bk, ct⟩ σ H := h
theorem w_rt {f : L2.St → Hp → Prop} {g : VK} {bk ct : L2.St → Hp → Prop} (h : g v H) : Ends.rt ⟨f, g, bk, ct⟩ v H := h
theorem w_aug {i : Nat} {ti : TIp} {z : V} (h : σ[i]? = some (some z)) (q : te σ H fun y H1 => ti z y H1 fun z H2 => D.nx (σ.set i (some z)) H2) : tAug i te ti D σ H := ⟨z, h, q⟩
theorem w_ipI {f : Int → Int → Int} {i j : Int} (q : Q (.int (f i j)) H) : ipI f (.int i) (.int j) H Q := ⟨i, j, rfl, rfl, q⟩
theorem w_I0 {g : Int → Int → V} {i j : Int} (q : Q (g i j) H) : rI0 g (.int i) (.int j) H Q := ⟨i, j, rfl, rfl, q⟩
theorem w_I {C : Int → Int → Prop} {g : Int → Int → V} {i j : Int} (hc : C i j) (q : Q (g i j) H) : rI C g (.int i) (.int j) H Q := ⟨i, j, rfl, rfl, hc, q⟩
theorem w_pow {i j z : Int} (hc : CPow i j) (hz : i ^ j.toNat = z) (q : Q (.int z) H) : rI CPow (fun i j => .int (i ^ j.toNat)) (.int i) (.int j) H Q := ⟨i, j, rfl, rfl, hc, by show Q (.int (i ^ j.toNat)) H; rw [hz]; exact q⟩
theorem w_U {g : Int → V} {i : Int} (q : Q (g i) H) : rU g (.int i) H Q := ⟨i, rfl, q⟩
theorem w_eqI {i j : Int} (q : Q (.bl (decide (i = j))) H) : rEq (.int i) (.int j) H Q := ⟨rfl, by
  have e : decide (V.int i = V.int j) = decide (i = j) := by simp
  rw [e]; exact q⟩
theorem w_neI {i j : Int} (q : Q (.bl (!decide (i = j))) H) : rNe (.int i) (.int j) H Q := ⟨rfl, by
  have e : decide (V.int i = V.int j) = decide (i = j) := by simp
  rw [e]; exact q⟩
theorem w_eqS {i j : Str} (q : Q (.bl (decide (i = j))) H) : rEq (.str i) (.str j) H Q := ⟨rfl, by
  have e : decide (V.str i = V.str j) = decide (i = j) := by simp
  rw [e]; exact q⟩
theorem w_neS {i j : Str} (q : Q (.bl (!decide (i = j))) H) : rNe (.str i) (.str j) H Q := ⟨rfl, by
  have e : decide (V.str i = V.str j) = decide (i = j) := by simp
  rw [e]; exact q⟩
theorem w_isB {a b : Bool} (q : Q (.bl (decide (a = b))) H) : rIsB (.bl a) (.bl b) H Q := ⟨a, b, rfl, rfl, q⟩
theorem w_isnB {a b : Bool} (q : Q (.bl (!decide (a = b))) H) : rNotB (.bl a) (.bl b) H Q := ⟨a, b, rfl, rfl, q⟩
/-! tests -/
theorem w_dec {p : Prop} [Decidable p] {A B : Prop} (h1 : p → A) (h2 : ¬ p → B) : if decide p = true then A else B := by
  by_cases h : p
  · rw [decide_eq_true h]; exact h1 h
  · rw [decide_eq_false h]; exact h2 h
theorem w_ndec {p : Prop} [Decidable p] {A B : Prop} (h1 : ¬ p → A) (h2 : p → B) : if (!decide p) = true then A else B := by
  by_cases h : p
  · rw [decide_eq_true h]; exact h2 h
  · rw [decide_eq_false h]; exact h1 h
theorem w_decT {p : Prop} [Decidable p] {A B : Prop} (hp : p) (h : A) : if decide p = true then A else B := w_dec (fun _ => h) (fun n => absurd hp n)
theorem w_decF {p : Prop} [Decidable p] {A B : Prop} (hp : ¬ p) (h : B) : if decide p = true then A else B := w_dec (fun n => absurd n hp) (fun _ => h)
theorem w_ndecT {p : Prop} [Decidable p] {A B : Prop} (hp : ¬ p) (h : A) : if (!decide p) = true then A else B := w_ndec (fun _ => h) (fun n => absurd n hp)
theorem w_ndecF {p : Prop} [Decidable p] {A B : Prop} (hp : p) (h : B) : if (!decide p) = true then A else B := w_ndec (fun n => absurd hp n) (fun _ => h)
theorem w_bool {b : Bool} {A B : Prop} (h1 : b = true → A) (h2 : b = false → B) : if b = true then A else B := by
  cases b
  · exact h2 rfl
  · exact h1 rfl
theorem w_nbool {b : Bool} {A B : Prop} (h1 : b = false → A) (h2 : b = true → B) : if (!b) = true then A else B := by
  cases b
  · exact h1 rfl
  · exact h2 rfl
theorem w_T {A B : Prop} (h : A) : if true = true then A else B := h
theorem w_F {A B : Prop} (h : B) : if false = true then A else B := h
theorem w_nT {A B : Prop} (h : B) : if (!true) = true then A else B := h
theorem w_nF {A B : Prop} (h : A) : if (!false) = true then A else B := h

/-! new objects: the heap behind is named, what is known of it is said -/
theorem w_newT {xs : List V} (hz : xs.length ≤ sizeLine) (q : ∀ p H2, Fr H p → Ex H H2 → At H2 p (.tup xs) → Q (.ref p) H2) : nT Q xs H :=
  ⟨hz, fun p hp => q p _ hp (Ex.new hp) upd_same⟩
theorem w_newL {xs : List V} (hz : xs.length ≤ sizeLine) (q : ∀ p H2, Fr H p → Ex H H2 → At H2 p (.lst xs) → Q (.ref p) H2) : nL Q xs H :=
  ⟨hz, fun p hp => q p _ hp (Ex.new hp) upd_same⟩
end
/-! ### operators of several kinds -/
/-- a product that the model reckons -/
def CM (i j : Int) : Prop := CMul i j ∨ CMulX i j
theorem CM.of_left {i j : Int} (h : i.natAbs < 2 ^ 64) : CM i j := .inl (.inl ⟨by omega, by omega⟩)
theorem CM.of_right {i j : Int} (h : j.natAbs < 2 ^ 64) : CM i j := .inl (.inr ⟨by omega, by omega⟩)
theorem CM.of_pow {i j : Int} {a b : Nat} (ha : i.natAbs < 2 ^ a) (hb : j.natAbs < 2 ^ b) (h : a + b ≤ 134217728) : CM i j := .inr (mulx_ok ha hb h)
/-- bits of ints -/
theorem bt_mul {a b : Int} {n m : Nat} (ha : a.natAbs < 2 ^ n) (hb : b.natAbs < 2 ^ m) : (a * b).natAbs < 2 ^ (n + m) := by
  rw [Int.natAbs_mul, Nat.pow_add]
  exact Nat.mul_lt_mul'' ha hb
theorem bt_mono {a : Int} {n m : Nat} (ha : a.natAbs < 2 ^ n) (h : n ≤ m) : a.natAbs < 2 ^ m := Nat.lt_of_lt_of_le ha (Nat.pow_le_pow_right (by decide) h)
theorem bt_add {a b : Int} {n m : Nat} (ha : a.natAbs < 2 ^ n) (hb : b.natAbs < 2 ^ m) : (a + b).natAbs < 2 ^ (n + m + 1) := by
  have h := Int.natAbs_add_le a b
  have h1 : a.natAbs < 2 ^ (n + m) := bt_mono ha (by omega)
  have h2 : b.natAbs < 2 ^ (n + m) := bt_mono hb (by omega)
  rw [Nat.pow_succ]
  omega
theorem bt_addL {a b : Int} {n m k : Nat} (ha : a.natAbs < 2 ^ n) (hb : b.natAbs < 2 ^ m) (h1 : n ≤ k) (h2 : m ≤ k) : (a + b).natAbs < 2 ^ (k + 1) := by
  have h := Int.natAbs_add_le a b
  have h1 : a.natAbs < 2 ^ k := bt_mono ha h1
  have h2 : b.natAbs < 2 ^ k := bt_mono hb h2
  rw [Nat.pow_succ]
  omega
theorem bt_neg {a : Int} {n : Nat} (ha : a.natAbs < 2 ^ n) : (-a).natAbs < 2 ^ n := by rw [Int.natAbs_neg]; exact ha
theorem bt_sub {a b : Int} {n m : Nat} (ha : a.natAbs < 2 ^ n) (hb : b.natAbs < 2 ^ m) : (a - b).natAbs < 2 ^ (n + m + 1) := by
  rw [Int.sub_eq_add_neg]; exact bt_add ha (bt_neg hb)
theorem bt_subL {a b : Int} {n m k : Nat} (ha : a.natAbs < 2 ^ n) (hb : b.natAbs < 2 ^ m) (h1 : n ≤ k) (h2 : m ≤ k) : (a - b).natAbs < 2 ^ (k + 1) := by
  rw [Int.sub_eq_add_neg]; exact bt_addL ha (bt_neg hb) h1 h2
theorem bt_abs {a : Int} {n : Nat} (ha : a.natAbs < 2 ^ n) : ((a.natAbs : Int)).natAbs < 2 ^ n := by rw [Int.natAbs_natCast]; exact ha
theorem bt_fdiv {a b : Int} {n : Nat} (ha : a.natAbs < 2 ^ n) : (a / b).natAbs < 2 ^ n := Nat.lt_of_le_of_lt (Int.natAbs_ediv_le_natAbs _ _) ha
theorem cm {a b : Int} {n m : Nat} (ha : a.natAbs < 2 ^ n) (hb : b.natAbs < 2 ^ m) (h : n + m ≤ 100000) : CM a b := CM.of_pow ha hb (by omega)
def rInt1 : List V → Hp → VK → Prop := fun xs H Q => (∃ i, xs = [.int i] ∧ Q (.int i) H) ∨ ∃ k, xs = [.bl k] ∧ Q (.int (if k then 1 else 0)) H
def rTupOf (K : PySem.W.Frag) : List V → Hp → VK → Prop := fun xs H Q => ∃ p ys, xs = [.ref p] ∧ ((SqL K H p ys ∧ ∀ l, Fr H l → Q (.ref l) (upd H l (.tup ys))) ∨ (SqT K H p ys ∧ Q (.ref p) H))
def rListOf (K : PySem.W.Frag) : List V → Hp → VK → Prop := fun xs H Q => ∃ p ys, xs = [.ref p] ∧ (SqL K H p ys ∨ SqT K H p ys) ∧ ∀ l, Fr H l → Q (.ref l) (upd H l (.lst ys))
def rIns : V → List V → Hp → VK → Prop := fun x vs H Q => ∃ (l : Addr) (xs : List V) (i : Int) (y : V), x = .ref l ∧ vs = [.int i, y] ∧ At H l (.lst xs) ∧ xs.length < sizeLine ∧ 0 ≤ i ∧ i < 2 ^ 63 ∧ Q .non (upd H l (.lst (xs.take i.toNat ++ [y] ++ xs.drop i.toNat)))
def rShl : R2 := fun x y H Q => ∃ k : Nat, x = .int 1 ∧ y = .int (k : Int) ∧ k ≤ 134217727 ∧ Q (.int (2 ^ k)) H
def rShr : R2 := fun x y H Q => ∃ (n k : Nat), x = .int (n : Int) ∧ y = .int (k : Int) ∧ Q (.int ((n / 2 ^ k : Nat) : Int)) H
def rOdd : R2 := fun x y H Q => ∃ n : Nat, x = .int (n : Int) ∧ y = .int 1 ∧ Q (.int ((n % 2 : Nat) : Int)) H
def rMax2 : List V → Hp → VK → Prop := fun xs H Q => ∃ i j, xs = [.int i, .int j] ∧ Q (.int (if j > i then j else i)) H
def rMin2 : List V → Hp → VK → Prop := fun xs H Q => ∃ i j, xs = [.int i, .int j] ∧ Q (.int (if j < i then j else i)) H
def rAddZ : R2 := fun x y H Q => (rI0 fun i j => .int (i + j)) x y H Q ∨ rCat x y H Q
def rMulZ : R2 := fun x y H Q => rI CMul (fun i j => .int (i * j)) x y H Q ∨ rI CMulX (fun i j => .int (i * j)) x y H Q
def rEqZ (K : PySem.W.Frag) : R2 := fun x y H Q => rEq x y H Q ∨ rEqD K x y H Q
def rNeZ (K : PySem.W.Frag) : R2 := fun x y H Q => rNe x y H Q ∨ rNeD K x y H Q
section
variable {X : Cx}
theorem op_add : OpR X (binaryOp .Add) rAddZ := L2.op_add.or op_cat
theorem op_sub : OpR X (binaryOp .Sub) (rI0 fun i j => .int (i - j)) := L2.op_sub
theorem op_mul : OpR X (binaryOp .Mult) rMulZ := L2.op_mul.or op_mulX
theorem op_fdiv : OpR X (binaryOp .FloorDiv) (rI CDivW fun i j => .int (i / j)) := op_fdivW
theorem op_mod : OpR X (binaryOp .Mod) (rI (fun _ j => 0 < j) fun i j => .int (i % j)) := L2.op_mod
theorem un_neg : UnR X (unaryOp .USub) (rU fun i => .int (-i)) := L2.un_neg
theorem op_lt : OpR X (compareOp .Lt) (rI0 fun i j => .bl (decide (i < j))) := L2.op_lt
theorem op_le : OpR X (compareOp .LtE) (rI0 fun i j => .bl (decide (i ≤ j))) := L2.op_le
theorem op_gt : OpR X (compareOp .Gt) (rI0 fun i j => .bl (decide (j < i))) := L2.op_gt
theorem op_ge : OpR X (compareOp .GtE) (rI0 fun i j => .bl (decide (j ≤ i))) := L2.op_ge
theorem call_max2 (hc : X.calm = true) : CallR X (.builtin "max") rMax2 := L2.call_max2 hc
theorem call_min2 (hc : X.calm = true) : CallR X (.builtin "min") rMin2 := L2.call_min2 hc
theorem op_shl : OpR X (binaryOp .LShift) rShl := op_oneShl
theorem op_shr : OpR X (binaryOp .RShift) rShr := by
  intro pins s σ H x y u v Q I rx ry h
  obtain ⟨n, k, rfl, rfl, q⟩ := h
  refine op_shrN pins s σ H _ _ u v Q I rx ry ⟨(n : Int), k, rfl, rfl, ?_⟩
  have e : (n : Int) / 2 ^ k = ((n / 2 ^ k : Nat) : Int) := by rw [Int.natCast_ediv, Int.natCast_pow]; rfl
  rw [e]
  exact q
theorem op_and1 : OpR X (binaryOp .BitAnd) rOdd := op_odd
variable {K : PySem.W.Frag}
theorem op_eq (hK : X.K = K) (hu : X.A.units + 64 < cLine) : OpR X (compareOp .Eq) (rEqZ K) := hK ▸ L2.op_eq.or (op_eqD hu)
theorem op_ne (hK : X.K = K) (hu : X.A.units + 64 < cLine) : OpR X (compareOp .NotEq) (rNeZ K) := hK ▸ L2.op_ne.or (op_neD hu)
theorem op_in (hK : X.K = K) : OpR X (compareOp .In) (rIn K false) := hK ▸ op_in_seq
theorem op_notin (hK : X.K = K) : OpR X (compareOp .NotIn) (rIn K true) := hK ▸ op_notIn_seq
theorem ix (hK : X.K = K) : IxR X (rIx K) := hK ▸ ix_seq
theorem slL (hK : X.K = K) : SlR X (rSlL K) := hK ▸ sl_list
theorem slT (hK : X.K = K) : SlR X (rSlT K) := hK ▸ sl_tup
theorem call_len (hK : X.K = K) : CallR X (.builtin "len") (rLen K) := hK ▸ L2.call_len
theorem mt_ins : MtR X "list.insert" rIns := mt_insert
theorem call_int : CallR X (.type "int") rInt1 := call_int1
theorem call_tuple (hK : X.K = K) : CallR X (.type "tuple") (rTupOf K) := hK ▸ call_tuple_of
theorem call_list (hK : X.K = K) : CallR X (.type "list") (rListOf K) := hK ▸ call_list_of
theorem call_isi (hK : X.K = K) : CallR X (.builtin "isinstance") (rIsi K) := hK ▸ L2.call_isi
theorem call_sum (hK : X.K = K) (hc : X.calm = true) : CallR X (.builtin "sum") (rSum K) := hK ▸ cr_sum hc
theorem call_min (hK : X.K = K) (hc : X.calm = true) : CallR X (.builtin "min") (rMin K) := hK ▸ cr_min hc
theorem call_max (hK : X.K = K) (hc : X.calm = true) : CallR X (.builtin "max") (rMax K) := hK ▸ cr_max hc
theorem call_any (hK : X.K = K) (hc : X.calm = true) : CallR X (.builtin "any") (rAny K) := hK ▸ cr_any hc
theorem call_all (hK : X.K = K) (hc : X.calm = true) : CallR X (.builtin "all") (rAll K) := hK ▸ cr_all hc
theorem call_sorted (hK : X.K = K) : CallR X (.builtin "sorted") (rSorted K) := hK ▸ cr_sorted
theorem piL (hK : X.K = K) {tg l : Expr} {tl : TE} (hl : PE X l tl) : PI X tg l (iList K tl) := hK ▸ pi_list hl
theorem piT (hK : X.K = K) {tg l : Expr} {tl : TE} (hl : PE X l tl) : PI X tg l (iTup K tl) := hK ▸ pi_tup hl
theorem fld (hK : X.K = K) {e : Expr} {ta : TE} {f : Str} {pos : Pos} (he : PE X e ta) (hb : attributeBase e f X.env (eval e X.env) = eval e X.env) : PE X (.Attribute e f pos) (tFld K ta f) := hK ▸ pe_fld he hb
theorem con (hK : X.K = K) {e : Expr} {ta : TE} {f : Str} {pos : Pos} (he : PE X e ta) (hb : attributeBase e f X.env (eval e X.env) = eval e X.env) : PE X (.Attribute e f pos) (tCon K ta f) := hK ▸ pe_con he hb
end
section
variable {K : PySem.W.Frag} {σ : L2.St} {H H' : Hp} {Q : VK} {v x y : V} {a b p : Addr} {xs ys : List V} {i j : Int}
theorem w_addI (q : Q (.int (i + j)) H) : rAddZ (.int i) (.int j) H Q := .inl ⟨i, j, rfl, rfl, q⟩
theorem w_addL (h1 : At H a (.lst xs)) (h2 : At H b (.lst ys)) (hz : xs.length + ys.length ≤ sizeLine) (q : ∀ p H2, Fr H p → Ex H H2 → At H2 p (.lst (xs ++ ys)) → Q (.ref p) H2) : rAddZ (.ref a) (.ref b) H Q :=
  .inr ⟨a, b, xs, ys, rfl, rfl, h1, h2, hz, fun p hp => q p _ hp (Ex.new hp) upd_same⟩
theorem w_mulI (hc : CM i j) (q : Q (.int (i * j)) H) : rMulZ (.int i) (.int j) H Q := hc.elim (fun h => .inl ⟨i, j, rfl, rfl, h, q⟩) fun h => .inr ⟨i, j, rfl, rfl, h, q⟩
theorem w_eqZI (q : Q (.bl (decide (i = j))) H) : rEqZ K (.int i) (.int j) H Q := .inl (w_eqI q)
theorem w_neZI (q : Q (.bl (!decide (i = j))) H) : rNeZ K (.int i) (.int j) H Q := .inl (w_neI q)
theorem w_eqZS {i j : Str} (q : Q (.bl (decide (i = j))) H) : rEqZ K (.str i) (.str j) H Q := .inl (w_eqS q)
theorem w_neZS {i j : Str} (q : Q (.bl (!decide (i = j))) H) : rNeZ K (.str i) (.str j) H Q := .inl (w_neS q)
theorem w_int1 (q : Q (.int i) H) : rInt1 [.int i] H Q := .inl ⟨i, rfl, q⟩
theorem w_tupL (h : SqL K H a xs) (q : ∀ p H2, Fr H p → Ex H H2 → At H2 p (.tup xs) → Q (.ref p) H2) : rTupOf K [.ref a] H Q := ⟨a, xs, rfl, .inl ⟨h, fun p hp => q p _ hp (Ex.new hp) upd_same⟩⟩
theorem w_tupT (h : SqT K H a xs) (q : Q (.ref a) H) : rTupOf K [.ref a] H Q := ⟨a, xs, rfl, .inr ⟨h, q⟩⟩
theorem w_listL (h : SqL K H a xs) (q : ∀ p H2, Fr H p → Ex H H2 → At H2 p (.lst xs) → Q (.ref p) H2) : rListOf K [.ref a] H Q := ⟨a, xs, rfl, .inl h, fun p hp => q p _ hp (Ex.new hp) upd_same⟩
theorem w_listT (h : SqT K H a xs) (q : ∀ p H2, Fr H p → Ex H H2 → At H2 p (.lst xs) → Q (.ref p) H2) : rListOf K [.ref a] H Q := ⟨a, xs, rfl, .inr h, fun p hp => q p _ hp (Ex.new hp) upd_same⟩
theorem w_lenL (h : SqL K H a xs) (q : Q (.int xs.length) H) : rLen K [.ref a] H Q := ⟨_, _, rfl, .inl ⟨xs, h, rfl⟩, q⟩
theorem w_lenT (h : SqT K H a xs) (q : Q (.int xs.length) H) : rLen K [.ref a] H Q := ⟨_, _, rfl, .inr ⟨xs, h, rfl⟩, q⟩
theorem atI_int {ns : List Int} (h0 : 0 ≤ i) (h1 : i < ns.length) : atI (ns.map V.int) i = some (.int (ns.getD i.toNat 0)) := by
  unfold atI ixN
  rw [if_pos h0, List.length_map, if_pos h1]
  show (ns.map V.int)[i.toNat]? = _
  have h : i.toNat < ns.length := by omega
  rw [List.getElem?_map, List.getD_eq_getElem?_getD, List.getElem?_eq_getElem h]
  rfl
theorem w_ixLI {ns : List Int} {k : Nat} (h : SqL K H a (ns.map V.int)) (hk : i.toNat = k) (h0 : 0 ≤ i) (h1 : i < ns.length) (q : Q (.int (ns.getD k 0)) H) : rIx K (.ref a) (.int i) H Q := .inl ⟨a, _, i, _, rfl, rfl, h, atI_int h0 h1, hk ▸ q⟩
theorem w_ixTI {ns : List Int} {k : Nat} (h : SqT K H a (ns.map V.int)) (hk : i.toNat = k) (h0 : 0 ≤ i) (h1 : i < ns.length) (q : Q (.int (ns.getD k 0)) H) : rIx K (.ref a) (.int i) H Q := .inr (.inl ⟨a, _, i, _, rfl, rfl, h, atI_int h0 h1, hk ▸ q⟩)
theorem w_ixL (h : SqL K H a xs) (ha : atI xs i = some v) (q : Q v H) : rIx K (.ref a) (.int i) H Q := .inl ⟨a, _, i, _, rfl, rfl, h, ha, q⟩
theorem w_ixT (h : SqT K H a xs) (ha : atI xs i = some v) (q : Q v H) : rIx K (.ref a) (.int i) H Q := .inr (.inl ⟨a, _, i, _, rfl, rfl, h, ha, q⟩)
theorem w_bm {T : String} {r : V → List V → Hp → VK → Prop} {to : TE} {t : TA} (h : to σ H fun x H1 => tyV K T x H1 ∧ t σ H1 fun xs H2 => r x xs H2 Q) : tBM K T r to t σ H Q := h
theorem w_bm0 {T : String} {r : V → List V → Hp → VK → Prop} {to : TE} (h : to σ H fun x H1 => tyV K T x H1 ∧ r x [] H1 Q) : tBM0 K T r to σ H Q := h
/-- the object of a list's method stands -/
theorem w_tyL {A : Prop} (h : At H a (.lst xs)) (k : A) : tyV K "list" (.ref a) H ∧ A := ⟨.inl ⟨rfl, _, sq_of h⟩, k⟩
theorem w_app (h : At H a (.lst xs)) (hz : xs.length < sizeLine) (q : ∀ H2, At H2 a (.lst (xs ++ [v])) → Nl H H2 → (∀ H0, Ex H0 H → Fr H0 a → Ex H0 H2) → (∀ b o, b ≠ a → At H b o → At H2 b o) → Q .non H2) : rAppend (.ref a) [v] H Q :=
  ⟨a, xs, v, rfl, rfl, h, hz, q _ upd_same (Nl.upd h) (fun H0 e n => Ex.mut e n) (fun b o hb e => by unfold At; rw [upd_ne hb]; exact e)⟩
theorem w_sl {r : V → Option Int → Option Int → Hp → VK → Prop} {te : TE} {tl th : TO} (h : te σ H fun x H1 => tl σ H1 fun l H2 => th σ H2 fun u H3 => r x l u H3 Q) : tSl r te tl th σ H Q := h
theorem w_noPart {Q : Option Int → Hp → Prop} (h : Q none H) : tNoPart σ H Q := h
theorem w_part {t : TE} {Q : Option Int → Hp → Prop} (h : t σ H fun x H1 => ∃ i, x = .int i ∧ Q (some i) H1) : tPart t σ H Q := h
theorem w_exI {R : Int → Prop} (h : R i) : ∃ i', V.int i = .int i' ∧ R i' := ⟨i, rfl, h⟩
theorem w_slL {lo hi : Option Int} (h : SqL K H a xs) (q : ∀ p H2, Fr H p → Ex H H2 → At H2 p (.lst (cutV xs lo hi)) → Q (.ref p) H2) : rSlL K (.ref a) lo hi H Q := ⟨a, xs, rfl, h, fun p hp => q p _ hp (Ex.new hp) upd_same⟩
theorem cut_from {xs : List V} (h : 0 ≤ i) : cutV xs (some i) none = xs.drop i.toNat := by
  obtain ⟨k, rfl⟩ := Int.eq_ofNat_of_zero_le h
  unfold cutV
  rw [HT.sIx_nat, HT.sIx_none, Int.toNat_natCast]
  by_cases hk : k ≤ xs.length
  · rw [Nat.min_eq_left hk, List.take_of_length_le]
    rw [List.length_drop]
    exact Nat.le_refl _
  · rw [Nat.min_eq_right (by omega), Nat.sub_self, List.take_zero, List.drop_eq_nil_of_le (by omega)]
theorem cut_to {xs : List V} (h : 0 ≤ i) : cutV xs none (some i) = xs.take i.toNat := by
  obtain ⟨k, rfl⟩ := Int.eq_ofNat_of_zero_le h
  unfold cutV
  rw [HT.sIx_nat, HT.sIx_none, Int.toNat_natCast, List.drop_zero, Nat.sub_zero]
  by_cases hk : k ≤ xs.length
  · rw [Nat.min_eq_left hk]
  · rw [Nat.min_eq_right (by omega), List.take_of_length_le (Nat.le_refl _), List.take_of_length_le (by omega)]
theorem cut_ft {xs : List V} (h : 0 ≤ i) (h2 : 0 ≤ j) : cutV xs (some i) (some j) = (xs.drop i.toNat).take (j.toNat - i.toNat) := by
  obtain ⟨k, rfl⟩ := Int.eq_ofNat_of_zero_le h
  obtain ⟨l, rfl⟩ := Int.eq_ofNat_of_zero_le h2
  unfold cutV
  rw [HT.sIx_nat, HT.sIx_nat, Int.toNat_natCast, Int.toNat_natCast]
  by_cases hk : k ≤ xs.length
  · rw [Nat.min_eq_left hk]
    by_cases hl : l ≤ xs.length
    · rw [Nat.min_eq_left hl]
    · rw [Nat.min_eq_right (by omega), List.take_of_length_le (by rw [List.length_drop]; exact Nat.le_refl _), List.take_of_length_le (by rw [List.length_drop]; omega)]
  · rw [Nat.min_eq_right (by omega : xs.length ≤ k), List.drop_eq_nil_of_le (Nat.le_refl _), List.drop_eq_nil_of_le (by omega), List.take_nil, List.take_nil]
theorem w_slLIf {ns : List Int} (h : SqL K H a (ns.map V.int)) (h0 : 0 ≤ i) (q : ∀ p H2, Fr H p → Ex H H2 → At H2 p (.lst ((ns.drop i.toNat).map V.int)) → Q (.ref p) H2) : rSlL K (.ref a) (some i) none H Q := w_slL h fun p H2 a b c => q p H2 a b (by unfold At at *; rw [c, cut_from h0, List.map_drop])
theorem w_slLIt {ns : List Int} (h : SqL K H a (ns.map V.int)) (h0 : 0 ≤ i) (q : ∀ p H2, Fr H p → Ex H H2 → At H2 p (.lst ((ns.take i.toNat).map V.int)) → Q (.ref p) H2) : rSlL K (.ref a) none (some i) H Q := w_slL h fun p H2 a b c => q p H2 a b (by unfold At at *; rw [c, cut_to h0, List.map_take])
theorem w_slLIft {ns : List Int} (h : SqL K H a (ns.map V.int)) (h0 : 0 ≤ i) (h1 : 0 ≤ j) (q : ∀ p H2, Fr H p → Ex H H2 → At H2 p (.lst (((ns.drop i.toNat).take (j.toNat - i.toNat)).map V.int)) → Q (.ref p) H2) : rSlL K (.ref a) (some i) (some j) H Q := w_slL h fun p H2 a b c => q p H2 a b (by unfold At at *; rw [c, cut_ft h0 h1, List.map_take, List.map_drop])
theorem w_ins {k : Nat} (h : At H a (.lst xs)) (hz : xs.length < sizeLine) (hk : i.toNat = k) (h0 : 0 ≤ i) (h1 : i < 2 ^ 63) (q : ∀ H2, At H2 a (.lst (xs.take k ++ [v] ++ xs.drop k)) → Nl H H2 → (∀ H0, Ex H0 H → Fr H0 a → Ex H0 H2) → (∀ b o, b ≠ a → At H b o → At H2 b o) → Q .non H2) : rIns (.ref a) [.int i, v] H Q :=
  ⟨a, xs, i, v, rfl, rfl, h, hz, h0, h1, q _ (by unfold At; rw [upd_same, hk]) (Nl.upd h) (fun H0 e n => Ex.mut e n) (fun b o hb e => by unfold At; rw [upd_ne hb]; exact e)⟩
theorem w_gT {n : Nat} {t : TGs} {R : L2.St → Hp → Prop} (h : SqT K H a xs) (hn : xs.length = n) (q : t xs σ H R) : gTup K n t (.ref a) σ H R := ⟨a, xs, rfl, h, hn, q⟩
theorem w_gC {g : TG} {u : TGs} {R : L2.St → Hp → Prop} (q : g v σ H fun σ' H' => u xs σ' H' R) : gCons g u (v :: xs) σ H R := ⟨v, xs, rfl, q⟩
theorem w_gN {R : L2.St → Hp → Prop} (q : R σ H) : gNil [] σ H R := ⟨rfl, q⟩
theorem w_yes {Q : Bool → Hp → Prop} (h : Q true H) : tYes σ H Q := h
theorem w_wp {A : Prop} {vs : List Nat} {σ1 σ2 : L2.St} (h : wipe σ1 vs = wipe σ2 vs) (k : A) : wipe σ1 vs = wipe σ2 vs ∧ A := ⟨h, k⟩
theorem w_setL {k : Nat} {R : Hp → Prop} (h : At H a (.lst xs)) (h0 : ixN xs.length i = some k) (q : ∀ H2, At H2 a (.lst (xs.set k v)) → Nl H H2 → (∀ H0, Ex H0 H → Fr H0 a → Ex H0 H2) → (∀ b o, b ≠ a → At H b o → At H2 b o) → R H2) : rSetL (.ref a) (.int i) v H R :=
  ⟨a, xs, i, k, rfl, rfl, h, h0, q _ upd_same (Nl.upd h) (fun H0 e n => Ex.mut e n) (fun b o hb e => by unfold At; rw [upd_ne hb]; exact e)⟩
/-! == of lists and tuples of ints that are the same -/
theorem dpAll_ints : ∀ ns : List Int, DpAll K H (ns.map V.int) (ns.map PyData.int)
  | [] => .nil
  | n :: r => .cons (.int n) (dpAll_ints r)
theorem eqvAll_ints : ∀ ns ms : List Int, PyData.eqvAll (ns.map PyData.int) (ms.map PyData.int) = decide (ns = ms)
  | [], [] => by simp [PyData.eqvAll]
  | [], _ :: _ => by simp [PyData.eqvAll]
  | _ :: _, [] => by simp [PyData.eqvAll]
  | a :: r, b :: t => by
    simp only [List.map_cons, PyData.eqvAll, PyData.eqv, eqvAll_ints r t]
    by_cases h : a = b <;> by_cases h' : r = t <;> simp [h, h']
theorem shaped_tup (ns : List Int) : SeqAt.shaped (.tuple (ns.map PyData.int)) = true := by
  simp [SeqAt.shaped, PyData.canLay0, PyData.depth, PySem.W.ke_canLayAll0, PySem.W.ke_depthAll]
theorem w_eqLI {ns ms : List Int} (h1 : SqL K H a (ns.map V.int)) (h2 : SqL K H b (ms.map V.int)) (q : Q (.bl (decide (ns = ms))) H) : rEqZ K (.ref a) (.ref b) H Q :=
  .inr ⟨_, _, .lst h1 (dpAll_ints ns), .lst h2 (dpAll_ints ms), PySem.W.ke_shaped_ints ns, PySem.W.ke_shaped_ints ms, by simp only [PyData.eqv, eqvAll_ints]; exact q⟩
theorem w_neLI {ns ms : List Int} (h1 : SqL K H a (ns.map V.int)) (h2 : SqL K H b (ms.map V.int)) (q : Q (.bl (!decide (ns = ms))) H) : rNeZ K (.ref a) (.ref b) H Q :=
  .inr ⟨_, _, .lst h1 (dpAll_ints ns), .lst h2 (dpAll_ints ms), PySem.W.ke_shaped_ints ns, PySem.W.ke_shaped_ints ms, by simp only [PyData.eqv, eqvAll_ints]; exact q⟩
theorem w_eqTI {ns ms : List Int} (h1 : SqT K H a (ns.map V.int)) (h2 : SqT K H b (ms.map V.int)) (q : Q (.bl (decide (ns = ms))) H) : rEqZ K (.ref a) (.ref b) H Q :=
  .inr ⟨_, _, .tup h1 (dpAll_ints ns), .tup h2 (dpAll_ints ms), shaped_tup ns, shaped_tup ms, by simp only [PyData.eqv, eqvAll_ints]; exact q⟩
theorem w_neTI {ns ms : List Int} (h1 : SqT K H a (ns.map V.int)) (h2 : SqT K H b (ms.map V.int)) (q : Q (.bl (!decide (ns = ms))) H) : rNeZ K (.ref a) (.ref b) H Q :=
  .inr ⟨_, _, .tup h1 (dpAll_ints ns), .tup h2 (dpAll_ints ms), shaped_tup ns, shaped_tup ms, by simp only [PyData.eqv, eqvAll_ints]; exact q⟩
theorem w_shl {k : Nat} (hk : k ≤ 134217727) (q : Q (.int (2 ^ k)) H) : rShl (.int 1) (.int (k : Int)) H Q := ⟨k, rfl, rfl, hk, q⟩
theorem w_shr {n k : Nat} (q : Q (.int ((n / 2 ^ k : Nat) : Int)) H) : rShr (.int (n : Int)) (.int (k : Int)) H Q := ⟨n, k, rfl, rfl, q⟩
theorem w_odd {n : Nat} (q : Q (.int ((n % 2 : Nat) : Int)) H) : rOdd (.int (n : Int)) (.int 1) H Q := ⟨n, rfl, rfl, q⟩
theorem w_sum {ns : List Int} (h : SqL K H a (ns.map V.int)) (q : Q (.int ns.sum) H) : rSum K [.ref a] H Q := ⟨a, ns, rfl, h, q⟩
theorem w_max2 (q : Q (.int (max i j)) H) : rMax2 [.int i, .int j] H Q := ⟨i, j, rfl, by
  have e : (if j > i then j else i) = max i j := by split <;> omega
  rw [e]; exact q⟩
theorem w_min2 (q : Q (.int (min i j)) H) : rMin2 [.int i, .int j] H Q := ⟨i, j, rfl, by
  have e : (if j < i then j else i) = min i j := by split <;> omega
  rw [e]; exact q⟩
/-! membership among ints -/
theorem inV_int {ns : List Int} : inV (.int i) (ns.map V.int) = decide (i ∈ ns) := by
  unfold inV
  induction ns with
  | nil => simp
  | cons n r ih =>
    rw [List.map_cons, List.any_cons, ih]
    have e : eqV (.int n) (.int i) = decide (n = i) := by unfold eqV; rfl
    rw [e]
    by_cases h : n = i
    · subst h; simp
    · have h' : ¬ i = n := fun z => h z.symm
      simp [h, h']
theorem flat_ints {ns : List Int} : (ns.map V.int).all flatV = true := by
  rw [List.all_map]
  exact List.all_eq_true.mpr fun _ _ => rfl
theorem w_inT {ns : List Int} (h : SqT K H a (ns.map V.int)) (q : Q (.bl (decide (i ∈ ns))) H) : rIn K false (.int i) (.ref a) H Q := ⟨a, _, rfl, .inr h, rfl, flat_ints, by rw [inV_int]; exact q⟩
theorem w_ninT {ns : List Int} (h : SqT K H a (ns.map V.int)) (q : Q (.bl (!decide (i ∈ ns))) H) : rIn K true (.int i) (.ref a) H Q := ⟨a, _, rfl, .inr h, rfl, flat_ints, by rw [inV_int]; exact q⟩
theorem w_inL {ns : List Int} (h : SqL K H a (ns.map V.int)) (q : Q (.bl (decide (i ∈ ns))) H) : rIn K false (.int i) (.ref a) H Q := ⟨a, _, rfl, .inl h, rfl, flat_ints, by rw [inV_int]; exact q⟩
theorem w_ninL {ns : List Int} (h : SqL K H a (ns.map V.int)) (q : Q (.bl (!decide (i ∈ ns))) H) : rIn K true (.int i) (.ref a) H Q := ⟨a, _, rfl, .inl h, rfl, flat_ints, by rw [inV_int]; exact q⟩
/-- the ints of a list of ints -/
def unI : List V → Option (List Int)
  | [] => some []
  | .int i :: r => match unI r with
    | some l => some (i :: l)
    | none => none
  | _ => none
theorem unI_ok : ∀ {xs : List V} {ns : List Int}, unI xs = some ns → xs = ns.map V.int
  | [], ns, h => by cases h; rfl
  | x :: r, ns, h => by
    cases x <;> simp only [unI, reduceCtorEq] at h
    split at h
    · rename_i l e
      cases h
      rw [unI_ok e]
      rfl
    · cases h
theorem lU {ns : List Int} (h : SqL K H a xs) (e : unI xs = some ns) : SqL K H a (ns.map V.int) := unI_ok e ▸ h
theorem tU {ns : List Int} (h : SqT K H a xs) (e : unI xs = some ns) : SqT K H a (ns.map V.int) := unI_ok e ▸ h
/-! lists of naturals -/
theorem getD_map_cast (os : List Nat) (k : Nat) : (os.map (fun n : Nat => (n : Int))).getD k 0 = ((os.getD k 0 : Nat) : Int) := by
  simp only [List.getD_eq_getElem?_getD, List.getElem?_map]
  cases os[k]? <;> rfl
theorem getD_get {α : Type} (xs : List α) (k : Nat) (d : α) (h : k < xs.length) : xs.getD k d = xs[k] := by
  rw [List.getD_eq_getElem?_getD, List.getElem?_eq_getElem h]; rfl
theorem w_ixTN {os : List Nat} {k : Nat} (h : SqT K H a ((os.map fun n : Nat => (n : Int)).map V.int)) (hk : i.toNat = k) (h0 : 0 ≤ i) (h1 : i < os.length) (q : Q (.int ((os.getD k 0 : Nat) : Int)) H) : rIx K (.ref a) (.int i) H Q :=
  w_ixTI h hk h0 (by rw [List.length_map]; exact h1) (by rw [getD_map_cast]; exact q)
theorem w_ixLN {os : List Nat} {k : Nat} (h : SqL K H a ((os.map fun n : Nat => (n : Int)).map V.int)) (hk : i.toNat = k) (h0 : 0 ≤ i) (h1 : i < os.length) (q : Q (.int ((os.getD k 0 : Nat) : Int)) H) : rIx K (.ref a) (.int i) H Q :=
  w_ixLI h hk h0 (by rw [List.length_map]; exact h1) (by rw [getD_map_cast]; exact q)
theorem get_nat {os : List Nat} {k : Nat} {x : V} (h : ((os.map fun n : Nat => (n : Int)).map V.int)[k]? = some x) : k < os.length ∧ x = .int ((os.getD k 0 : Nat) : Int) := by
  have h1 : k < os.length := by simpa using (List.getElem?_eq_some_iff.mp h).1
  have h2 : x = ((os.map fun n : Nat => (n : Int)).map V.int)[k]'(by simpa using h1) := by
    rw [List.getElem?_eq_getElem (by simpa using h1)] at h; exact (Option.some.inj h).symm
  refine ⟨h1, ?_⟩
  rw [h2, List.getElem_map, List.getElem_map, getD_get _ _ _ h1]
theorem get_int {ns : List Int} {k : Nat} {x : V} (h : (ns.map V.int)[k]? = some x) : k < ns.length ∧ x = .int (ns.getD k 0) := by
  rw [List.getElem?_map] at h
  cases e : ns[k]? with
  | none => rw [e] at h; cases h
  | some y =>
    rw [e] at h
    cases h
    exact ⟨(List.getElem?_eq_some_iff.mp e).1, by rw [List.getD_eq_getElem?_getD, e]; rfl⟩
/-! isinstance with a built-in class -/
theorem w_isiB {a b : String} {r : Bool} (ty : TyX K H x (.type a)) (h : kitB a b = some r) (q : Q (.bl r) H) : rIsi K [x, .ty b] H Q := ⟨x, _, _, _, r, rfl, .ty b, ty, kit_ty h, q⟩
theorem w_isiII (q : Q (.bl true) H) : rIsi K [.int i, .ty "int"] H Q := w_isiB (.base (.int _)) (by decide +kernel) q
theorem w_isiIB (q : Q (.bl false) H) : rIsi K [.int i, .ty "bool"] H Q := w_isiB (.base (.int _)) (by decide +kernel) q
theorem w_isiBI {k : Bool} (q : Q (.bl true) H) : rIsi K [.bl k, .ty "int"] H Q := w_isiB (.base (.bl _)) (by decide +kernel) q
theorem w_isiBB {k : Bool} (q : Q (.bl true) H) : rIsi K [.bl k, .ty "bool"] H Q := w_isiB (.base (.bl _)) (by decide +kernel) q
theorem w_isiTT (h : At H a (.tup xs)) (q : Q (.bl true) H) : rIsi K [.ref a, .ty "tuple"] H Q := w_isiB (.base (.tup h)) (by decide +kernel) q
theorem w_isiLL (h : At H a (.lst xs)) (q : Q (.bl true) H) : rIsi K [.ref a, .ty "list"] H Q := w_isiB (.base (.lst h)) (by decide +kernel) q
theorem w_isiSS {z : Str} (q : Q (.bl true) H) : rIsi K [.str z, .ty "str"] H Q := w_isiB (.base (.str _)) (by decide +kernel) q
end
/-! ### loops: what is walked (Src), the loop's goal (FG), a comprehension's (CG) -/
/-- J takes n turns while Φ holds; the i-th thing x stands in the heap behind as Y says -/
structure Src (J : It) (Φ : Hp → Prop) (n : Nat) (Y : Nat → V → Hp → Prop) : Prop where
  go : ∀ i H', Φ H' → i < n → J.go i H'
  stop : ∀ H', Φ H' → J.stop n H'
  yld : ∀ i H' x H'', Φ H' → i < n → J.yld i H' x H'' → Ex H' H'' ∧ Y i x H''
def FG (J : It) (g : TG) (tb : TS) (D : Ends) (σ : L2.St) (H1 : Hp) : Prop := ∃ W : Nat → Nat → L2.St → Hp → Prop, (∃ m, W 0 m σ H1) ∧ ∀ i m σ H, W i m σ H →
  (J.stop i H ∧ D.nx σ H) ∨ (J.go i H ∧ ∃ N : L2.St → Hp → Prop, (∀ σ' H', N σ' H' → ∃ m', m' < m ∧ W (i + 1) m' σ' H') ∧ ∀ x H', J.yld i H x H' → g x σ H' fun σ2 H2 => tb { D with nx := N, ct := N, bk := D.nx } σ2 H2)
def CG (J : It) (g : TG) (tt : TT) (te : TE) (vs : List Nat) (σ : L2.St) (H1 : Hp) (Q : VK) : Prop := ∀ D, H1 D = none → ∃ W : Nat → Nat → Hp → Prop, (∃ m, W 0 m (upd H1 D (.lst []))) ∧ ∀ i m H, W i m H →
  (J.stop i H ∧ Q (.ref D) H) ∨ (J.go i H ∧ ∃ Nx : Hp → Prop, (∀ H', Nx H' → ∃ m', m' < m ∧ W (i + 1) m' H') ∧ ∀ x H', J.yld i H x H' → g x (wipe σ vs) H' fun σ2 H2 => wipe σ2 vs = wipe σ vs ∧ tt σ2 H2 fun b H3 =>
    if b = true then te σ2 H3 fun y H4 => ∃ acc, H4 D = some (.lst acc) ∧ acc.length < sizeLine ∧ Nx (upd H4 D (.lst (acc ++ [y]))) else Nx H3)
section
variable {K : PySem.W.Frag} {σ : L2.St} {H H' : Hp} {Q : VK} {v x y : V} {a b p : Addr} {xs ys : List V} {i j : Int} {J : It} {Φ : Hp → Prop} {n : Nat} {Y : Nat → V → Hp → Prop} {g : TG} {tb : TS} {D : Ends} {R : It → Hp → Prop} {tt : TT} {te : TE} {vs : List Nat} {ta : TA}
def dL (K : PySem.W.Frag) (R : It → Hp → Prop) : VK := fun x H1 => ∃ a, x = .ref a ∧ (∃ xs, SqL K H1 a xs) ∧ R (Itl K a) H1
def dT (K : PySem.W.Frag) (R : It → Hp → Prop) : VK := fun x H1 => ∃ a, x = .ref a ∧ (∃ xs, SqT K H1 a xs) ∧ R (Itt K a) H1
def dR1 (R : It → Hp → Prop) : List V → Hp → Prop := fun vs H1 => ∃ j : Int, vs = [.int j] ∧ -(2 ^ 62) ≤ j ∧ j < 2 ^ 62 ∧ R (Itr 0 j.toNat) H1
def dR2 (R : It → Hp → Prop) : List V → Hp → Prop := fun vs H1 => ∃ i j : Int, vs = [.int i, .int j] ∧ (-(2 ^ 62) ≤ i ∧ i < 2 ^ 62 ∧ -(2 ^ 62) ≤ j ∧ j < 2 ^ 62) ∧ R (Itr i (j - i).toNat) H1
def dE (K : PySem.W.Frag) (R : It → Hp → Prop) : List V → Hp → Prop := fun vs H1 => ∃ a xs, vs = [.ref a] ∧ SqL K H1 a xs ∧ R (Ite K a) H1
theorem w_for {wi : TI} (h : wi σ H fun J H1 => FG J g tb D σ H1) : tFor wi g tb D σ H := h
theorem w_lc {wi : TI} (h : wi σ H fun J H1 => CG J g tt te vs σ H1 Q) : tLc wi g tt te vs σ H Q := h
theorem w_iL (h : te σ H (dL K R)) : iList K te σ H R := h
theorem w_iT (h : te σ H (dT K R)) : iTup K te σ H R := h
theorem w_iR1 (h : ta σ H (dR1 R)) : iRng1 ta σ H R := h
theorem w_iR2 (h : ta σ H (dR2 R)) : iRng2 ta σ H R := h
theorem w_iE (h : ta σ H (dE K R)) : iEnum K ta σ H R := h
theorem i_L (h : SqL K H a xs) (k : ∀ J, Src J (fun H' => SqL K H' a xs) xs.length (fun i x _ => xs[i]? = some x) → R J H) : dL K R (.ref a) H :=
  ⟨a, rfl, ⟨xs, h⟩, k _ ⟨fun i H' hp hi => ⟨xs, xs[i], hp, List.getElem?_eq_getElem hi⟩, fun H' hp => ⟨xs, hp, Nat.le_refl _⟩, fun i H' x H'' hp hi hy => by
    obtain ⟨e, f⟩ := hy
    exact ⟨by rw [e]; exact Ex.refl _, f xs hp⟩⟩⟩
theorem i_T (h : SqT K H a xs) (k : ∀ J, Src J (fun H' => SqT K H' a xs) xs.length (fun i x _ => xs[i]? = some x) → R J H) : dT K R (.ref a) H :=
  ⟨a, rfl, ⟨xs, h⟩, k _ ⟨fun i H' hp hi => ⟨xs, xs[i], hp, List.getElem?_eq_getElem hi⟩, fun H' hp => ⟨xs, hp, Nat.le_refl _⟩, fun i H' x H'' hp hi hy => by
    obtain ⟨e, f⟩ := hy
    exact ⟨by rw [e]; exact Ex.refl _, f xs hp⟩⟩⟩
theorem i_R1 (h1 : -(2 ^ 62) ≤ i) (h2 : i < 2 ^ 62) (k : ∀ J, Src J (fun _ => True) i.toNat (fun k x _ => x = .int (k : Nat)) → R J H) : dR1 R [.int i] H :=
  ⟨i, rfl, h1, h2, k _ ⟨fun i H' _ hi => hi, fun H' _ => Nat.le_refl _, fun i H' x H'' _ hi hy => by
    obtain ⟨e, f⟩ := hy
    exact ⟨by rw [e]; exact Ex.refl _, by rw [f, Int.zero_add]⟩⟩⟩
theorem i_R2 (h1 : -(2 ^ 62) ≤ i ∧ i < 2 ^ 62 ∧ -(2 ^ 62) ≤ j ∧ j < 2 ^ 62) (k : ∀ J, Src J (fun _ => True) (j - i).toNat (fun k x _ => x = .int (i + (k : Nat))) → R J H) : dR2 R [.int i, .int j] H :=
  ⟨i, j, rfl, h1, k _ ⟨fun i H' _ hi => hi, fun H' _ => Nat.le_refl _, fun i H' x H'' _ hi hy => by
    obtain ⟨e, f⟩ := hy
    exact ⟨by rw [e]; exact Ex.refl _, f⟩⟩⟩
theorem i_E (h : SqL K H a xs) (k : ∀ J, Src J (fun H' => SqL K H' a xs) xs.length (fun i x H'' => ∃ T y, x = .ref T ∧ At H'' T (.tup [.int (i : Nat), y]) ∧ xs[i]? = some y) → R J H) : dE K R [.ref a] H :=
  ⟨a, xs, rfl, h, k _ ⟨fun i H' hp hi => ⟨xs, xs[i], hp, List.getElem?_eq_getElem hi⟩, fun H' hp => ⟨xs, hp, Nat.le_refl _⟩, fun i H' x H'' hp hi hy => by
    obtain ⟨T, y, e1, e2, e3, f⟩ := hy
    exact ⟨by rw [e3]; exact Ex.new e2, T, y, e1, by rw [e3]; exact upd_same, f xs hp⟩⟩⟩
/-- a for loop by its invariant -/
theorem fg (S : Src J Φ n Y) (Pv : Nat → L2.St → Hp → Prop) (h0 : Pv 0 σ H) (hx : ∀ i σ' H', i ≤ n → Pv i σ' H' → Φ H')
    (hs : ∀ i x σ' H' H'', i < n → Pv i σ' H' → Ex H' H'' → Y i x H'' → g x σ' H'' fun σ2 H2 => tb ⟨Pv (i + 1), D.rt, D.nx, Pv (i + 1)⟩ σ2 H2) (hd : ∀ σ' H', Pv n σ' H' → D.nx σ' H') : FG J g tb D σ H := by
  refine ⟨fun i m σ H => m = n - i ∧ i ≤ n ∧ Pv i σ H, ⟨n, by simp, Nat.zero_le _, h0⟩, ?_⟩
  rintro i m σ H ⟨rfl, hi, p⟩
  have hp := hx i σ H hi p
  by_cases hlt : i < n
  · refine Or.inr ⟨S.go i H hp hlt, Pv (i + 1), fun σ' H' q => ⟨n - (i + 1), by omega, rfl, hlt, q⟩, fun x H' hy => ?_⟩
    obtain ⟨e, y⟩ := S.yld i H x H' hp hlt hy
    exact hs i x σ H H' hlt p e y
  · have e : i = n := by omega
    subst e
    exact Or.inl ⟨S.stop H hp, hd σ H p⟩
/-- a for loop that stores nothing but its own name (slot j) and changes nothing that stood -/
def EndE (H : Hp) (σ : L2.St) (j : Nat) : L2.St → Hp → Prop := fun σ' G' => (∃ v, σ' = σ.set j v) ∧ Ex H G'
theorem fgE (j : Nat) {v0 : Option V} (S : Src J Φ n Y) (hj : σ[j]? = some v0) (hx : ∀ G, Ex H G → Φ G) (hs : ∀ i x G v, i < n → Ex H G → Y i x G → g x (σ.set j v) G fun σ2 H2 => tb ⟨EndE H σ j, D.rt, D.nx, EndE H σ j⟩ σ2 H2) (hd : ∀ v G, Ex H G → D.nx (σ.set j v) G) : FG J g tb D σ H := by
  refine fg S (fun _ σ' G => EndE H σ j σ' G) ⟨⟨v0, ?_⟩, Ex.refl H⟩ (fun i σ' G _ z => hx G z.2) ?_ ?_
  · obtain ⟨h1, h2⟩ := List.getElem?_eq_some_iff.mp hj
    rw [← h2, List.set_getElem_self]
  · rintro i x σ' G G2 hi ⟨⟨v, rfl⟩, e⟩ e2 y
    exact hs i x G2 v hi (e.trans e2) y
  · rintro σ' G ⟨⟨v, rfl⟩, e⟩
    exact hd v G e
/-- a comprehension's list at Dl, between two turns -/
structure CD (H : Hp) (Dl : Addr) (acc : List V) (H' : Hp) : Prop where
  new : Fr H Dl
  ex : Ex H H'
  at_ : At H' Dl (.lst acc)
/-- behind a turn's element -/
def ElE (H : Hp) (Dl : Addr) (acc : List V) : VK := fun y H4 => ∃ acc', At H4 Dl (.lst acc') ∧ acc'.length < sizeLine ∧ CD H Dl acc (upd H4 Dl (.lst (acc' ++ [y])))
theorem ele {H H' H4 : Hp} {Dl : Addr} {acc : List V} {y : V} (c : CD H Dl acc H') (hz : acc.length < sizeLine) (e : Ex H' H4) : ElE H Dl (acc ++ [y]) y H4 :=
  ⟨acc, e.get c.at_, hz, c.new, Ex.mut (c.ex.trans e) c.new, upd_same⟩
/-- a comprehension without a test; the elements are values that hang on no object -/
theorem cgF (S : Src J Φ n Y) (f : Nat → V) (hx : ∀ H', Ex H H' → Φ H') (hz : n ≤ sizeLine)
    (hs : ∀ Dl i x H', i < n → Ex H H' → CD H Dl ((List.range i).map f) H' → Y i x H' → g x (wipe σ vs) H' fun σ2 H2 => wipe σ2 vs = wipe σ vs ∧ tt σ2 H2 fun b H3 => if b = true then te σ2 H3 (ElE H Dl ((List.range i).map f ++ [f i])) else False)
    (q : ∀ p H2, Fr H p → Ex H H2 → At H2 p (.lst ((List.range n).map f)) → Q (.ref p) H2) (htt : tt = tYes) : CG J g tt te vs σ H Q := by
  subst htt
  have er : ∀ i, (List.range i).map f ++ [f i] = (List.range (i + 1)).map f := fun i => by rw [List.range_succ, List.map_append]; rfl
  intro Dl hD
  refine ⟨fun i m H' => m = n - i ∧ i ≤ n ∧ CD H Dl ((List.range i).map f) H', ⟨n, by simp, Nat.zero_le _, hD, Ex.new hD, upd_same⟩, ?_⟩
  rintro i m H1 ⟨rfl, hi, c⟩
  have hp := hx H1 c.ex
  by_cases hlt : i < n
  · refine Or.inr ⟨S.go i H1 hp hlt, fun H' => CD H Dl ((List.range i).map f ++ [f i]) H', fun H' q => ⟨n - (i + 1), by omega, rfl, hlt, er i ▸ q⟩, fun x H' hy => ?_⟩
    obtain ⟨e', y⟩ := S.yld i H1 x H' hp hlt hy
    exact hs Dl i x H' hlt (c.ex.trans e') ⟨c.new, c.ex.trans e', e'.get c.at_⟩ y
  · have e2 : i = n := by omega
    subst e2
    exact Or.inl ⟨S.stop H1 hp, q Dl H1 hD c.ex c.at_⟩
/-- .. ints -/
theorem cgI (S : Src J Φ n Y) (f : Nat → Int) (hx : ∀ H', Ex H H' → Φ H') (hz : n ≤ sizeLine)
    (hs : ∀ Dl i x H', i < n → Ex H H' → CD H Dl ((List.range i).map fun k => V.int (f k)) H' → Y i x H' → g x (wipe σ vs) H' fun σ2 H2 => wipe σ2 vs = wipe σ vs ∧ tt σ2 H2 fun b H3 => if b = true then te σ2 H3 (ElE H Dl ((List.range i).map (fun k => V.int (f k)) ++ [V.int (f i)])) else False)
    (q : ∀ p H2, Fr H p → Ex H H2 → At H2 p (.lst (((List.range n).map f).map V.int)) → Q (.ref p) H2) (htt : tt = tYes) : CG J g tt te vs σ H Q :=
  cgF S (fun k => V.int (f k)) hx hz hs (fun p H2 hn he hp => q p H2 hn he (hp.l (by rw [List.map_map]; rfl))) htt
/-- .. one int again and again -/
theorem cgK {c : Int} (S : Src J Φ n Y) (hx : ∀ H', Ex H H' → Φ H') (hz : n ≤ sizeLine)
    (hs : ∀ Dl i x H' acc, i < n → Ex H H' → CD H Dl acc H' → acc.length < sizeLine → Y i x H' → g x (wipe σ vs) H' fun σ2 H2 => wipe σ2 vs = wipe σ vs ∧ tt σ2 H2 fun b H3 => if b = true then te σ2 H3 (ElE H Dl (acc ++ [V.int c])) else False)
    (q : ∀ p H2, Fr H p → Ex H H2 → At H2 p (.lst ((List.replicate n c).map V.int)) → Q (.ref p) H2) (htt : tt = tYes) : CG J g tt te vs σ H Q :=
  cgF S (fun _ => V.int c) hx hz (fun Dl i x H' hi ec cd y => hs Dl i x H' _ hi ec cd (by rw [List.length_map, List.length_range]; omega) y) (fun p H2 hn he hp => q p H2 hn he (hp.l (by
    apply List.ext_getElem
    · simp
    · intro i h1 h2; simp))) htt
/-- a comprehension with a test: which turns give an element (p), and which (f) -/
theorem cgP (S : Src J Φ n Y) (p : Nat → Bool) (f : Nat → V) (hx : ∀ H', Ex H H' → Φ H') (hz : n ≤ sizeLine)
    (hs : ∀ Dl i x H', i < n → Ex H H' → CD H Dl (((List.range i).filter p).map f) H' → (((List.range i).filter p).map f).length < sizeLine → Y i x H' → g x (wipe σ vs) H' fun σ2 H2 => wipe σ2 vs = wipe σ vs ∧ tt σ2 H2 fun b H3 => if b = true then te σ2 H3 (ElE H Dl (((List.range (i + 1)).filter p).map f)) else CD H Dl (((List.range (i + 1)).filter p).map f) H3)
    (q : ∀ p' H2, Fr H p' → Ex H H2 → At H2 p' (.lst (((List.range n).filter p).map f)) → Q (.ref p') H2) : CG J g tt te vs σ H Q := by
  intro Dl hD
  refine ⟨fun i m H' => m = n - i ∧ i ≤ n ∧ CD H Dl (((List.range i).filter p).map f) H', ⟨n, by simp, Nat.zero_le _, hD, Ex.new hD, upd_same⟩, ?_⟩
  rintro i m H1 ⟨rfl, hi, c⟩
  have hp := hx H1 c.ex
  by_cases hlt : i < n
  · refine Or.inr ⟨S.go i H1 hp hlt, fun H' => CD H Dl (((List.range (i + 1)).filter p).map f) H', fun H' q => ⟨n - (i + 1), by omega, rfl, hlt, q⟩, fun x H' hy => ?_⟩
    obtain ⟨e', y⟩ := S.yld i H1 x H' hp hlt hy
    refine hs Dl i x H' hlt (c.ex.trans e') ⟨c.new, c.ex.trans e', e'.get c.at_⟩ ?_ y
    rw [List.length_map]
    exact Nat.lt_of_le_of_lt (List.length_filter_le _ _) (by rw [List.length_range]; omega)
  · have e2 : i = n := by omega
    subst e2
    exact Or.inl ⟨S.stop H1 hp, q Dl H1 hD c.ex c.at_⟩
theorem fr_T {α : Type} {p : Nat → Bool} {f : Nat → α} {i : Nat} (h : p i = true) : ((List.range (i + 1)).filter p).map f = ((List.range i).filter p).map f ++ [f i] := by
  rw [List.range_succ, List.filter_append, List.map_append]
  simp [h]
theorem fr_F {α : Type} {p : Nat → Bool} {f : Nat → α} {i : Nat} (h : p i = false) : ((List.range (i + 1)).filter p).map f = ((List.range i).filter p).map f := by
  rw [List.range_succ, List.filter_append, List.map_append]
  simp [h]
/-- a comprehension without a test by an invariant of what it has made -/
def ElX (H : Hp) (Dl : Addr) (i : Nat) (Pv : Nat → List V → Hp → Prop) : VK := fun y H4 => ∃ acc, At H4 Dl (.lst acc) ∧ acc.length < sizeLine ∧ ∃ acc', CD H Dl acc' (upd H4 Dl (.lst (acc ++ [y]))) ∧ acc'.length = i + 1 ∧ Pv (i + 1) acc' (upd H4 Dl (.lst (acc ++ [y])))
theorem elx {H H' H4 : Hp} {Dl : Addr} {acc : List V} {y : V} {i : Nat} {Pv : Nat → List V → Hp → Prop} (c : CD H Dl acc H') (hl : acc.length = i) (hz : acc.length < sizeLine) (e : Ex H' H4) (hp : ∀ H5, Nl H4 H5 → Pv (i + 1) (acc ++ [y]) H5) : ElX H Dl i Pv y H4 :=
  ⟨acc, e.get c.at_, hz, acc ++ [y], ⟨c.new, Ex.mut (c.ex.trans e) c.new, upd_same⟩, by simp [hl], hp _ (Nl.upd (e.get c.at_))⟩
theorem cgX (S : Src J Φ n Y) (Pv : Nat → List V → Hp → Prop) (h0 : ∀ H', Ex H H' → Pv 0 [] H') (st : ∀ i acc H1 H2, Pv i acc H1 → Ex H1 H2 → Pv i acc H2) (hx : ∀ H', Ex H H' → Φ H') (hz : n ≤ sizeLine)
    (hs : ∀ Dl i x H' acc, i < n → Ex H H' → CD H Dl acc H' → acc.length = i → Pv i acc H' → Y i x H' → g x (wipe σ vs) H' fun σ2 H2 => wipe σ2 vs = wipe σ vs ∧ tt σ2 H2 fun b H3 => if b = true then te σ2 H3 (ElX H Dl i Pv) else ∃ acc', CD H Dl acc' H3 ∧ acc'.length = i + 1 ∧ Pv (i + 1) acc' H3)
    (q : ∀ p H2 acc, Fr H p → Ex H H2 → At H2 p (.lst acc) → acc.length = n → Pv n acc H2 → Q (.ref p) H2) (htt : tt = tYes) : CG J g tt te vs σ H Q := by
  subst htt
  intro Dl hD
  refine ⟨fun i m H' => m = n - i ∧ i ≤ n ∧ ∃ acc, CD H Dl acc H' ∧ acc.length = i ∧ Pv i acc H', ⟨n, by simp, Nat.zero_le _, [], ⟨hD, Ex.new hD, upd_same⟩, rfl, h0 _ (Ex.new hD)⟩, ?_⟩
  rintro i m H1 ⟨rfl, hi, acc, c, hl, hP⟩
  have hp := hx H1 c.ex
  by_cases hlt : i < n
  · refine Or.inr ⟨S.go i H1 hp hlt, fun H' => ∃ acc, CD H Dl acc H' ∧ acc.length = i + 1 ∧ Pv (i + 1) acc H', fun H' q => ⟨n - (i + 1), by omega, rfl, hlt, q⟩, fun x H' hy => ?_⟩
    obtain ⟨e', y⟩ := S.yld i H1 x H' hp hlt hy
    exact hs Dl i x H' acc hlt (c.ex.trans e') ⟨c.new, c.ex.trans e', e'.get c.at_⟩ hl (st _ _ _ _ hP e') y
  · have e2 : i = n := by omega
    subst e2
    exact Or.inl ⟨S.stop H1 hp, q Dl H1 acc hD c.ex c.at_ hl hP⟩
/-- a while by an invariant that tells a falling number -/
def WB (W : Nat → L2.St → Hp → Prop) (t : TS) (D : Ends) (m : Nat) (σ' : L2.St) : Bool → Hp → Prop := fun b H1 => if b = true then ∃ N : L2.St → Hp → Prop, (∀ σ' H', N σ' H' → ∃ m', m' < m ∧ W m' σ' H') ∧ t { D with nx := N, ct := N, bk := D.nx } σ' H1 else D.nx σ' H1
theorem w_while {c : TT} {t : TS} (W : Nat → L2.St → Hp → Prop) (m0 : Nat) (h0 : W m0 σ H) (hs : ∀ m σ' H', W m σ' H' → c σ' H' (WB W t D m σ')) : tWhile c t D σ H := ⟨W, ⟨m0, h0⟩, hs⟩
section
variable {W : Nat → L2.St → Hp → Prop} {t : TS} {m : Nat}
theorem wb_T (h : t ⟨fun σ2 H2 => ∃ m', m' < m ∧ W m' σ2 H2, D.rt, D.nx, fun σ2 H2 => ∃ m', m' < m ∧ W m' σ2 H2⟩ σ H) : WB W t D m σ true H := ⟨_, fun _ _ h => h, h⟩
theorem wb_F (h : D.nx σ H) : WB W t D m σ false H := h
theorem wb_dec {p : Prop} [Decidable p] (h1 : p → t ⟨fun σ2 H2 => ∃ m', m' < m ∧ W m' σ2 H2, D.rt, D.nx, fun σ2 H2 => ∃ m', m' < m ∧ W m' σ2 H2⟩ σ H) (h2 : ¬ p → D.nx σ H) : WB W t D m σ (decide p) H := by
  by_cases h : p
  · rw [decide_eq_true h]; exact wb_T (h1 h)
  · rw [decide_eq_false h]; exact wb_F (h2 h)
end
end
end Z
namespace Z
open PySem L2
/-! ### own classes: what the top says of one, as one truth value -/
structure OwnC (K : PySem.W.Frag) (C : Addr) : Prop where
  cl : Cls K C
  sf : PySem.W.selfFirst K C = true
  ca : PySem.W.findIn K (.ref C) "__class__" = some (some (.builtin "object.__class__"))
  cn : PySem.W.specialIn K (.builtin "object.__class__") "__get__" = some (some (.builtin "getset_descriptor.__get__"))
  ct : PySem.W.takesIn K (.builtin "object.__class__") = some true
  cm : PySem.W.mroIn K C (.type "object") = some true
  ni : PySem.W.subIn K (.type "int") (.ref C) = some false
  ni' : PySem.W.subIn K (.ref C) (.type "int") = some false
  kCI : PySem.W.kitOne K (.ref C) (.type "int") = some false
  kIC : PySem.W.kitOne K (.type "int") (.ref C) = some false
  kCC : PySem.W.kitOne K (.ref C) (.ref C) = some true
def ownB (K : PySem.W.Frag) (x : Str) : Bool := (He.Fa.cls x).ok K && (PySem.W.selfFirst K (He.ga K x) && (decide (PySem.W.findIn K (.ref (He.ga K x)) "__class__" = some (some (.builtin "object.__class__"))) &&
  (decide (PySem.W.specialIn K (.builtin "object.__class__") "__get__" = some (some (.builtin "getset_descriptor.__get__"))) && (decide (PySem.W.takesIn K (.builtin "object.__class__") = some true) && (decide (PySem.W.mroIn K (He.ga K x) (.type "object") = some true) &&
  (decide (PySem.W.subIn K (.type "int") (.ref (He.ga K x)) = some false) && (decide (PySem.W.subIn K (.ref (He.ga K x)) (.type "int") = some false) && (decide (PySem.W.kitOne K (.ref (He.ga K x)) (.type "int") = some false) &&
  (decide (PySem.W.kitOne K (.type "int") (.ref (He.ga K x)) = some false) && decide (PySem.W.kitOne K (.ref (He.ga K x)) (.ref (He.ga K x)) = some true))))))))))
theorem ownB_ok {K : PySem.W.Frag} {x : Str} (h : ownB K x = true) : OwnC K (He.ga K x) := by
  obtain ⟨h1, h⟩ := He.ba h
  obtain ⟨h2, h⟩ := He.ba h
  obtain ⟨h3, h⟩ := He.ba h
  obtain ⟨h4, h⟩ := He.ba h
  obtain ⟨h5, h⟩ := He.ba h
  obtain ⟨h6, h⟩ := He.ba h
  obtain ⟨h7, h⟩ := He.ba h
  obtain ⟨h8, h⟩ := He.ba h
  obtain ⟨h9, h⟩ := He.ba h
  obtain ⟨h10, h11⟩ := He.ba h
  exact ⟨He.cls_ok h1, h2, of_decide_eq_true h3, of_decide_eq_true h4, of_decide_eq_true h5, of_decide_eq_true h6, of_decide_eq_true h7, of_decide_eq_true h8, of_decide_eq_true h9, of_decide_eq_true h10, of_decide_eq_true h11⟩
/-! ### own operators -/
section
variable {X : Cx} {CX : CXT} {n : Nat} {C g : Addr} {sp : Sp} {E : XK}
theorem inst_of {pins : List (Addr × Obj)} {σ : L2.St} {H : Hp} {s : Shared} {a dx : Addr} {fs : List (Str × V)} (I : Inv X pins σ H s) (h : At H a (.ins C dx fs)) : ∃ od, PySem.W.InstAt s.heap a (PySem.W.instObj C dx) C (some od) := by
  obtain ⟨mA, O, _⟩ := ins_get I.hok h
  obtain ⟨od, J, _⟩ := O.look
  exact ⟨od, J⟩
/-- int has both slots of an operator, or it is known that it lacks one -/
def IntHas (nm : String) : Prop := ∀ K : PySem.W.Frag, (∃ fo, PySem.W.findIn K (.type "int") (PySem.dunder nm) = some fo) ∧ ∃ ro, PySem.W.findIn K (.type "int") (dunderR nm) = some ro
theorem has_add : IntHas "add" := fun _ => ⟨⟨some (.builtin "int.__add__"), by kernel_rfl⟩, some (.builtin "int.__radd__"), by kernel_rfl⟩
theorem has_sub : IntHas "sub" := fun _ => ⟨⟨some (.builtin "int.__sub__"), by kernel_rfl⟩, some (.builtin "int.__rsub__"), by kernel_rfl⟩
theorem has_mul : IntHas "mul" := fun _ => ⟨⟨some (.builtin "int.__mul__"), by kernel_rfl⟩, some (.builtin "int.__rmul__"), by kernel_rfl⟩
theorem has_floordiv : IntHas "floordiv" := fun _ => ⟨⟨some (.builtin "int.__floordiv__"), by kernel_rfl⟩, some (.builtin "int.__rfloordiv__"), by kernel_rfl⟩
theorem has_mod : IntHas "mod" := fun _ => ⟨⟨some (.builtin "int.__mod__"), by kernel_rfl⟩, some (.builtin "int.__rmod__"), by kernel_rfl⟩
/-- a op b, both of the class at C -/
def rOO (C : Addr) (sp : Sp) (E : XK) : R2 := fun x y H Q => ∃ a dx fs b dy gs, x = .ref a ∧ y = .ref b ∧ At H a (.ins C dx fs) ∧ At H b (.ins C dy gs) ∧ sp [x, y] H Q E
/-- a op i, a of the class at C, i an int -/
def rOI (C : Addr) (sp : Sp) (E : XK) : R2 := fun x y H Q => ∃ a dx fs i, x = .ref a ∧ y = .int i ∧ At H a (.ins C dx fs) ∧ sp [x, y] H Q E
theorem op_OO {op : Operator} (O : OwnC X.K C) (hs : PySem.W.findIn X.K (.ref C) (PySem.dunder op.info.2) = some (some (.ref g))) (hf : PySem.W.isFn X.K (.ref g) = true) (F : FnR X.prog X.w X.K X.mg X.base CX n g sp) (hr : Room n X.A) (hx : Passes CX X E) :
    OpR X (binaryOp op) (rOO C sp E) := by
  intro pins s σ H x y v u Q I rx ry h
  obtain ⟨a, dx, fs, b, dy, gs, rfl, rfl, ha, hb, q⟩ := h
  cases (show v = Value.ref a from rx)
  cases (show u = Value.ref b from ry)
  obtain ⟨od, J⟩ := inst_of I ha
  obtain ⟨od', J'⟩ := inst_of I hb
  obtain ⟨m, hF⟩ := I.fr
  refine PySem.W.binop_K hF I.ok.mod.kin J J'.type O.sf hs hf (wpAny_mono (wpAny_call (run_fnR (us := [.ref a, .ref b]) (vs := [.ref a, .ref b]) F hr hx I (.cons rfl (.cons rfl .nil)) q)) (fun w s' z => ?_) fun _ _ x => x)
  obtain ⟨z', H', I', rz, qz⟩ := z
  exact SlX.cmpback rz ⟨z', H', I', rz, qz⟩
theorem op_OI {op : Operator} {rc : Option Value} (O : OwnC X.K C) (hs : PySem.W.findIn X.K (.ref C) (PySem.dunder op.info.2) = some (some (.ref g))) (hf : PySem.W.isFn X.K (.ref g) = true)
    (hr' : PySem.W.findIn X.K (.ref C) (dunderR op.info.2) = some rc) (hp : rc = none ∨ ∃ g : Addr, rc = some (.ref g)) (h12 : IntHas op.info.2)
    (F : FnR X.prog X.w X.K X.mg X.base CX n g sp) (hr : Room n X.A) (hx : Passes CX X E) : OpR X (binaryOp op) (rOI C sp E) := by
  intro pins s σ H x y v u Q I rx ry h
  obtain ⟨a, dx, fs, i, rfl, rfl, ha, q⟩ := h
  cases (show v = Value.ref a from rx)
  obtain ⟨t, rfl⟩ := (show ∃ t, u = Value.int i t from ry)
  obtain ⟨od, J⟩ := inst_of I ha
  obtain ⟨m, hF⟩ := I.fr
  refine PySem.W.ksp_binT (T := "int") hF I.ok.mod.kin J rfl O.sf hs hf hr' hp (h12 X.K).1.choose_spec (h12 X.K).2.choose_spec O.ni (wpAny_mono (wpAny_call (run_fnR (us := [.ref a, .int i t]) (vs := [.ref a, .int i]) F hr hx I (.cons rfl (.cons ⟨t, rfl⟩ .nil)) q)) (fun w s' z => ?_) fun _ _ x => x)
  obtain ⟨z', H', I', rz, qz⟩ := z
  exact SlX.cmpback rz ⟨z', H', I', rz, qz⟩
/-- -a -/
def rUO (C : Addr) (sp : Sp) (E : XK) : V → Hp → VK → Prop := fun x H Q => ∃ a dx fs, x = .ref a ∧ At H a (.ins C dx fs) ∧ sp [x] H Q E
theorem un_O (hs : PySem.W.findIn X.K (.ref C) "__neg__" = some (some (.ref g))) (hf : PySem.W.isFn X.K (.ref g) = true) (F : FnR X.prog X.w X.K X.mg X.base CX n g sp) (hr : Room n X.A) (hx : Passes CX X E) : UnR X (unaryOp .USub) (rUO C sp E) := by
  intro pins s σ H x v Q I rx h
  obtain ⟨a, dx, fs, rfl, ha, q⟩ := h
  cases (show v = Value.ref a from rx)
  obtain ⟨od, J⟩ := inst_of I ha
  obtain ⟨m, hF⟩ := I.fr
  exact PySem.W.ksp_neg hF I.ok.mod.kin J hs hf (wpAny_call (run_fnR (us := [.ref a]) (vs := [.ref a]) F hr hx I (.cons rfl .nil) q))
/-- a op b by an own comparison, b of the same class or an int -/
theorem cmp_OO {op : CmpOp} (hop : ∀ a b, compareOp op a b = richCompare op a b) (O : OwnC X.K C) (hs : PySem.W.findIn X.K (.ref C) (cmpInfo op).2.1 = some (some (.ref g))) (hf : PySem.W.isFn X.K (.ref g) = true) (F : FnR X.prog X.w X.K X.mg X.base CX n g sp) (hr : Room n X.A) (hx : Passes CX X E) :
    OpR X (compareOp op) (rOO C sp E) := by
  intro pins s σ H x y v u Q I rx ry h
  obtain ⟨a, dx, fs, b, dy, gs, rfl, rfl, ha, hb, q⟩ := h
  cases (show v = Value.ref a from rx)
  cases (show u = Value.ref b from ry)
  obtain ⟨od, J⟩ := inst_of I ha
  obtain ⟨od', J'⟩ := inst_of I hb
  obtain ⟨m, hF⟩ := I.fr
  rw [hop]
  refine PySem.W.cmp_K (op := op) (tb := .ref C) hr.units0 hF I.ok.mod.kin J J'.type (by simp [PySem.W.notFirst]) hs hf (wpAny_mono (wpAny_call (run_fnR (us := [.ref a, .ref b]) (vs := [.ref a, .ref b]) F hr hx I (.cons rfl (.cons rfl .nil)) q)) (fun w s' z => ?_) fun _ _ x => x)
  obtain ⟨z', H', I', rz, qz⟩ := z
  exact SlX.cmpback rz ⟨z', H', I', rz, qz⟩
theorem cmp_OI {op : CmpOp} (hop : ∀ a b, compareOp op a b = richCompare op a b) (O : OwnC X.K C) (hs : PySem.W.findIn X.K (.ref C) (cmpInfo op).2.1 = some (some (.ref g))) (hf : PySem.W.isFn X.K (.ref g) = true) (F : FnR X.prog X.w X.K X.mg X.base CX n g sp) (hr : Room n X.A) (hx : Passes CX X E) :
    OpR X (compareOp op) (rOI C sp E) := by
  intro pins s σ H x y v u Q I rx ry h
  obtain ⟨a, dx, fs, i, rfl, rfl, ha, q⟩ := h
  cases (show v = Value.ref a from rx)
  obtain ⟨t, rfl⟩ := (show ∃ t, u = Value.int i t from ry)
  obtain ⟨od, J⟩ := inst_of I ha
  obtain ⟨m, hF⟩ := I.fr
  rw [hop]
  refine PySem.W.cmp_K (op := op) (tb := .type "int") hr.units0 hF I.ok.mod.kin J (PySem.W.Looks.of_pure rfl) (by simp [PySem.W.notFirst, O.ni]) hs hf (wpAny_mono (wpAny_call (run_fnR (us := [.ref a, .int i t]) (vs := [.ref a, .int i]) F hr hx I (.cons rfl (.cons ⟨t, rfl⟩ .nil)) q)) (fun w s' z => ?_) fun _ _ x => x)
  obtain ⟨z', H', I', rz, qz⟩ := z
  exact SlX.cmpback rz ⟨z', H', I', rz, qz⟩
/-! an int on the left: its own slot hands back NotImplemented -/
theorem asInt_ref {M : Model} {A : Around} {E : Value → Shared → Prop} {s : Shared} {x dx C : Addr} {Q : Option Int → Shared → Prop} (ho : s.heap.get? x = some (PySem.W.instObj C dx)) (h : Q none s) : wpAny M A (asInt? (.ref x)) Q E s := by
  unfold asInt?
  exact wpAny_bind (wpAny_load ho (wpAny_pure h))
theorem intBinary_ni {M : Model} {A : Around} {E : Value → Shared → Prop} {s : Shared} {x dx C : Addr} {nm : String} {f : Int → Int → Sem Fin} {i : Int} {t : Tok} {Q : Fin → Shared → Prop} (ho : s.heap.get? x = some (PySem.W.instObj C dx))
    (h : Q (.done (.ret .notImplemented)) s) : wpAny M A (Builtin.Int.intBinary nm f false ⟨[.int i t, .ref x], []⟩) Q E s := by
  unfold Builtin.Int.intBinary
  refine wpAny_bind (wpAny_of_eq (a := ((Value.int i t : Value), [Value.ref x])) (by first | rfl | (simp only [slotArgs]; rfl)) ?_)
  refine wpAny_bind (wpAny_of_eq (a := i) (by first | rfl | (simp only [Builtin.intOfSelf]; rfl)) ?_)
  refine wpAny_bind (asInt_ref ho ?_)
  exact wpAny_bind (wpAny_rule (wpAny_pure h))
theorem int_ni {prog : Program} {w : World} {A : Around} {E : Value → Shared → Prop} {s : Shared} {x dx C : Addr} {id : String} {name : Str} {B : Builtin} {i : Int} {t : Tok} {Q : Value → Shared → Prop} (slot : Slot "int" name id) (entry : entryFor table id = some B)
    (args : argsOk id ⟨[.int i t, .ref x], []⟩) (hB : ∃ nm f, B = Builtin.Int.intBinary nm f false) (ho : s.heap.get? x = some (PySem.W.instObj C dx)) (h : Q .notImplemented s) : wpAny (model prog w) A (call (.builtin id) [.int i t, .ref x]) Q E s := by
  obtain ⟨nm, f, rfl⟩ := hB
  exact call_meets (S := fun _ R s' => s' = s ∧ R (.ok (.ret .notImplemented)) s) slot (typeIs_int s i t) entry args (fun prog w A R s' hs => by
    obtain ⟨rfl, hs⟩ := hs
    exact intBinary_ni ho hs) ⟨rfl, h⟩
theorem bin_IO {prog : Program} {w : World} {A : Around} {E : Value → Shared → Prop} {s : Shared} {K : PySem.W.Frag} {x dx C f f' : Addr} {od : Option Obj} {op : Operator} {id : String} {B : Builtin} {i : Int} {t : Tok} {Q : Value → Shared → Prop}
    (X : K.In s.heap) (I : PySem.W.InstAt s.heap x (PySem.W.instObj C dx) C od) (hc : PySem.W.selfFirst K C = true) (fills : fillsNumberSlot (.type "int") op.info.2 = pure true) (slot : Slot "int" (PySem.dunder op.info.2) id) (entry : entryFor table id = some B)
    (args : argsOk id ⟨[.int i t, .ref x], []⟩) (hB : ∃ nm f, B = Builtin.Int.intBinary nm f false) (hs : PySem.W.findIn K (.ref C) (PySem.dunder op.info.2) = some (some (.ref f'))) (hR : PySem.W.findIn K (.ref C) (dunderR op.info.2) = some (some (.ref f))) (hf : PySem.W.isFn K (.ref f) = true)
    (hsub : PySem.W.subIn K (.ref C) (.type "int") = some false) (h : wpAny (model prog w) A (call (.ref f) [.ref x, .int i t]) (PySem.W.CmpBack Q) E s) : wpAny (model prog w) A (binaryOp op (.int i t) (.ref x)) Q E s := by
  obtain ⟨cd, rest, hcd, hm⟩ := PySem.W.ksp_first hc
  rcases hi : op.info with ⟨sym, nm⟩
  rw [hi] at fills slot hs hR
  dsimp only at fills slot hs hR
  have hx : s.heap.get? x = some (PySem.W.instObj C dx) := I.1
  have two := PySem.W.ksp_try X I hR hf h
  have one : wpAny (model prog w) A (tryMethod (.int i t) (PySem.dunder nm) (.ref x)) (fun r s' => r = none ∧ s' = s) E s := by
    simp only [tryMethod]
    exact wpAny_bind (wpAny_callSpecial?_slot (typeIs_int s i t) slot (int_ni slot entry args hB hx (wpAny_pure ⟨rfl, rfl⟩)))
  have L1 : PySem.W.Looks (model prog w) s.heap (typeOf (.ref x)) (.ref C) := I.type
  have L3 : PySem.W.Looks (model prog w) s.heap (fillsNumberSlot (.ref C) nm) true := PySem.W.fills_K X hcd hm hs
  have L5 : PySem.W.Looks (model prog w) s.heap (isSubtype (.ref C) (.type "int")) false := PySem.W.looks_subIn X hsub
  have L7 : numberSlotInPython (.type "int") nm = pure false := rfl
  have ne : (Value.type "int" == Value.ref C) = false := Bool.eq_false_iff.mpr fun q => by cases beq_iff_eq.mp q
  simp only [binaryOp, hi]
  refine wpAny_holding (wpAny_bind ?_)
  unfold binaryOp1
  refine wpAny_bind (wpAny_typeOf (typeIs_int s i t) (wpAny_bind (L1.here (wpAny_bind (wpAny_of_eq fills ?_)))))
  simp only [ne, Bool.false_eq_true, if_false]
  refine wpAny_bind (L3.here ?_)
  simp only [Bool.and_self, if_true]
  refine wpAny_bind (L5.here ?_)
  simp only [Bool.false_eq_true, if_false, Bool.not_false, Bool.and_self, if_true, pure_bind, L7]
  refine wpAny_bind (wpAny_mono one (fun r s' hr => ?_) fun _ _ e => e)
  obtain ⟨rfl, rfl⟩ := hr
  dsimp only
  refine wpAny_bind (wpAny_mono two (fun r s' hr => ?_) fun _ _ e => e)
  obtain ⟨v, rfl, hq⟩ := hr
  exact wpAny_bind (wpAny_rule (wpAny_pure (wpAny_pure hq)))
/-- i op a -/
def rIO (C : Addr) (sp : Sp) (E : XK) : R2 := fun x y H Q => ∃ a dx fs i, x = .int i ∧ y = .ref a ∧ At H a (.ins C dx fs) ∧ sp [y, x] H Q E
theorem op_IO {op : Operator} {id : String} {B : Builtin} {f' : Addr} (O : OwnC X.K C) (hR : PySem.W.findIn X.K (.ref C) (dunderR op.info.2) = some (some (.ref g))) (hf : PySem.W.isFn X.K (.ref g) = true) (hs : PySem.W.findIn X.K (.ref C) (PySem.dunder op.info.2) = some (some (.ref f')))
    (fills : fillsNumberSlot (.type "int") op.info.2 = pure true) (slot : Slot "int" (PySem.dunder op.info.2) id) (entry : entryFor table id = some B) (args : ∀ a b, argsOk id ⟨[a, b], []⟩) (hB : ∃ nm f, B = Builtin.Int.intBinary nm f false)
    (F : FnR X.prog X.w X.K X.mg X.base CX n g sp) (hr : Room n X.A) (hx : Passes CX X E) : OpR X (binaryOp op) (rIO C sp E) := by
  intro pins s σ H x y v u Q I rx ry h
  obtain ⟨a, dx, fs, i, rfl, rfl, ha, q⟩ := h
  obtain ⟨t, rfl⟩ := (show ∃ t, v = Value.int i t from rx)
  cases (show u = Value.ref a from ry)
  obtain ⟨od, J⟩ := inst_of I ha
  refine bin_IO I.kIn J O.sf fills slot entry (args _ _) hB hs hR hf O.ni' (wpAny_mono (wpAny_call (run_fnR (us := [.ref a, .int i t]) (vs := [.ref a, .int i]) F hr hx I (.cons rfl (.cons ⟨t, rfl⟩ .nil)) q)) (fun w s' z => ?_) fun _ _ x => x)
  obtain ⟨z', H', I', rz, qz⟩ := z
  exact SlX.cmpback rz ⟨z', H', I', rz, qz⟩
theorem addIO {f' : Addr} (O : OwnC X.K C) (hR : PySem.W.findIn X.K (.ref C) "__radd__" = some (some (.ref g))) (hf : PySem.W.isFn X.K (.ref g) = true) (hs : PySem.W.findIn X.K (.ref C) "__add__" = some (some (.ref f'))) (F : FnR X.prog X.w X.K X.mg X.base CX n g sp) (hr : Room n X.A) (hx : Passes CX X E) : OpR X (binaryOp .Add) (rIO C sp E) :=
  op_IO (op := .Add) O hR hf hs PySem.F.fills_int_add PySem.F.slot_int_add PySem.F.entry_int_add PySem.F.args_int_add_2 ⟨_, _, rfl⟩ F hr hx
theorem subIO {f' : Addr} (O : OwnC X.K C) (hR : PySem.W.findIn X.K (.ref C) "__rsub__" = some (some (.ref g))) (hf : PySem.W.isFn X.K (.ref g) = true) (hs : PySem.W.findIn X.K (.ref C) "__sub__" = some (some (.ref f'))) (F : FnR X.prog X.w X.K X.mg X.base CX n g sp) (hr : Room n X.A) (hx : Passes CX X E) : OpR X (binaryOp .Sub) (rIO C sp E) :=
  op_IO (op := .Sub) O hR hf hs PySem.F.fills_int_sub PySem.F.slot_int_sub PySem.F.entry_int_sub PySem.F.args_int_sub_2 ⟨_, _, rfl⟩ F hr hx
theorem mulIO {f' : Addr} (O : OwnC X.K C) (hR : PySem.W.findIn X.K (.ref C) "__rmul__" = some (some (.ref g))) (hf : PySem.W.isFn X.K (.ref g) = true) (hs : PySem.W.findIn X.K (.ref C) "__mul__" = some (some (.ref f'))) (F : FnR X.prog X.w X.K X.mg X.base CX n g sp) (hr : Room n X.A) (hx : Passes CX X E) : OpR X (binaryOp .Mult) (rIO C sp E) :=
  op_IO (op := .Mult) O hR hf hs PySem.F.fills_int_mul PySem.F.slot_int_mul PySem.F.entry_int_mul PySem.F.args_int_mul_2 ⟨_, _, rfl⟩ F hr hx
/-- abs(a) by an own __abs__ -/
def rC1 (C : Addr) (sp : Sp) (E : XK) : List V → Hp → VK → Prop := fun xs H Q => ∃ a dx fs, xs = [V.ref a] ∧ At H a (.ins C dx fs) ∧ sp [.ref a] H Q E
theorem call_absO (hs : PySem.W.findIn X.K (.ref C) "__abs__" = some (some (.ref g))) (hf : PySem.W.isFn X.K (.ref g) = true) (F : FnR X.prog X.w X.K X.mg X.base CX n g sp) (hr : Room (n + 1) X.A) (hx : Passes CX X E) : CallR X (.builtin "abs") (rC1 C sp E) := by
  intro pins s σ H xs us Q I r h
  obtain ⟨a, dx, fs, rfl, ha, q⟩ := h
  obtain ⟨u, rfl, ru⟩ := r.one
  cases (show u = Value.ref a from ru)
  obtain ⟨od, J⟩ := inst_of I ha
  refine PySem.Calls.call_function_entry PyProof.Rows.kind_abs PyProof.Rows.plain_abs PyProof.Rows.entry_abs (PyProof.Rows.args_abs _) ?_
  unfold Builtin.«abs»
  refine wpAny_bind (m := oneArg "abs" _) (wpAny_pure (wpAny_bind (PySem.W.special_fn I.kIn J hs (beq_iff_eq.mp hf) (wpAny_mono (wpAny_call (SlX.run_at (us := [.ref a]) (ws := [.ref a]) F hr.in1 I.env0.in1 hx I (.cons rfl .nil) q)) (fun w s' z => ?_) fun _ _ x => x))))
  exact wpAny_pure ⟨w, rfl, z⟩
end
/-! ### readings: fields, new instances, own operators -/
def dF (K : PySem.W.Frag) (f : Str) (Q : VK) : VK := fun x H1 => ∃ a C dx fs v, x = .ref a ∧ At H1 a (.ins C dx fs) ∧ Cls K C ∧ NoAttr K C f ∧ fs.lookup f = some v ∧ Q v H1
def dSF (K : PySem.W.Frag) (f : Str) (y : V) (R : Hp → Prop) : VK := fun x H2 => ∃ a C dx fs, x = .ref a ∧ At H2 a (.ins C dx fs) ∧ Cls K C ∧ NoAttr K C f ∧ fs.length < 1000 ∧ R (upd H2 a (.ins C dx (putF f y fs)))
section
variable {K : PySem.W.Frag} {σ : L2.St} {H H' : Hp} {Q : VK} {v x y : V} {a b C dx dy : Addr} {fs gs : List (Str × V)} {f : Str} {i j : Int} {sp : Sp} {E : XK} {D : Ends} {ts : TA}
theorem w_fld {ta : TE} (h : ta σ H (dF K f Q)) : tFld K ta f σ H Q := h
theorem w_dF (h : At H a (.ins C dx fs)) (cl : Cls K C) (na : NoAttr K C f) (hl : fs.lookup f = some v) (q : Q v H) : dF K f Q (.ref a) H := ⟨a, C, dx, fs, v, rfl, h, cl, na, hl, q⟩
theorem w_sfld {ta tv : TE} (h : tv σ H fun y H1 => ta σ H1 (dSF K f y (D.nx σ))) : sFld K ta tv f D σ H := h
theorem w_dSF {R : Hp → Prop} (h : At H a (.ins C dx fs)) (cl : Cls K C) (na : NoAttr K C f) (hl : fs.length < 1000) (q : ∀ H2, At H2 a (.ins C dx (putF f y fs)) → (∀ b o, b ≠ a → At H b o → At H2 b o) → (∀ b, Fr H2 b → Fr H b) → R H2) : dSF K f y R (.ref a) H :=
  ⟨a, C, dx, fs, rfl, h, cl, na, hl, q _ upd_same (fun b o hb e => by unfold At; rw [upd_ne hb]; exact e) fun b e => by
    unfold Fr at *
    by_cases hb : b = a
    · subst hb; rw [upd_same] at e; cases e
    · rwa [upd_ne hb] at e⟩
/-- a new instance, ahead of its __init__ -/
structure New (C : Addr) (H : Hp) (p dx : Addr) (H2 : Hp) : Prop where
  new : Fr H p
  dnew : Fr H dx
  ne : dx ≠ p
  ex : Ex H H2
  at_ : At H2 p (.ins C dx [])
  own : At H2 dx (.own p)
def dMk (C : Addr) (sp : Sp) (dvs : List V) (E : XK) (Q : VK) : List V → Hp → Prop := fun vs H1 => ∀ x dx, Fr H1 x → Fr H1 dx → dx ≠ x → sp (.ref x :: (vs ++ dvs)) (upd (upd H1 dx (.own x)) x (.ins C dx [])) (fun v H2 => v = .non ∧ Q (.ref x) H2) E
theorem w_make {dvs : List V} (h : ts σ H (dMk C sp dvs E Q)) : tMake C sp dvs E ts σ H Q := h
theorem w_dMk {dvs vs : List V} (h : ∀ p dx H2, New C H p dx H2 → sp (.ref p :: (vs ++ dvs)) H2 (fun v H3 => v = .non ∧ Q (.ref p) H3) E) : dMk C sp dvs E Q vs H := fun p dx hp hd hne =>
  h p dx _ ⟨hp, hd, hne, (Ex.new hd).trans (Ex.new (by unfold Fr; rw [upd_ne (Ne.symm hne)]; exact hp)), upd_same, by unfold At; rw [upd_ne hne, upd_same]⟩
theorem w_OO (ha : At H a (.ins C dx fs)) (hb : At H b (.ins C dy gs)) (q : sp [.ref a, .ref b] H Q E) : rOO C sp E (.ref a) (.ref b) H Q := ⟨a, dx, fs, b, dy, gs, rfl, rfl, ha, hb, q⟩
theorem w_OI (ha : At H a (.ins C dx fs)) (q : sp [.ref a, .int i] H Q E) : rOI C sp E (.ref a) (.int i) H Q := ⟨a, dx, fs, i, rfl, rfl, ha, q⟩
theorem w_IO (ha : At H a (.ins C dx fs)) (q : sp [.ref a, .int i] H Q E) : rIO C sp E (.int i) (.ref a) H Q := ⟨a, dx, fs, i, rfl, rfl, ha, q⟩
theorem w_UO (ha : At H a (.ins C dx fs)) (q : sp [.ref a] H Q E) : rUO C sp E (.ref a) H Q := ⟨a, dx, fs, rfl, ha, q⟩
theorem w_C1 (ha : At H a (.ins C dx fs)) (q : sp [.ref a] H Q E) : rC1 C sp E [.ref a] H Q := ⟨a, dx, fs, rfl, ha, q⟩
theorem w_gcd (q : Q (.int ((Nat.gcd i.natAbs j.natAbs : Nat) : Int)) H) : rGcd [.int i, .int j] H Q := ⟨i, j, rfl, q⟩
def rAbsI : List V → Hp → VK → Prop := fun xs H Q => ∃ i, xs = [.int i] ∧ Q (.int (if i < 0 then -i else i)) H
theorem call_absI {X : Cx} : CallR X (.builtin "abs") rAbsI := L2.call_abs
theorem w_absI (q : Q (.int (i.natAbs : Int)) H) : rAbsI [.int i] H Q := ⟨i, rfl, by
  have e : (if i < 0 then -i else i) = (i.natAbs : Int) := by split <;> omega
  rw [e]; exact q⟩
/-- isinstance of an instance, with an own class -/
theorem w_isiOC (O : OwnC K C) (ha : At H a (.ins C dx fs)) (q : Q (.bl true) H) : rIsi K [.ref a, .ref C] H Q := ⟨_, _, .ref C, .ref C, true, rfl, .own C, .base (.ins ha O.cl O.ca O.cn O.ct O.cm), O.kCC, q⟩
theorem w_isiOI (O : OwnC K C) (ha : At H a (.ins C dx fs)) (q : Q (.bl false) H) : rIsi K [.ref a, .ty "int"] H Q := ⟨_, _, .ref C, .type "int", false, rfl, .ty "int", .base (.ins ha O.cl O.ca O.cn O.ct O.cm), O.kCI, q⟩
theorem w_isiIC (O : OwnC K C) (q : Q (.bl false) H) : rIsi K [.int i, .ref C] H Q := ⟨_, _, .type "int", .ref C, false, rfl, .own C, .base (.int _), O.kIC, q⟩
end
theorem rawOk {P : Program} {w : World} {K : PySem.W.Frag} {mg : Str → Option Value} {base : Heap} {CX : CXT} {k : Nat} {f : Addr} {fd : FuncData} {ps : List Str} {sp : Sp} (F : FnOk P w K mg base CX k f fd ps sp) (hb : Binds K fd ps []) : FnR P w K mg base CX k f sp :=
  (F.raw hb .nil).imp fun vs H Q E h => by rw [List.append_nil]; exact h
/-! ### the head's facts as truth values of the written part -/
open He in
def obsZ (n : Nat) (ex : List (PySem.W.Frag → Bool)) (fn : List DefD) (g : Addr → Option Obj) : AlD := ((ex.all fun f => f (frG g (asD g n))) && fn.all fun d => d.ok (frG g (asD g n)), fn.map fun d => fnW (frG g (asD g n)) d.at_)
structure SaysZ (ex : List (PySem.W.Frag → Bool)) (fn : List He.DefD) (K : PySem.W.Frag) : Prop where
  facts : ∀ f ∈ ex, f K = true
  d : He.SaysD [] fn K
theorem SaysZ.fact {ex : List (PySem.W.Frag → Bool)} {fn : List He.DefD} {K : PySem.W.Frag} (c : SaysZ ex fn K) (i : Nat) {f : PySem.W.Frag → Bool} (h : ex[i]? = some f := by rfl) : f K = true := c.facts f (List.mem_of_getElem? h)
def hookZ (n : Nat) (ex : List (PySem.W.Frag → Bool)) (fn : List He.DefD) : PySem.W.Hook where
  α := He.AlD
  obs := fun s => obsZ n ex fn s.heap.get?
  val := fun _ => He.valD fn
  says := fun _ h => ∃ K : PySem.W.Frag, K.In h ∧ SaysZ ex fn K
  of := fun _ s e => by
    have e1 := congrArg (fun z : He.AlD => z.1) e
    have e2 := congrArg (fun z : He.AlD => z.2) e
    obtain ⟨h1, h2⟩ := He.ba e1
    refine ⟨He.frG s.heap.get? (He.asD s.heap.get? n), He.frG_in, fun f hf => List.all_eq_true.mp h1 f hf, ?_⟩
    show ((([] : List He.Fa).all fun f => f.ok _) && fn.all fun d => d.ok _, fn.map fun d => He.fnW _ d.at_) = (true, fn.map He.DefD.val)
    rw [h2]
    exact congrArg (fun z => (true, z)) e2
  keeps := fun _ _ _ ⟨K, hK, c⟩ k => ⟨K, PySem.W.Frag.In.keeps hK k, c⟩
theorem obsZ_eq {n : Nat} {ex : List (PySem.W.Frag → Bool)} {fn : List He.DefD} {g : Addr → Option Obj} {s : Shared} (h : ∀ a, g a = s.heap.get? a) : obsZ n ex fn g = (hookZ n ex fn).obs s := by
  have e : g = s.heap.get? := funext h
  rw [e]
  rfl
def bltB (x : Str) (id : String) (K : PySem.W.Frag) : Bool := He.eqO (PySem.W.nsIn K mainGlobals x) (some (some (.builtin id)))
theorem blt_ok {K : PySem.W.Frag} {h : Heap} {mg : Str → Option Value} (X : K.In h) (G : h.Ns mainGlobals mg) {x : Str} {id : String} (c : bltB x id K = true) : mg x = some (.builtin id) := PySem.W.mg_of X G (He.eqO_ok c)
def nometB (x f : Str) (K : PySem.W.Frag) : Bool := He.eqO (PySem.W.findIn K (.ref (He.ga K x)) f) (some none)
theorem nomet_ok {K : PySem.W.Frag} {x f : Str} (c : nometB x f K = true) : PySem.W.findIn K (.ref (He.ga K x)) f = some none := He.eqO_ok c
end Z
namespace Z
open PySem L2 PySem.Spec PyProof.Rows
/-! ### calls whose errors are wished for at the caller's slots -/
section
variable {X : Cx} {CX : CXT} {k : Nat} {f g C : Addr} {fd : FuncData} {ps : List Str} {sp : Sp} {dvs : List V} {ds : List Value} {E : L2.St → XK} {x m : Str} {p pos apos : Pos} {e o : Expr} {es : List Expr} {ta tb : TE} {t : TA} {a b : Expr}
theorem runR {pins : List (Addr × Obj)} {σ : L2.St} {G : Hp} {s : Shared} {Q : VK} {us : List Value} {vs : List V} (F : FnR X.prog X.w X.K X.mg X.base CX k f sp) (hr : Room k X.A) (hx : PassesAt CX X σ (E σ)) (I : Inv X pins σ G s) (r : Vals vs us) (h : sp vs G Q (E σ)) :
    codeAny (model X.prog X.w) X.A (.call (.ref f) ⟨us, []⟩) (fun r s' => match r with | .ok (.ret v) => EP X pins σ Q v s' | .ok _ => False | .error e => X.xe e s') s :=
  codeAny_mono (F X.A X.stack s G us vs Q (E σ) hr I.env0 r h) fun r s' hq => match r, hq with
    | .error e, hq => hx pins G s e s' I hq
    | .ok (.ret u), hq => I.after hq
    | .ok .next, hq => hq
    | .ok .brk, hq => hq
    | .ok .cont, hq => hq
def tCallZ (sp : Sp) (dvs : List V) (E : L2.St → XK) (t : TA) : TE := fun σ H Q => tCall sp dvs (E σ) t σ H Q
theorem pe_callZ (F : FnOk X.prog X.w X.K X.mg X.base CX k f fd ps sp) (hr : Room k X.A) (hg : Gl X x) (hm : X.mg x = some (.ref f)) (hk : PySem.W.keepIn X.K (.ref f) = true) (hb : Binds X.K fd ps ds) (hd : Vals dvs ds) (hx : ∀ σ, PassesAt CX X σ (E σ)) (ha : PA X (e :: es) t)
    (hdb : (x == ("__debug__" : Str)) = false := by decide) (hst : starEach (e :: es) X.env = (false, eval e X.env) :: starEach es X.env := by rfl) (hpl : (backTo pos (starEach es X.env)).any (·.1) = false := by rfl) : PE X (.Call (.Name x p) (e :: es) [] pos) (tCallZ sp dvs E t) :=
  pe_callSD F hr hg hm hk hb hd hx ha hdb hst hpl
theorem pe_callZ0 (F : FnOk X.prog X.w X.K X.mg X.base CX k f fd ps sp) (hr : Room k X.A) (hg : Gl X x) (hm : X.mg x = some (.ref f)) (hk : PySem.W.keepIn X.K (.ref f) = true) (hb : Binds X.K fd ps ds) (hd : Vals dvs ds) (hx : ∀ σ, PassesAt CX X σ (E σ))
    (hdb : (x == ("__debug__" : Str)) = false := by decide) : PE X (.Call (.Name x p) [] [] pos) (tCallZ sp dvs E tNil) :=
  ⟨fun pins s σ G Q I h => wpAny_Call_Name_kw (ld_glob I hg hm (PySem.W.callWith_K0 I.kIn hk (run_fnSD (us := []) F hr hb hd (hx σ) I .nil h)) hdb)⟩
def tMethZ (C : Addr) (m : Str) (sp : Sp) (dvs : List V) (E : L2.St → XK) (ta : TE) (t : TA) : TE := fun σ H Q => tMeth C m sp dvs (E σ) ta t σ H Q
theorem pe_methZ {pl : Sem Bool} (he : PE X o ta) (c : Cls X.K C) (hm : Meth X.K C m f) (F : FnOk X.prog X.w X.K X.mg X.base CX k f fd ps sp) (hr : Room k X.A) (hb : Binds X.K fd ps ds) (hd : Vals dvs ds) (hx : ∀ σ, PassesAt CX X σ (E σ)) (ha : PA X (e :: es) t)
    (hst : starEach (e :: es) X.env = (false, eval e X.env) :: starEach es X.env := by rfl) (hpl : (backTo pos (starEach es X.env)).any (·.1) = false := by rfl)
    (ht : eval (.Call (.Attribute o m apos) (e :: es) [] pos) X.env = (do let ov ← eval o X.env; standAt apos.atName; let (f, first) ← holding [ov] (getMethod ov m pl); callWith pos f first (backTo pos (starEach (e :: es) X.env)) (backToKw pos (keywordEach [] X.env))) := by rfl) :
    PE X (.Call (.Attribute o m apos) (e :: es) [] pos) (tMethZ C m sp dvs E ta t) :=
  ⟨fun pins s σ G Q I h => PySem.W.methodCall_KW (pl := pl) (thn (he.run pins s σ G _ I h) fun u s1 ⟨z, H1, I1, rx, a, dx, fs, ex, ea, l, q⟩ => by
    subst ex
    obtain rfl : u = Value.ref a := rx
    exact getmeth_ok I1 ea c hm l (PySem.W.callWith_K (first := [.ref a]) (h₀ := X.base) I.ok.mod.kin hm.kp (thn (ha.run pos pins s1 σ H1 _ I1 q) fun us s2 ⟨vs, H2, I2, r, q2⟩ => ⟨I2.kIn, run_fnSD (us := .ref a :: us) (vs := .ref a :: vs) F hr hb hd (hx σ) I2 (.cons rfl r) q2⟩) hst hpl)) ht⟩
theorem pe_methZ0 {pl : Sem Bool} (he : PE X o ta) (c : Cls X.K C) (hm : Meth X.K C m f) (F : FnOk X.prog X.w X.K X.mg X.base CX k f fd ps sp) (hr : Room k X.A) (hb : Binds X.K fd ps ds) (hd : Vals dvs ds) (hx : ∀ σ, PassesAt CX X σ (E σ))
    (ht : eval (.Call (.Attribute o m apos) [] [] pos) X.env = (do let ov ← eval o X.env; standAt apos.atName; let (f, first) ← holding [ov] (getMethod ov m pl); callWith pos f first (backTo pos (starEach [] X.env)) (backToKw pos (keywordEach [] X.env))) := by rfl) :
    PE X (.Call (.Attribute o m apos) [] [] pos) (tMethZ C m sp dvs E ta tNil) :=
  ⟨fun pins s σ G Q I h => PySem.W.methodCall_KW (pl := pl) (thn (he.run pins s σ G _ I h) fun u s1 ⟨z, H1, I1, rx, a, dx, fs, ex, ea, l, q⟩ => by
    subst ex
    obtain rfl : u = Value.ref a := rx
    exact getmeth_ok I1 ea c hm l (PySem.W.callWith_K0 (first := [.ref a]) I1.kIn hm.kp (run_fnSD (us := [.ref a]) (vs := [.ref a]) F hr hb hd (hx σ) I1 (.cons rfl .nil) q))) ht⟩
theorem run_makeZ {pins : List (Addr × Obj)} {σ : L2.St} {G : Hp} {s : Shared} {Q : VK} {us : List Value} {vs : List V} (M : Mk X.K C f) (F : FnOk X.prog X.w X.K X.mg X.base CX k f fd ps sp) (hr : Room (k + 1) X.A) (hb : Binds X.K fd ps ds) (hd : Vals dvs ds) (hx : PassesAt CX X σ (E σ)) (I : Inv X pins σ G s) (r : Vals vs us)
    (h : ∀ x dx, G x = none → G dx = none → dx ≠ x → sp (.ref x :: (vs ++ dvs)) (upd (upd G dx (.own x)) x (.ins C dx [])) (fun v H2 => v = .non ∧ Q (.ref x) H2) (E σ)) : wpAny (model X.prog X.w) X.A (call (.ref C) us) (EP X pins σ Q) X.xe s := by
  have hq := h (s.heap.objs.size + 1) s.heap.objs.size (I.hok.fresh (Nat.le_succ _)) (I.hok.fresh (Nat.le_refl _)) (Nat.ne_of_lt (Nat.lt_succ_self _))
  have J := Inv.made (C := C) I
  have w2 : Vals (V.ref (s.heap.objs.size + 1) :: (vs ++ dvs)) (Value.ref (s.heap.objs.size + 1) :: (us ++ ds)) := .cons rfl (r.append hd)
  have hn : (Value.ref (s.heap.objs.size + 1) :: us ++ ds).length = ps.length := (w2.length.symm.trans (F.len _ _ _ _ hq) : _)
  refine wpAny_call (make_map (f := f) I.kIn M.makes M.init (beq_iff_eq.mp M.fn) (codeAny_mono (F.run _ X.stack _ _ ⟨Value.ref (s.heap.objs.size + 1) :: us, []⟩ _ _ _ (E σ) (hr.make C us []) (J.env0.make C us []) (hb _ (Value.ref (s.heap.objs.size + 1) :: us) J.kIn hn) w2 hq) fun r s' z => ?_))
  match r, z with
  | .error e, z => exact hx pins _ _ e s' J z
  | .ok (.ret u), z =>
    obtain ⟨v, H', I3, rv, ev, q3⟩ := J.after z
    subst ev
    exact ⟨rv, V.ref (s.heap.objs.size + 1), H', I3, rfl, q3⟩
  | .ok .next, z => exact z.elim
  | .ok .brk, z => exact z.elim
  | .ok .cont, z => exact z.elim
def tMakeZ (C : Addr) (sp : Sp) (dvs : List V) (E : L2.St → XK) (t : TA) : TE := fun σ H Q => tMake C sp dvs (E σ) t σ H Q
theorem pe_makeZ (M : Mk X.K C f) (F : FnOk X.prog X.w X.K X.mg X.base CX k f fd ps sp) (hr : Room (k + 1) X.A) (hg : Gl X x) (hm : X.mg x = some (.ref C)) (hb : Binds X.K fd ps ds) (hd : Vals dvs ds) (hx : ∀ σ, PassesAt CX X σ (E σ)) (ha : PA X (e :: es) t)
    (hdb : (x == ("__debug__" : Str)) = false := by decide) (hst : starEach (e :: es) X.env = (false, eval e X.env) :: starEach es X.env := by rfl) (hpl : (backTo pos (starEach es X.env)).any (·.1) = false := by rfl) : PE X (.Call (.Name x p) (e :: es) [] pos) (tMakeZ C sp dvs E t) :=
  ⟨fun pins s σ G Q I h => wpAny_Call_Name_kw (ld_glob I hg hm (PySem.W.callWith_K (h₀ := X.base) I.ok.mod.kin M.kp (thn (ha.run pos pins s σ G _ I h) fun us s1 ⟨vs, H1, I1, r, q⟩ => ⟨I1.kIn, run_makeZ M F hr hb hd (hx σ) I1 r q⟩) hst hpl) hdb)⟩
theorem pe_makeZ0 (M : Mk X.K C f) (F : FnOk X.prog X.w X.K X.mg X.base CX k f fd ps sp) (hr : Room (k + 1) X.A) (hg : Gl X x) (hm : X.mg x = some (.ref C)) (hb : Binds X.K fd ps ds) (hd : Vals dvs ds) (hx : ∀ σ, PassesAt CX X σ (E σ))
    (hdb : (x == ("__debug__" : Str)) = false := by decide) : PE X (.Call (.Name x p) [] [] pos) (tMakeZ C sp dvs E tNil) :=
  ⟨fun pins s σ G Q I h => wpAny_Call_Name_kw (ld_glob I hg hm (PySem.W.callWith_K0 I.kIn M.kp (run_makeZ (us := []) M F hr hb hd (hx σ) I .nil h)) hdb)⟩
/-- an operator at the slots σ -/
def OpS (X : Cx) (op : Operator) (r : L2.St → R2) : Prop := ∀ (pins : List (Addr × Obj)) (s : Shared) (σ : L2.St) (G : Hp) (x y : V) (v u : Value) (Q : VK), Inv X pins σ G s → RelV x v → RelV y u → r σ x y G Q → wpAny (model X.prog X.w) X.A (binaryOp op v u) (EP X pins σ Q) X.xe s
def tOpS (r : L2.St → R2) (ta tb : TE) : TE := fun σ H Q => tOp (r σ) ta tb σ H Q
theorem pe_opS {op : Operator} {r : L2.St → R2} (ho : OpS X op r) (ha : PE X a ta) (hb : PE X b tb) : PE X (.BinOp a op b pos) (tOpS r ta tb) :=
  ⟨fun pins s σ G Q I h => wpAny_BinOp (binT ha hb I h fun v u s2 x y H2 I2 rx ry q => ho pins s2 σ H2 x y v u Q I2 rx ry q)⟩
theorem OpS.or {op : Operator} {r q : L2.St → R2} (h : OpS X op r) (g : OpS X op q) : OpS X op (fun σ x y H Q => r σ x y H Q ∨ q σ x y H Q) := fun pins s σ G x y v u Q I rx ry z => z.elim (h pins s σ G x y v u Q I rx ry) (g pins s σ G x y v u Q I rx ry)
theorem OpS.of {op : Operator} {r : R2} (h : OpR X (binaryOp op) r) : OpS X op (fun _ => r) := fun pins s σ G x y v u Q I rx ry z => h pins s σ G x y v u Q I rx ry z
theorem opS_OO {op : Operator} (O : OwnC X.K C) (hs : PySem.W.findIn X.K (.ref C) (PySem.dunder op.info.2) = some (some (.ref g))) (hf : PySem.W.isFn X.K (.ref g) = true) (F : FnR X.prog X.w X.K X.mg X.base CX k g sp) (hr : Room k X.A) (hx : ∀ σ, PassesAt CX X σ (E σ)) :
    OpS X op (fun σ => rOO C sp (E σ)) := by
  intro pins s σ G x y v u Q I rx ry h
  obtain ⟨a, dx, fs, b, dy, gs, rfl, rfl, ha, hb, q⟩ := h
  cases (show v = Value.ref a from rx)
  cases (show u = Value.ref b from ry)
  obtain ⟨od, J⟩ := inst_of I ha
  obtain ⟨od', J'⟩ := inst_of I hb
  obtain ⟨m, hF⟩ := I.fr
  exact PySem.W.binop_K hF I.ok.mod.kin J J'.type O.sf hs hf (wpAny_mono (wpAny_call (runR (us := [.ref a, .ref b]) (vs := [.ref a, .ref b]) F hr (hx σ) I (.cons rfl (.cons rfl .nil)) q)) (fun w s' ⟨z', H', I', rz, qz⟩ => SlX.cmpback rz ⟨z', H', I', rz, qz⟩) fun _ _ x => x)
theorem opS_OI {op : Operator} {rc : Option Value} (O : OwnC X.K C) (hs : PySem.W.findIn X.K (.ref C) (PySem.dunder op.info.2) = some (some (.ref g))) (hf : PySem.W.isFn X.K (.ref g) = true) (hr' : PySem.W.findIn X.K (.ref C) (dunderR op.info.2) = some rc) (hp : rc = none ∨ ∃ g : Addr, rc = some (.ref g)) (h12 : IntHas op.info.2)
    (F : FnR X.prog X.w X.K X.mg X.base CX k g sp) (hr : Room k X.A) (hx : ∀ σ, PassesAt CX X σ (E σ)) : OpS X op (fun σ => rOI C sp (E σ)) := by
  intro pins s σ G x y v u Q I rx ry h
  obtain ⟨a, dx, fs, i, rfl, rfl, ha, q⟩ := h
  cases (show v = Value.ref a from rx)
  obtain ⟨t, rfl⟩ := (show ∃ t, u = Value.int i t from ry)
  obtain ⟨od, J⟩ := inst_of I ha
  obtain ⟨m, hF⟩ := I.fr
  exact PySem.W.ksp_binT (T := "int") hF I.ok.mod.kin J rfl O.sf hs hf hr' hp (h12 X.K).1.choose_spec (h12 X.K).2.choose_spec O.ni (wpAny_mono (wpAny_call (runR (us := [.ref a, .int i t]) (vs := [.ref a, .int i]) F hr (hx σ) I (.cons rfl (.cons ⟨t, rfl⟩ .nil)) q)) (fun w s' ⟨z', H', I', rz, qz⟩ => SlX.cmpback rz ⟨z', H', I', rz, qz⟩) fun _ _ x => x)
end
/-! ### try .. except X as n; isinstance of the caught error -/
section
variable {X : Cx} {x n : Str} {c : Value} {i : Nat} {body suite : List Stmt} {b₀ : Stmt} {np pos pos' : Pos} {tb : WX → TS} {ts : Addr → Value → Option Addr → TS} {Wout : WX}
def tTryA (K : PySem.W.Frag) (c : Value) (i : Nat) (tb : WX → TS) (ts : Addr → Value → Option Addr → TS) (Wout : WX) : TS := fun D σ H => tb (wAs K c i ts Wout D) D σ H
theorem ps_tryA (hs : X.stack = X.env :: X.outer) (hf : X.env.frame = some X.env.locals) (hN : X.N.Nodup) (hi : X.N[i]? = some n) (hln : X.env.kindOf n = some .local) (hc : Names X x c) (tk : Takes X Wout)
    (hb : ∀ (W : WX) (pn : List (Addr × Obj)) (xe : Value → Shared → Prop), Takes (X.tr pn xe) W → PassesOwn (model X.prog X.w) X.A X.env xe → PSs (X.tr pn xe) body (tb W))
    (hsu : ∀ (a : Addr) (oe : Obj) (cls : Value) (d : Option Addr) (pn : List (Addr × Obj)), Zc cls d oe → (∃ vs, oe.data = .fields vs) → PSs (X.suite a ((a, oe) :: pn)) (b₀ :: suite) (ts a cls d)) :
    PS X (.Try body [.ExceptHandler (some (.Name x np)) (some n) (b₀ :: suite) pos'] [] [] pos) (tTryA X.K c i tb ts Wout) := ps_try_as hs hf hN hi hln hc tk hb hsu
def tTryO (K : PySem.W.Frag) (c : Value) (tb : WX → TS) (ts : Addr → Value → Option Addr → TS) (Wout : WX) : TS := fun D σ H => tb (wOnly K c ts Wout D) D σ H
theorem ps_tryO (hs : X.stack = X.env :: X.outer) (hf : X.env.frame = some X.env.locals) (hc : Names X x c) (tk : Takes X Wout)
    (hb : ∀ (W : WX) (pn : List (Addr × Obj)) (xe : Value → Shared → Prop), Takes (X.tr pn xe) W → PassesOwn (model X.prog X.w) X.A X.env xe → PSs (X.tr pn xe) body (tb W))
    (hsu : ∀ (a : Addr) (oe : Obj) (cls : Value) (d : Option Addr) (pn : List (Addr × Obj)), Zc cls d oe → (∃ vs, oe.data = .fields vs) → PSs (X.suite a ((a, oe) :: pn)) (b₀ :: suite) (ts a cls d)) :
    PS X (.Try body [.ExceptHandler (some (.Name x np)) none (b₀ :: suite) pos'] [] [] pos) (tTryO X.K c tb ts Wout) := ps_try_only hs hf hc tk hb hsu
def rIsZ (K : PySem.W.Frag) (cls : Value) (d : Option Addr) (a : Addr) : List V → Hp → VK → Prop := fun xs H Q => ∃ D, cls = .ref D ∧ d = none ∧ ExcC K D ∧ rIsE K D a xs H Q
theorem call_isZ {a : Addr} {oe : Obj} {cls : Value} {d : Option Addr} {pn : List (Addr × Obj)} (hz : Zc cls d oe) (hf : ∃ vs, oe.data = .fields vs) : CallR (X.suite a ((a, oe) :: pn)) (.builtin "isinstance") (rIsZ X.K cls d a) := by
  intro pins s σ G xs us Q I r h
  obtain ⟨D, rfl, rfl, C, h⟩ := h
  exact call_isE C hz hf pins s σ G xs us Q I r h
end
section
variable {K : PySem.W.Frag} {σ : L2.St} {H : Hp} {Q : VK} {D : Ends} {tb : WX → TS} {ts : Addr → Value → Option Addr → TS} {Wout : WX} {c cls : Value} {d : Option Addr} {i : Nat} {ta : TE} {t : TA} {sp : Sp} {dvs : List V} {E : L2.St → XK} {C a b dx : Addr} {m : Str} {fs : List (Str × V)}
theorem w_tryA (h : tb (wAs K c i ts Wout D) D σ H) : tTryA K c i tb ts Wout D σ H := h
theorem w_tryO (h : tb (wOnly K c ts Wout D) D σ H) : tTryO K c tb ts Wout D σ H := h
/-- behind an except suite with a name -/
def endAs (D : Ends) (i : Nat) : Ends := { nx := fun σ' H' => D.nx (σ'.set i none) H', rt := D.rt, bk := fun σ' H' => D.bk (σ'.set i none) H', ct := fun σ' H' => D.ct (σ'.set i none) H' }
theorem w_as (h : PySem.W.exmOne K cls c = some true) (q : ∀ a, Fr H a → ts a cls d (endAs D i) (σ.set i (some (.ref a))) H) : WE (wAs K c i ts Wout D) σ cls d H := ⟨true, h, fun _ a ha => q a ha, fun z => nomatch z⟩
theorem w_asN (h : PySem.W.exmOne K cls c = some false) (q : Wout cls d σ H) : WE (wAs K c i ts Wout D) σ cls d H := ⟨false, h, fun z => (nomatch z), fun _ => q⟩
theorem w_only (h : PySem.W.exmOne K cls c = some true) (q : ∀ a, Fr H a → ts a cls d D σ H) : WE (wOnly K c ts Wout D) σ cls d H := ⟨true, h, fun _ a ha => q a ha, fun z => nomatch z⟩
theorem w_onlyN (h : PySem.W.exmOne K cls c = some false) (q : Wout cls d σ H) : WE (wOnly K c ts Wout D) σ cls d H := ⟨false, h, fun z => (nomatch z), fun _ => q⟩
theorem w_enx (h : D.nx (σ.set i none) H) : (endAs D i).nx σ H := h
theorem w_ert {v : V} (h : D.rt v H) : (endAs D i).rt v H := h
theorem w_ebk (h : D.bk (σ.set i none) H) : (endAs D i).bk σ H := h
theorem w_ect (h : D.ct (σ.set i none) H) : (endAs D i).ct σ H := h
theorem w_callZ0 (h : t σ H fun vs H1 => sp vs H1 Q (E σ)) : tCallZ sp [] E t σ H Q := by
  show t σ H fun vs H1 => sp (vs ++ []) H1 Q (E σ)
  simp only [List.append_nil]
  exact h
theorem w_callZ (h : t σ H fun vs H1 => sp (vs ++ dvs) H1 Q (E σ)) : tCallZ sp dvs E t σ H Q := h
def dMe (C : Addr) (m : Str) (sp : Sp) (dvs : List V) (E : XK) (t : TA) (σ : L2.St) (Q : VK) : VK := fun x H1 => ∃ a dx fs, x = .ref a ∧ H1 a = some (.ins C dx fs) ∧ fs.lookup m = none ∧ t σ H1 fun vs H2 => sp (x :: (vs ++ dvs)) H2 Q E
theorem w_methZ (h : ta σ H (dMe C m sp dvs (E σ) t σ Q)) : tMethZ C m sp dvs E ta t σ H Q := h
theorem w_meth {E : XK} (h : ta σ H (dMe C m sp dvs E t σ Q)) : tMeth C m sp dvs E ta t σ H Q := h
theorem w_dMe {E : XK} (h : At H a (.ins C dx fs)) (hl : fs.lookup m = none) (q : t σ H fun vs H2 => sp (.ref a :: (vs ++ dvs)) H2 Q E) : dMe C m sp dvs E t σ Q (.ref a) H := ⟨a, dx, fs, rfl, h, hl, q⟩
theorem w_dMe0 {E : XK} (h : At H a (.ins C dx fs)) (hl : fs.lookup m = none) (q : t σ H fun vs H2 => sp (.ref a :: vs) H2 Q E) : dMe C m sp [] E t σ Q (.ref a) H := ⟨a, dx, fs, rfl, h, hl, by simp only [List.append_nil]; exact q⟩
theorem w_makeZ (h : t σ H (dMk C sp dvs (E σ) Q)) : tMakeZ C sp dvs E t σ H Q := h
theorem w_opS {r : L2.St → R2} {tb : TE} (h : ta σ H fun x H1 => tb σ H1 fun y H2 => r σ x y H2 Q) : tOpS r ta tb σ H Q := h
/-- isinstance(e, c) of the caught error, c an own class -/
theorem w_isZ {b : Bool} {e : Addr} (x : ExcC K C) (h : PySem.W.kitOne K (.ref C) (.ref a) = some b) (q : Q (.bl b) H) : rIsZ K (.ref C) none e [.ref e, .ref a] H Q := ⟨C, rfl, rfl, x, .ref a, .ref a, b, rfl, fun u r => r, h, q⟩
theorem w_isZt {b : Bool} {e : Addr} {t : String} (x : ExcC K C) (h : PySem.W.kitOne K (.ref C) (.type t) = some b) (q : Q (.bl b) H) : rIsZ K (.ref C) none e [.ref e, .ty t] H Q := ⟨C, rfl, rfl, x, .ty t, .type t, b, rfl, fun u r => r, h, q⟩
end
def excB (x : Str) (K : PySem.W.Frag) : Bool := decide (PySem.W.findIn K (.ref (He.ga K x)) "__getattribute__" = some (some (.builtin "BaseException.__getattribute__"))) && (decide (PySem.W.findIn K (.ref (He.ga K x)) "__getattr__" = some none) && (decide (PySem.W.subIn K (.ref (He.ga K x)) (.type "BaseException") = some true) &&
  (PySem.W.hasDictIn K (He.ga K x) && (decide (PySem.W.findIn K (.ref (He.ga K x)) "__class__" = some (some (.builtin "object.__class__"))) && (decide (PySem.W.specialIn K (.builtin "object.__class__") "__get__" = some (some (.builtin "getset_descriptor.__get__"))) &&
  (decide (PySem.W.takesIn K (.builtin "object.__class__") = some true) && decide (PySem.W.mroIn K (He.ga K x) (.type "object") = some true)))))))
theorem excB_ok {K : PySem.W.Frag} {x : Str} (h : excB x K = true) : ExcC K (He.ga K x) := by
  obtain ⟨h1, h⟩ := He.ba h
  obtain ⟨h2, h⟩ := He.ba h
  obtain ⟨h3, h⟩ := He.ba h
  obtain ⟨h4, h⟩ := He.ba h
  obtain ⟨h5, h⟩ := He.ba h
  obtain ⟨h6, h⟩ := He.ba h
  obtain ⟨h7, h8⟩ := He.ba h
  exact ⟨of_decide_eq_true h1, of_decide_eq_true h2, of_decide_eq_true h3, h4, of_decide_eq_true h5, of_decide_eq_true h6, of_decide_eq_true h7, of_decide_eq_true h8⟩
/-- what the except clause 'except y' says to an error of the class x -/
def exmB (x y : Str) (b : Bool) (K : PySem.W.Frag) : Bool := decide (PySem.W.exmOne K (.ref (He.ga K x)) (.ref (He.ga K y)) = some b)
theorem exmB_ok {K : PySem.W.Frag} {x y : Str} {b : Bool} (h : exmB x y b K = true) : PySem.W.exmOne K (.ref (He.ga K x)) (.ref (He.ga K y)) = some b := of_decide_eq_true h
def kitB2 (x y : Str) (b : Bool) (K : PySem.W.Frag) : Bool := decide (PySem.W.kitOne K (.ref (He.ga K x)) (.ref (He.ga K y)) = some b)
theorem kitB2_ok {K : PySem.W.Frag} {x y : Str} {b : Bool} (h : kitB2 x y b K = true) : PySem.W.kitOne K (.ref (He.ga K x)) (.ref (He.ga K y)) = some b := of_decide_eq_true h
def kitBt (x : Str) (t : String) (b : Bool) (K : PySem.W.Frag) : Bool := decide (PySem.W.kitOne K (.ref (He.ga K x)) (.type t) = some b)
theorem kitBt_ok {K : PySem.W.Frag} {x : Str} {t : String} {b : Bool} (h : kitBt x t b K = true) : PySem.W.kitOne K (.ref (He.ga K x)) (.type t) = some b := of_decide_eq_true h
/-! ### an int on the left of a comparison -/
theorem one_int {op : CmpOp} {i : Int} {t : Tok} {x : Addr} : oneThing? op (.int i t) (.ref x) = none := by rfl
theorem cmpIO {prog : Program} {w : World} {A : Around} {E : Value → Shared → Prop} {s : Shared} {K : PySem.W.Frag} {x dx C f : Addr} {od : Option Obj} {op : CmpOp} {id : String} {B : Builtin} {i : Int} {t : Tok} {Q : Value → Shared → Prop} (hu : A.units < cLine)
    (X : K.In s.heap) (I : PySem.W.InstAt s.heap x (PySem.W.instObj C dx) C od) (slot : Slot "int" (cmpInfo op).2.1 id) (entry : entryFor table id = some B) (args : argsOk id ⟨[.int i t, .ref x], []⟩) (hB : ∃ nm f, B = Builtin.Int.intBinary nm f false)
    (hs : PySem.W.findIn K (.ref C) (cmpInfo op).2.2 = some (some (.ref f))) (hf : PySem.W.isFn K (.ref f) = true) (hsub : PySem.W.subIn K (.ref C) (.type "int") = some false)
    (h : wpAny (model prog w) A (call (.ref f) [.ref x, .int i t]) (PySem.W.CmpBack Q) E s) : wpAny (model prog w) A (richCompare op (.int i t) (.ref x)) Q E s := by
  have hx : s.heap.get? x = some (PySem.W.instObj C dx) := I.1
  have one : wpAny (model prog w) A (tryCompare (.int i t) (cmpInfo op).2.1 (.ref x)) (fun r s' => r = none ∧ s' = s) E s := by
    simp only [tryCompare]
    exact wpAny_bind (wpAny_callSpecialIfBound?_slot (typeIs_int s i t) slot (int_ni slot entry args hB hx (wpAny_pure ⟨rfl, rfl⟩)))
  have two : wpAny (model prog w) A (tryCompare (.ref x) (cmpInfo op).2.2 (.int i t)) (fun r s' => ∃ v, r = some v ∧ Q v s') E s := by
    simp only [tryCompare]
    refine wpAny_bind (PySem.W.ifBound_K X I hs hf (wpAny_mono h (fun v s' hv => ?_) fun _ _ e => e))
    cases v <;> first | exact wpAny_pure ⟨_, rfl, hv⟩ | exact hv.elim
  have ne : (Value.type "int" != Value.ref C) = true := by
    have : (Value.type "int" == Value.ref C) = false := Bool.eq_false_iff.mpr fun q => by cases beq_iff_eq.mp q
    simp only [bne, this, Bool.not_false]
  have L1 : PySem.W.Looks (model prog w) s.heap (typeOf (.ref x)) (.ref C) := I.type
  have L5 : PySem.W.Looks (model prog w) s.heap (isSubtype (.ref C) (.type "int")) false := PySem.W.looks_subIn X hsub
  unfold richCompare
  simp only [one_int]
  refine wpAny_holding (wpAny_bind (wpAny_cRoomFor hu ?_))
  refine wpAny_bind (wpAny_typeOf (typeIs_int s i t) (wpAny_bind (L1.here ?_)))
  simp only [ne, if_true]
  refine wpAny_bind (L5.here ?_)
  simp only [Bool.false_eq_true, if_false, Bool.not_false, if_true]
  refine wpAny_bind (wpAny_mono one (fun r s' hr => ?_) fun _ _ e => e)
  obtain ⟨rfl, rfl⟩ := hr
  dsimp only
  refine wpAny_bind (wpAny_mono two (fun r s' hr => ?_) fun _ _ e => e)
  obtain ⟨v, rfl, hq⟩ := hr
  exact wpAny_pure hq
section
variable {X : Cx} {CX : CXT} {n : Nat} {C g : Addr} {sp : Sp} {E : XK}
theorem cmp_IO {op : CmpOp} {id : String} {B : Builtin} (hop : ∀ a b, compareOp op a b = richCompare op a b) (O : OwnC X.K C) (slot : Slot "int" (cmpInfo op).2.1 id) (entry : entryFor table id = some B) (args : ∀ a b, argsOk id ⟨[a, b], []⟩) (hB : ∃ nm f, B = Builtin.Int.intBinary nm f false)
    (hs : PySem.W.findIn X.K (.ref C) (cmpInfo op).2.2 = some (some (.ref g))) (hf : PySem.W.isFn X.K (.ref g) = true) (F : FnR X.prog X.w X.K X.mg X.base CX n g sp) (hr : Room n X.A) (hx : Passes CX X E) : OpR X (compareOp op) (rIO C sp E) := by
  intro pins s σ G x y v u Q I rx ry h
  obtain ⟨a, dx, fs, i, rfl, rfl, ha, q⟩ := h
  obtain ⟨t, rfl⟩ := (show ∃ t, v = Value.int i t from rx)
  cases (show u = Value.ref a from ry)
  obtain ⟨od, J⟩ := inst_of I ha
  rw [hop]
  exact cmpIO hr.units0 I.kIn J slot entry (args _ _) hB hs hf O.ni' (wpAny_mono (wpAny_call (run_fnR (us := [.ref a, .int i t]) (vs := [.ref a, .int i]) F hr hx I (.cons rfl (.cons ⟨t, rfl⟩ .nil)) q)) (fun w s' ⟨z', H', I', rz, qz⟩ => SlX.cmpback rz ⟨z', H', I', rz, qz⟩) fun _ _ x => x)
theorem cmp_IO_lt (O : OwnC X.K C) (hs : PySem.W.findIn X.K (.ref C) "__gt__" = some (some (.ref g))) (hf : PySem.W.isFn X.K (.ref g) = true) (F : FnR X.prog X.w X.K X.mg X.base CX n g sp) (hr : Room n X.A) (hx : Passes CX X E) : OpR X (compareOp .Lt) (rIO C sp E) :=
  cmp_IO (op := .Lt) (fun _ _ => rfl) O PySem.F.slot_int_lt PySem.F.entry_int_lt PySem.F.args_int_lt_2 ⟨_, _, rfl⟩ hs hf F hr hx
theorem cmp_IO_le (O : OwnC X.K C) (hs : PySem.W.findIn X.K (.ref C) "__ge__" = some (some (.ref g))) (hf : PySem.W.isFn X.K (.ref g) = true) (F : FnR X.prog X.w X.K X.mg X.base CX n g sp) (hr : Room n X.A) (hx : Passes CX X E) : OpR X (compareOp .LtE) (rIO C sp E) :=
  cmp_IO (op := .LtE) (fun _ _ => rfl) O PySem.F.slot_int_le PySem.F.entry_int_le PySem.F.args_int_le_2 ⟨_, _, rfl⟩ hs hf F hr hx
theorem cmp_IO_gt (O : OwnC X.K C) (hs : PySem.W.findIn X.K (.ref C) "__lt__" = some (some (.ref g))) (hf : PySem.W.isFn X.K (.ref g) = true) (F : FnR X.prog X.w X.K X.mg X.base CX n g sp) (hr : Room n X.A) (hx : Passes CX X E) : OpR X (compareOp .Gt) (rIO C sp E) :=
  cmp_IO (op := .Gt) (fun _ _ => rfl) O PySem.F.slot_int_gt PySem.F.entry_int_gt PySem.F.args_int_gt_2 ⟨_, _, rfl⟩ hs hf F hr hx
theorem cmp_IO_ge (O : OwnC X.K C) (hs : PySem.W.findIn X.K (.ref C) "__le__" = some (some (.ref g))) (hf : PySem.W.isFn X.K (.ref g) = true) (F : FnR X.prog X.w X.K X.mg X.base CX n g sp) (hr : Room n X.A) (hx : Passes CX X E) : OpR X (compareOp .GtE) (rIO C sp E) :=
  cmp_IO (op := .GtE) (fun _ _ => rfl) O PySem.F.slot_int_ge PySem.F.entry_int_ge PySem.F.args_int_ge_2 ⟨_, _, rfl⟩ hs hf F hr hx
theorem cmp_IO_eq (O : OwnC X.K C) (hs : PySem.W.findIn X.K (.ref C) "__eq__" = some (some (.ref g))) (hf : PySem.W.isFn X.K (.ref g) = true) (F : FnR X.prog X.w X.K X.mg X.base CX n g sp) (hr : Room n X.A) (hx : Passes CX X E) : OpR X (compareOp .Eq) (rIO C sp E) :=
  cmp_IO (op := .Eq) (fun _ _ => rfl) O PySem.F.slot_int_eq PySem.F.entry_int_eq PySem.F.args_int_eq_2 ⟨_, _, rfl⟩ hs hf F hr hx
end
/-! ### bool(x) -/
theorem bool_own {prog : Program} {w : World} {A : Around} {E : Value → Shared → Prop} {s : Shared} {K : PySem.W.Frag} {x C f L : Addr} {h₀ : Heap} {m : Str → Option Value} {ox : Obj} {od : Option Obj} {Q : Value → Shared → Prop} (F : PyProof.Rows.Fr h₀ L s.heap m) (X : K.In h₀)
    (I : PySem.W.InstAt s.heap x ox C od) (hs : PySem.W.findIn K (.ref C) "__bool__" = some (some (.ref f))) (hf : PySem.W.isFn K (.ref f) = true)
    (h : wpAny (model prog w) A.in1.in1 (call (.ref f) [.ref x]) (fun r s₁ => ∃ b, r = Value.bool b ∧ Q r s₁) E s) : wpAny (model prog w) A (call (.type "bool") [.ref x]) Q E s := by
  refine callType_codes (T := "bool") (Bi := Builtin.«object.__init__») (Q₁ := fun r s₁ => ∃ b, r = Value.bool b ∧ Q r s₁) PySem.F.called_bool (PySem.F.typeCall_bool_1 _) PySem.F.entry_object_init ?_ ?_
  · refine codeAny_of_tree ?_
    show wpAny _ A.in1.in1 (do checkBuiltinCall "bool.__new__" ⟨[.type "bool", .ref x], []⟩; again (.builtin "bool.__new__" ⟨[.type "bool", .ref x], []⟩)) _ _ s
    refine wpAny_bind (wpAny_of_eq (PySem.F.newCall_bool_1 _) (wpAny_pure ⟨plainId_quiet (by decide +kernel) _, codeAny_builtin PySem.F.entry_bool_new ?_⟩))
    rw [Around.under_plainId (by decide +kernel) _]
    unfold Builtin.«bool.__new__»
    refine wpAny_bind (wpAny_of_eq (a := true) (by first | rfl | kernel_rfl) ?_)
    refine PySem.W.KFB.if_not rfl ?_
    refine wpAny_bind (wpAny_of_eq (a := true) PySem.F.conv_sub_bool ?_)
    refine PySem.W.KFB.if_not rfl ?_
    refine wpAny_bind (wpAny_of_eq (a := [Value.ref x]) (by first | rfl | kernel_rfl) ?_)
    refine wpAny_bind (PySem.W.truthy_K F X I hs hf (wpAny_mono h (fun r s₁ hr => ?_) fun _ _ y => y))
    obtain ⟨b, rfl, hq⟩ := hr
    exact wpAny_pure ⟨b, rfl, hq⟩
  · rintro obj s₁ ⟨b, rfl, hq⟩
    exact ⟨PySem.typeIs_bool _ _, PySem.F.args_object_init_2 _ _, object_init_meets PySem.F.called_bool.init.lookup PySem.F.called_bool.made (by decide) prog w A.in1 _ s₁ ⟨PySem.typeIs_bool _ _, rfl, hq⟩⟩
section
variable {X : Cx} {CX : CXT} {n : Nat} {C g : Addr} {sp : Sp} {E : XK}
/-- bool(x) of an instance -/
def rBoolO (C : Addr) (sp : Sp) (E : XK) : List V → Hp → VK → Prop := fun xs H Q => ∃ a dx fs, xs = [V.ref a] ∧ H a = some (.ins C dx fs) ∧ sp [.ref a] H (fun z H' => ∃ b, z = .bl b ∧ Q z H') E
theorem call_boolO (hs : PySem.W.findIn X.K (.ref C) "__bool__" = some (some (.ref g))) (hf : PySem.W.isFn X.K (.ref g) = true) (F : FnR X.prog X.w X.K X.mg X.base CX n g sp) (hr : Room (n + 2) X.A) (hx : Passes CX X E) : CallR X (.type "bool") (rBoolO C sp E) := by
  intro pins s σ G xs us Q I r h
  obtain ⟨a, dx, fs, rfl, ha, q⟩ := h
  obtain ⟨u, rfl, ru⟩ := r.one
  cases (show u = Value.ref a from ru)
  obtain ⟨od, J⟩ := inst_of I ha
  obtain ⟨m, hF⟩ := I.fr
  have hr2 : Room n X.A.in1.in1 := (show Room (n + 1) X.A.in1 from Room.in1 hr).in1
  refine bool_own hF I.ok.mod.kin J hs hf (wpAny_mono (wpAny_call (SlX.run_at (us := [.ref a]) (ws := [.ref a]) F hr2 I.env0.in1.in1 hx I (.cons rfl .nil) q)) (fun w s' z => ?_) fun _ _ x => x)
  obtain ⟨z', H', I', rz, b, rfl, qz⟩ := z
  cases (show w = Value.bool b from rz)
  exact ⟨b, rfl, .bl b, H', I', rfl, qz⟩
end
theorem w_boolO {C a dx : Addr} {sp : Sp} {E : XK} {H : Hp} {Q : VK} {fs : List (Str × V)} (ha : At H a (.ins C dx fs)) (q : sp [.ref a] H (fun z H' => ∃ b, z = .bl b ∧ Q z H') E) : rBoolO C sp E [.ref a] H Q := ⟨a, dx, fs, rfl, ha, q⟩
def rBool1 : List V → Hp → VK → Prop := fun xs H Q => (∃ i, xs = [.int i] ∧ Q (.bl (i != 0)) H) ∨ ∃ k, xs = [.bl k] ∧ Q (.bl k) H
theorem call_boolI {X : Cx} : CallR X (.type "bool") rBool1 := call_bool1
theorem w_bool1 {i : Int} {H : Hp} {Q : VK} (q : Q (.bl (!decide (i = 0))) H) : rBool1 [.int i] H Q := .inl ⟨i, rfl, by
  have e : (i != 0) = !decide (i = 0) := by by_cases h : i = 0 <;> simp [h]
  rw [e]; exact q⟩
section
variable {K : PySem.W.Frag} {H : Hp} {Q : VK} {a b : Bool}
theorem w_eqZB (q : Q (.bl (decide (a = b))) H) : rEqZ K (.bl a) (.bl b) H Q := .inl ⟨rfl, by
  have e : decide (V.bl a = V.bl b) = decide (a = b) := by simp
  rw [e]; exact q⟩
theorem w_neZB (q : Q (.bl (!decide (a = b))) H) : rNeZ K (.bl a) (.bl b) H Q := .inl ⟨rfl, by
  have e : decide (V.bl a = V.bl b) = decide (a = b) := by simp
  rw [e]; exact q⟩
end
end Z
namespace R
open PySem L2 Z
def top (i : Nat) : Stmt := PySem.Challenge.pw_dearestshelf_k04_ratio_order.main.body.getD i (.Pass ⟨0, 0, 0, 0⟩)
abbrev s_Ratio___abs__ : Stmt := inClass (top 8) 10
theorem sc_Ratio___abs__ : FnScope ["self"] ["self"] (defScope s_Ratio___abs__) := ⟨rfl, rfl, rfl, by decide +kernel, rfl, by decide +kernel, by decide +kernel⟩
abbrev s_Ratio___add__ : Stmt := inClass (top 8) 1
theorem sc_Ratio___add__ : FnScope ["self", "other"] ["self", "other"] (defScope s_Ratio___add__) := ⟨rfl, rfl, rfl, by decide +kernel, rfl, by decide +kernel, by decide +kernel⟩
abbrev s_Ratio___bool__ : Stmt := inClass (top 8) 11
theorem sc_Ratio___bool__ : FnScope ["self"] ["self"] (defScope s_Ratio___bool__) := ⟨rfl, rfl, rfl, by decide +kernel, rfl, by decide +kernel, by decide +kernel⟩
abbrev s_Ratio___eq__ : Stmt := inClass (top 8) 12
theorem sc_Ratio___eq__ : FnScope ["self", "other"] ["self", "other"] (defScope s_Ratio___eq__) := ⟨rfl, rfl, rfl, by decide +kernel, rfl, by decide +kernel, by decide +kernel⟩
abbrev s_Ratio___floordiv__ : Stmt := inClass (top 8) 7
theorem sc_Ratio___floordiv__ : FnScope ["self", "other", "quotient"] ["self", "other"] (defScope s_Ratio___floordiv__) := ⟨rfl, rfl, rfl, by decide +kernel, rfl, by decide +kernel, by decide +kernel⟩
abbrev s_Ratio___ge__ : Stmt := inClass (top 8) 16
theorem sc_Ratio___ge__ : FnScope ["self", "other"] ["self", "other"] (defScope s_Ratio___ge__) := ⟨rfl, rfl, rfl, by decide +kernel, rfl, by decide +kernel, by decide +kernel⟩
abbrev s_Ratio___gt__ : Stmt := inClass (top 8) 15
theorem sc_Ratio___gt__ : FnScope ["self", "other"] ["self", "other"] (defScope s_Ratio___gt__) := ⟨rfl, rfl, rfl, by decide +kernel, rfl, by decide +kernel, by decide +kernel⟩
abbrev s_Ratio___init__ : Stmt := inClass (top 8) 0
theorem sc_Ratio___init__ : FnScope ["self", "top", "bottom", "shared"] ["self", "top", "bottom"] (defScope s_Ratio___init__) := ⟨rfl, rfl, rfl, by decide +kernel, rfl, by decide +kernel, by decide +kernel⟩
abbrev s_Ratio___le__ : Stmt := inClass (top 8) 14
theorem sc_Ratio___le__ : FnScope ["self", "other"] ["self", "other"] (defScope s_Ratio___le__) := ⟨rfl, rfl, rfl, by decide +kernel, rfl, by decide +kernel, by decide +kernel⟩
abbrev s_Ratio___lt__ : Stmt := inClass (top 8) 13
theorem sc_Ratio___lt__ : FnScope ["self", "other"] ["self", "other"] (defScope s_Ratio___lt__) := ⟨rfl, rfl, rfl, by decide +kernel, rfl, by decide +kernel, by decide +kernel⟩
abbrev s_Ratio___mod__ : Stmt := inClass (top 8) 8
theorem sc_Ratio___mod__ : FnScope ["self", "other"] ["self", "other"] (defScope s_Ratio___mod__) := ⟨rfl, rfl, rfl, by decide +kernel, rfl, by decide +kernel, by decide +kernel⟩
abbrev s_Ratio___mul__ : Stmt := inClass (top 8) 5
theorem sc_Ratio___mul__ : FnScope ["self", "other"] ["self", "other"] (defScope s_Ratio___mul__) := ⟨rfl, rfl, rfl, by decide +kernel, rfl, by decide +kernel, by decide +kernel⟩
abbrev s_Ratio___neg__ : Stmt := inClass (top 8) 9
theorem sc_Ratio___neg__ : FnScope ["self"] ["self"] (defScope s_Ratio___neg__) := ⟨rfl, rfl, rfl, by decide +kernel, rfl, by decide +kernel, by decide +kernel⟩
abbrev s_Ratio___radd__ : Stmt := inClass (top 8) 2
theorem sc_Ratio___radd__ : FnScope ["self", "other"] ["self", "other"] (defScope s_Ratio___radd__) := ⟨rfl, rfl, rfl, by decide +kernel, rfl, by decide +kernel, by decide +kernel⟩
abbrev s_Ratio___rmul__ : Stmt := inClass (top 8) 6
theorem sc_Ratio___rmul__ : FnScope ["self", "other"] ["self", "other"] (defScope s_Ratio___rmul__) := ⟨rfl, rfl, rfl, by decide +kernel, rfl, by decide +kernel, by decide +kernel⟩
abbrev s_Ratio___rsub__ : Stmt := inClass (top 8) 4
theorem sc_Ratio___rsub__ : FnScope ["self", "other"] ["self", "other"] (defScope s_Ratio___rsub__) := ⟨rfl, rfl, rfl, by decide +kernel, rfl, by decide +kernel, by decide +kernel⟩
abbrev s_Ratio___str__ : Stmt := inClass (top 8) 17
theorem sc_Ratio___str__ : FnScope ["self"] ["self"] (defScope s_Ratio___str__) := ⟨rfl, rfl, rfl, by decide +kernel, rfl, by decide +kernel, by decide +kernel⟩
abbrev s_Ratio___sub__ : Stmt := inClass (top 8) 3
theorem sc_Ratio___sub__ : FnScope ["self", "other"] ["self", "other"] (defScope s_Ratio___sub__) := ⟨rfl, rfl, rfl, by decide +kernel, rfl, by decide +kernel, by decide +kernel⟩
abbrev s_Ratio_over : Stmt := inClass (top 8) 18
theorem sc_Ratio_over : FnScope ["self", "other"] ["self", "other"] (defScope s_Ratio_over) := ⟨rfl, rfl, rfl, by decide +kernel, rfl, by decide +kernel, by decide +kernel⟩
abbrev s__law_alike : Stmt := top 15
theorem sc__law_alike : FnScope ["_law_told_here", "_law_due_here", "_law_k"] ["_law_told_here", "_law_due_here"] (defScope s__law_alike) := ⟨rfl, rfl, rfl, by decide +kernel, rfl, by decide +kernel, by decide +kernel⟩
abbrev s__law_cell : Stmt := top 10
theorem sc__law_cell : FnScope ["_law_script", "_law_place"] ["_law_script", "_law_place"] (defScope s__law_cell) := ⟨rfl, rfl, rfl, by decide +kernel, rfl, by decide +kernel, by decide +kernel⟩
abbrev s__law_draws : Stmt := top 11
theorem sc__law_draws : FnScope ["_law_cell_here", "_law_sizes", "_law_left", "_law_found", "_law_size", "_law_k", "_law_low", "_law_high"] ["_law_cell_here", "_law_sizes"] (defScope s__law_draws) := ⟨rfl, rfl, rfl, by decide +kernel, rfl, by decide +kernel, by decide +kernel⟩
abbrev s__law_due : Stmt := top 14
theorem sc__law_due : FnScope ["_law_a", "_law_b", "_law_left", "_law_right"] ["_law_a", "_law_b"] (defScope s__law_due) := ⟨rfl, rfl, rfl, by decide +kernel, rfl, by decide +kernel, by decide +kernel⟩
abbrev s__law_told : Stmt := top 13
theorem sc__law_told : FnScope ["_law_x", "_law_y"] ["_law_x", "_law_y"] (defScope s__law_told) := ⟨rfl, rfl, rfl, by decide +kernel, rfl, by decide +kernel, by decide +kernel⟩
abbrev s__law_wide : Stmt := top 12
theorem sc__law_wide : FnScope ["_law_parts", "_law_number", "_law_part"] ["_law_parts"] (defScope s__law_wide) := ⟨rfl, rfl, rfl, by decide +kernel, rfl, by decide +kernel, by decide +kernel⟩
abbrev s_law : Stmt := top 16
theorem sc_law : FnScope ["_law_script", "_law_ways", "_law_parts", "_law_bound", "_law_numbers", "_law_top_a", "_law_bottom_a", "_law_top_b", "_law_bottom_b", "_law_whole", "_law_scale", "_law_one", "_law_two", "_law_a", "_law_b", "_law_n", "_law_equal", "_law_k"] ["_law_script"] (defScope s_law) := ⟨rfl, rfl, rfl, by decide +kernel, rfl, by decide +kernel, by decide +kernel⟩
abbrev s_read_whole : Stmt := top 7
theorem sc_read_whole : FnScope ["text", "char"] ["text"] (defScope s_read_whole) := ⟨rfl, rfl, rfl, by decide +kernel, rfl, by decide +kernel, by decide +kernel⟩
structure Tx (K : PySem.W.Frag) (mg : Str → Option Value) : Prop where
  n_abs : mg "abs" = none
  n_bool : mg "bool" = none
  n_int : mg "int" = none
  n_isinstance : mg "isinstance" = none
  n_len : mg "len" = none
  n_max : mg "max" = none
  n_range : mg "range" = none
  n_str : mg "str" = none
  m_gcd : mg "gcd" = some (.builtin "math.gcd")
  g__law_alike : mg "_law_alike" = some (.ref (He.ga K "_law_alike"))
  g__law_cell : mg "_law_cell" = some (.ref (He.ga K "_law_cell"))
  g__law_draws : mg "_law_draws" = some (.ref (He.ga K "_law_draws"))
  g__law_due : mg "_law_due" = some (.ref (He.ga K "_law_due"))
  g__law_told : mg "_law_told" = some (.ref (He.ga K "_law_told"))
  g__law_wide : mg "_law_wide" = some (.ref (He.ga K "_law_wide"))
  g_law : mg "law" = some (.ref (He.ga K "law"))
  g_read_whole : mg "read_whole" = some (.ref (He.ga K "read_whole"))
  g_ShelfError : mg "ShelfError" = some (.ref (He.ga K "ShelfError"))
  ec_ShelfError : ExcC K (He.ga K "ShelfError")
  x_ShelfError : PySem.W.excIn K (He.ga K "ShelfError") He.veBase "ValueError.__new__" = true ∧ PySem.W.keepIn K (.ref (He.ga K "ShelfError")) = true ∧ PySem.W.subIn K (.ref (He.ga K "ShelfError")) (.type "BaseException") = some true ∧ PySem.W.typeIn K (.ref (He.ga K "ShelfError")) = some (.type "type")
  g_ZeroBottom : mg "ZeroBottom" = some (.ref (He.ga K "ZeroBottom"))
  ec_ZeroBottom : ExcC K (He.ga K "ZeroBottom")
  x_ZeroBottom : PySem.W.excIn K (He.ga K "ZeroBottom") He.veBase "ValueError.__new__" = true ∧ PySem.W.keepIn K (.ref (He.ga K "ZeroBottom")) = true ∧ PySem.W.subIn K (.ref (He.ga K "ZeroBottom")) (.type "BaseException") = some true ∧ PySem.W.typeIn K (.ref (He.ga K "ZeroBottom")) = some (.type "type")
  g_BadText : mg "BadText" = some (.ref (He.ga K "BadText"))
  ec_BadText : ExcC K (He.ga K "BadText")
  x_BadText : PySem.W.excIn K (He.ga K "BadText") He.veBase "ValueError.__new__" = true ∧ PySem.W.keepIn K (.ref (He.ga K "BadText")) = true ∧ PySem.W.subIn K (.ref (He.ga K "BadText")) (.type "BaseException") = some true ∧ PySem.W.typeIn K (.ref (He.ga K "BadText")) = some (.type "type")
  g_Ratio : mg "Ratio" = some (.ref (He.ga K "Ratio"))
  o_Ratio : Z.OwnC K (He.ga K "Ratio")
  mk_Ratio : Mk K (He.ga K "Ratio") (He.ma K (He.ga K "Ratio") "__init__")
  na_Ratio_top : NoAttr K (He.ga K "Ratio") "top"
  na_Ratio_bottom : NoAttr K (He.ga K "Ratio") "bottom"
  me_Ratio___add__ : Meth K (He.ga K "Ratio") "__add__" (He.ma K (He.ga K "Ratio") "__add__")
  me_Ratio___radd__ : Meth K (He.ga K "Ratio") "__radd__" (He.ma K (He.ga K "Ratio") "__radd__")
  me_Ratio___sub__ : Meth K (He.ga K "Ratio") "__sub__" (He.ma K (He.ga K "Ratio") "__sub__")
  me_Ratio___rsub__ : Meth K (He.ga K "Ratio") "__rsub__" (He.ma K (He.ga K "Ratio") "__rsub__")
  me_Ratio___mul__ : Meth K (He.ga K "Ratio") "__mul__" (He.ma K (He.ga K "Ratio") "__mul__")
  me_Ratio___rmul__ : Meth K (He.ga K "Ratio") "__rmul__" (He.ma K (He.ga K "Ratio") "__rmul__")
  me_Ratio___floordiv__ : Meth K (He.ga K "Ratio") "__floordiv__" (He.ma K (He.ga K "Ratio") "__floordiv__")
  me_Ratio___mod__ : Meth K (He.ga K "Ratio") "__mod__" (He.ma K (He.ga K "Ratio") "__mod__")
  me_Ratio___neg__ : Meth K (He.ga K "Ratio") "__neg__" (He.ma K (He.ga K "Ratio") "__neg__")
  me_Ratio___abs__ : Meth K (He.ga K "Ratio") "__abs__" (He.ma K (He.ga K "Ratio") "__abs__")
  me_Ratio___bool__ : Meth K (He.ga K "Ratio") "__bool__" (He.ma K (He.ga K "Ratio") "__bool__")
  me_Ratio___eq__ : Meth K (He.ga K "Ratio") "__eq__" (He.ma K (He.ga K "Ratio") "__eq__")
  me_Ratio___lt__ : Meth K (He.ga K "Ratio") "__lt__" (He.ma K (He.ga K "Ratio") "__lt__")
  me_Ratio___le__ : Meth K (He.ga K "Ratio") "__le__" (He.ma K (He.ga K "Ratio") "__le__")
  me_Ratio___gt__ : Meth K (He.ga K "Ratio") "__gt__" (He.ma K (He.ga K "Ratio") "__gt__")
  me_Ratio___ge__ : Meth K (He.ga K "Ratio") "__ge__" (He.ma K (He.ga K "Ratio") "__ge__")
  me_Ratio___str__ : Meth K (He.ga K "Ratio") "__str__" (He.ma K (He.ga K "Ratio") "__str__")
  me_Ratio_over : Meth K (He.ga K "Ratio") "over" (He.ma K (He.ga K "Ratio") "over")
  no_Ratio___rfloordiv__ : PySem.W.findIn K (.ref (He.ga K "Ratio")) "__rfloordiv__" = some none
  no_Ratio___rmod__ : PySem.W.findIn K (.ref (He.ga K "Ratio")) "__rmod__" = some none
  F_Ratio___abs__ : FunD K "__abs__" "Ratio.__abs__" (defArgs s_Ratio___abs__) (defBody s_Ratio___abs__) (defScope s_Ratio___abs__) [] [] (He.ma K (He.ga K "Ratio") "__abs__") (Z.fdOf K (He.ma K (He.ga K "Ratio") "__abs__"))
  b_Ratio___abs__ : Binds K (Z.fdOf K (He.ma K (He.ga K "Ratio") "__abs__")) ["self"] []
  F_Ratio___add__ : FunD K "__add__" "Ratio.__add__" (defArgs s_Ratio___add__) (defBody s_Ratio___add__) (defScope s_Ratio___add__) [] [] (He.ma K (He.ga K "Ratio") "__add__") (Z.fdOf K (He.ma K (He.ga K "Ratio") "__add__"))
  b_Ratio___add__ : Binds K (Z.fdOf K (He.ma K (He.ga K "Ratio") "__add__")) ["self", "other"] []
  F_Ratio___bool__ : FunD K "__bool__" "Ratio.__bool__" (defArgs s_Ratio___bool__) (defBody s_Ratio___bool__) (defScope s_Ratio___bool__) [] [] (He.ma K (He.ga K "Ratio") "__bool__") (Z.fdOf K (He.ma K (He.ga K "Ratio") "__bool__"))
  b_Ratio___bool__ : Binds K (Z.fdOf K (He.ma K (He.ga K "Ratio") "__bool__")) ["self"] []
  F_Ratio___eq__ : FunD K "__eq__" "Ratio.__eq__" (defArgs s_Ratio___eq__) (defBody s_Ratio___eq__) (defScope s_Ratio___eq__) [] [] (He.ma K (He.ga K "Ratio") "__eq__") (Z.fdOf K (He.ma K (He.ga K "Ratio") "__eq__"))
  b_Ratio___eq__ : Binds K (Z.fdOf K (He.ma K (He.ga K "Ratio") "__eq__")) ["self", "other"] []
  F_Ratio___floordiv__ : FunD K "__floordiv__" "Ratio.__floordiv__" (defArgs s_Ratio___floordiv__) (defBody s_Ratio___floordiv__) (defScope s_Ratio___floordiv__) [] [] (He.ma K (He.ga K "Ratio") "__floordiv__") (Z.fdOf K (He.ma K (He.ga K "Ratio") "__floordiv__"))
  b_Ratio___floordiv__ : Binds K (Z.fdOf K (He.ma K (He.ga K "Ratio") "__floordiv__")) ["self", "other"] []
  F_Ratio___ge__ : FunD K "__ge__" "Ratio.__ge__" (defArgs s_Ratio___ge__) (defBody s_Ratio___ge__) (defScope s_Ratio___ge__) [] [] (He.ma K (He.ga K "Ratio") "__ge__") (Z.fdOf K (He.ma K (He.ga K "Ratio") "__ge__"))
  b_Ratio___ge__ : Binds K (Z.fdOf K (He.ma K (He.ga K "Ratio") "__ge__")) ["self", "other"] []
  F_Ratio___gt__ : FunD K "__gt__" "Ratio.__gt__" (defArgs s_Ratio___gt__) (defBody s_Ratio___gt__) (defScope s_Ratio___gt__) [] [] (He.ma K (He.ga K "Ratio") "__gt__") (Z.fdOf K (He.ma K (He.ga K "Ratio") "__gt__"))
  b_Ratio___gt__ : Binds K (Z.fdOf K (He.ma K (He.ga K "Ratio") "__gt__")) ["self", "other"] []
  F_Ratio___init__ : FunD K "__init__" "Ratio.__init__" (defArgs s_Ratio___init__) (defBody s_Ratio___init__) (defScope s_Ratio___init__) [V.int 1] [] (He.ma K (He.ga K "Ratio") "__init__") (Z.fdOf K (He.ma K (He.ga K "Ratio") "__init__"))
  b2_Ratio___init__ : ∃ ds, Vals (([V.int 1] : List V).drop 0) ds ∧ Binds K (Z.fdOf K (He.ma K (He.ga K "Ratio") "__init__")) ["self", "top", "bottom"] ds
  b3_Ratio___init__ : ∃ ds, Vals (([V.int 1] : List V).drop 1) ds ∧ Binds K (Z.fdOf K (He.ma K (He.ga K "Ratio") "__init__")) ["self", "top", "bottom"] ds
  F_Ratio___le__ : FunD K "__le__" "Ratio.__le__" (defArgs s_Ratio___le__) (defBody s_Ratio___le__) (defScope s_Ratio___le__) [] [] (He.ma K (He.ga K "Ratio") "__le__") (Z.fdOf K (He.ma K (He.ga K "Ratio") "__le__"))
  b_Ratio___le__ : Binds K (Z.fdOf K (He.ma K (He.ga K "Ratio") "__le__")) ["self", "other"] []
  F_Ratio___lt__ : FunD K "__lt__" "Ratio.__lt__" (defArgs s_Ratio___lt__) (defBody s_Ratio___lt__) (defScope s_Ratio___lt__) [] [] (He.ma K (He.ga K "Ratio") "__lt__") (Z.fdOf K (He.ma K (He.ga K "Ratio") "__lt__"))
  b_Ratio___lt__ : Binds K (Z.fdOf K (He.ma K (He.ga K "Ratio") "__lt__")) ["self", "other"] []
  F_Ratio___mod__ : FunD K "__mod__" "Ratio.__mod__" (defArgs s_Ratio___mod__) (defBody s_Ratio___mod__) (defScope s_Ratio___mod__) [] [] (He.ma K (He.ga K "Ratio") "__mod__") (Z.fdOf K (He.ma K (He.ga K "Ratio") "__mod__"))
  b_Ratio___mod__ : Binds K (Z.fdOf K (He.ma K (He.ga K "Ratio") "__mod__")) ["self", "other"] []
  F_Ratio___mul__ : FunD K "__mul__" "Ratio.__mul__" (defArgs s_Ratio___mul__) (defBody s_Ratio___mul__) (defScope s_Ratio___mul__) [] [] (He.ma K (He.ga K "Ratio") "__mul__") (Z.fdOf K (He.ma K (He.ga K "Ratio") "__mul__"))
  b_Ratio___mul__ : Binds K (Z.fdOf K (He.ma K (He.ga K "Ratio") "__mul__")) ["self", "other"] []
  F_Ratio___neg__ : FunD K "__neg__" "Ratio.__neg__" (defArgs s_Ratio___neg__) (defBody s_Ratio___neg__) (defScope s_Ratio___neg__) [] [] (He.ma K (He.ga K "Ratio") "__neg__") (Z.fdOf K (He.ma K (He.ga K "Ratio") "__neg__"))
  b_Ratio___neg__ : Binds K (Z.fdOf K (He.ma K (He.ga K "Ratio") "__neg__")) ["self"] []
  F_Ratio___radd__ : FunD K "__radd__" "Ratio.__radd__" (defArgs s_Ratio___radd__) (defBody s_Ratio___radd__) (defScope s_Ratio___radd__) [] [] (He.ma K (He.ga K "Ratio") "__radd__") (Z.fdOf K (He.ma K (He.ga K "Ratio") "__radd__"))
  b_Ratio___radd__ : Binds K (Z.fdOf K (He.ma K (He.ga K "Ratio") "__radd__")) ["self", "other"] []
  F_Ratio___rmul__ : FunD K "__rmul__" "Ratio.__rmul__" (defArgs s_Ratio___rmul__) (defBody s_Ratio___rmul__) (defScope s_Ratio___rmul__) [] [] (He.ma K (He.ga K "Ratio") "__rmul__") (Z.fdOf K (He.ma K (He.ga K "Ratio") "__rmul__"))
  b_Ratio___rmul__ : Binds K (Z.fdOf K (He.ma K (He.ga K "Ratio") "__rmul__")) ["self", "other"] []
  F_Ratio___rsub__ : FunD K "__rsub__" "Ratio.__rsub__" (defArgs s_Ratio___rsub__) (defBody s_Ratio___rsub__) (defScope s_Ratio___rsub__) [] [] (He.ma K (He.ga K "Ratio") "__rsub__") (Z.fdOf K (He.ma K (He.ga K "Ratio") "__rsub__"))
  b_Ratio___rsub__ : Binds K (Z.fdOf K (He.ma K (He.ga K "Ratio") "__rsub__")) ["self", "other"] []
  F_Ratio___str__ : FunD K "__str__" "Ratio.__str__" (defArgs s_Ratio___str__) (defBody s_Ratio___str__) (defScope s_Ratio___str__) [] [] (He.ma K (He.ga K "Ratio") "__str__") (Z.fdOf K (He.ma K (He.ga K "Ratio") "__str__"))
  b_Ratio___str__ : Binds K (Z.fdOf K (He.ma K (He.ga K "Ratio") "__str__")) ["self"] []
  F_Ratio___sub__ : FunD K "__sub__" "Ratio.__sub__" (defArgs s_Ratio___sub__) (defBody s_Ratio___sub__) (defScope s_Ratio___sub__) [] [] (He.ma K (He.ga K "Ratio") "__sub__") (Z.fdOf K (He.ma K (He.ga K "Ratio") "__sub__"))
  b_Ratio___sub__ : Binds K (Z.fdOf K (He.ma K (He.ga K "Ratio") "__sub__")) ["self", "other"] []
  F_Ratio_over : FunD K "over" "Ratio.over" (defArgs s_Ratio_over) (defBody s_Ratio_over) (defScope s_Ratio_over) [] [] (He.ma K (He.ga K "Ratio") "over") (Z.fdOf K (He.ma K (He.ga K "Ratio") "over"))
  b_Ratio_over : Binds K (Z.fdOf K (He.ma K (He.ga K "Ratio") "over")) ["self", "other"] []
  F__law_alike : FunD K "_law_alike" "_law_alike" (defArgs s__law_alike) (defBody s__law_alike) (defScope s__law_alike) [] [] (He.ga K "_law_alike") (Z.fdOf K (He.ga K "_law_alike"))
  b__law_alike : Binds K (Z.fdOf K (He.ga K "_law_alike")) ["_law_told_here", "_law_due_here"] []
  F__law_cell : FunD K "_law_cell" "_law_cell" (defArgs s__law_cell) (defBody s__law_cell) (defScope s__law_cell) [] [] (He.ga K "_law_cell") (Z.fdOf K (He.ga K "_law_cell"))
  b__law_cell : Binds K (Z.fdOf K (He.ga K "_law_cell")) ["_law_script", "_law_place"] []
  F__law_draws : FunD K "_law_draws" "_law_draws" (defArgs s__law_draws) (defBody s__law_draws) (defScope s__law_draws) [] [] (He.ga K "_law_draws") (Z.fdOf K (He.ga K "_law_draws"))
  b__law_draws : Binds K (Z.fdOf K (He.ga K "_law_draws")) ["_law_cell_here", "_law_sizes"] []
  F__law_due : FunD K "_law_due" "_law_due" (defArgs s__law_due) (defBody s__law_due) (defScope s__law_due) [] [] (He.ga K "_law_due") (Z.fdOf K (He.ga K "_law_due"))
  b__law_due : Binds K (Z.fdOf K (He.ga K "_law_due")) ["_law_a", "_law_b"] []
  F__law_told : FunD K "_law_told" "_law_told" (defArgs s__law_told) (defBody s__law_told) (defScope s__law_told) [] [] (He.ga K "_law_told") (Z.fdOf K (He.ga K "_law_told"))
  b__law_told : Binds K (Z.fdOf K (He.ga K "_law_told")) ["_law_x", "_law_y"] []
  F__law_wide : FunD K "_law_wide" "_law_wide" (defArgs s__law_wide) (defBody s__law_wide) (defScope s__law_wide) [] [] (He.ga K "_law_wide") (Z.fdOf K (He.ga K "_law_wide"))
  b__law_wide : Binds K (Z.fdOf K (He.ga K "_law_wide")) ["_law_parts"] []
  F_law : FunD K "law" "law" (defArgs s_law) (defBody s_law) (defScope s_law) [] [] (He.ga K "law") (Z.fdOf K (He.ga K "law"))
  b_law : Binds K (Z.fdOf K (He.ga K "law")) ["_law_script"] []
  F_read_whole : FunD K "read_whole" "read_whole" (defArgs s_read_whole) (defBody s_read_whole) (defScope s_read_whole) [] [] (He.ga K "read_whole") (Z.fdOf K (He.ga K "read_whole"))
  b_read_whole : Binds K (Z.fdOf K (He.ga K "read_whole")) ["text"] []
variable {P : Program} {w : World} {K : PySem.W.Frag} {mg : Str → Option Value} {base : Heap}
--lib
/-! ### a Ratio stands for a Rat -/
def rF (t b : Int) : List (Str × V) := [("top", .int t), ("bottom", .int b)]
theorem rF_top (t b : Int) : (rF t b).lookup ("top" : Str) = some (.int t) := rfl
theorem rF_bottom (t b : Int) : (rF t b).lookup ("bottom" : Str) = some (.int b) := by
  have h : (("bottom" : Str) == ("top" : Str)) = false := by decide +kernel
  simp only [rF, List.lookup, h]
  rfl
theorem rF_put (t b : Int) : putF "bottom" (.int b) (putF "top" (.int t) []) = rF t b := by
  have h : ¬ (("top" : Str) = ("bottom" : Str)) := by decide +kernel
  show (if ("top" : Str) = "bottom" then _ else _) = _
  rw [if_neg h]
  rfl
theorem rF_no (t b : Int) {m : Str} (h1 : (m == ("top" : Str)) = false) (h2 : (m == ("bottom" : Str)) = false) : (rF t b).lookup m = none := by
  simp only [rF, List.lookup, h1, h2]
/-- numbers of less than n bits -/
def Sz (q : Rat) (n : Nat) : Prop := q.num.natAbs < 2 ^ n ∧ q.den < 2 ^ n
theorem Sz.mono {q : Rat} {n m : Nat} (h : Sz q n) (hm : n ≤ m) : Sz q m := ⟨Nat.lt_of_lt_of_le h.1 (Nat.pow_le_pow_right (by decide) hm), Nat.lt_of_lt_of_le h.2 (Nat.pow_le_pow_right (by decide) hm)⟩
theorem Sz.den {q : Rat} {n : Nat} (h : Sz q n) : ((q.den : Int)).natAbs < 2 ^ n := by rw [Int.natAbs_natCast]; exact h.2
/-- the Ratio of q stands at a, its numbers have less than n bits -/
structure RN (C : Addr) (H : Hp) (a : Addr) (q : Rat) (n : Nat) : Prop where
  at_ : ∃ dx, At H a (.ins C dx (rF q.num q.den))
  sz : Sz q n
  le : n ≤ 9000
theorem RN.ex {C a : Addr} {H H' : Hp} {q : Rat} {n : Nat} (h : RN C H a q n) (e : Ex H H') : RN C H' a q n := ⟨⟨h.at_.choose, e.get h.at_.choose_spec⟩, h.sz, h.le⟩
theorem RN.nl {C a : Addr} {H H' : Hp} {q : Rat} {n : Nat} (h : RN C H a q n) (e : Nl H H') : RN C H' a q n := ⟨⟨h.at_.choose, e.get (fun l z => by cases z) h.at_.choose_spec⟩, h.sz, h.le⟩
theorem rnE {C a : Addr} {H H' : Hp} {q : Rat} {n : Nat} (h : RN C H a q n) (e : Exs H H') : RN C H' a q n := h.ex e.ex
theorem rnN {C a : Addr} {H H' : Hp} {q : Rat} {n : Nat} (h : RN C H a q n) (e : Nls H H') : RN C H' a q n := h.nl e.nl
theorem RN.eq {C a : Addr} {H : Hp} {q r : Rat} {n m : Nat} (h : RN C H a q n) (e : q = r) (hm : n ≤ m) (h9 : m ≤ 9000) : RN C H a r m := ⟨e ▸ h.at_, e ▸ h.sz.mono hm, h9⟩
/-- an int or a Ratio -/
inductive RZ (C : Addr) (H : Hp) : V → Rat → Nat → Prop where
  | int {i : Int} {n : Nat} (h : i.natAbs < 2 ^ n) : RZ C H (.int i) (i : Rat) n
  | rat {a : Addr} {q : Rat} {n : Nat} (h : RN C H a q n) : RZ C H (.ref a) q n
theorem RZ.ex {C : Addr} {H H' : Hp} {v : V} {q : Rat} {n : Nat} (h : RZ C H v q n) (e : Ex H H') : RZ C H' v q n := by
  cases h with
  | int h => exact .int h
  | rat h => exact .rat (h.ex e)
/-- what __init__ reckons -/
theorem div_num {t b : Int} (hb : 0 < b) : (Rat.divInt t b).num = t / ((Nat.gcd t.natAbs b.natAbs : Nat) : Int) := by
  rw [Rat.num_divInt, Int.sign_eq_one_of_pos hb, Int.one_mul, Int.gcd_comm]; rfl
theorem div_den {t b : Int} (hb : 0 < b) : ((Rat.divInt t b).den : Int) = b / ((Nat.gcd t.natAbs b.natAbs : Nat) : Int) := by
  rw [Rat.den_divInt, if_neg (by omega), Int.gcd_comm, Int.natCast_ediv, Int.natAbs_of_nonneg (by omega)]; rfl
theorem sz_div {t b : Int} {n : Nat} (hb : b ≠ 0) (h1 : t.natAbs < 2 ^ n) (h2 : b.natAbs < 2 ^ n) : Sz (Rat.divInt t b) n := by
  constructor
  · rw [Rat.num_divInt]
    refine Nat.lt_of_le_of_lt ?_ h1
    refine Nat.le_trans (Int.natAbs_ediv_le_natAbs _ _) ?_
    rw [Int.natAbs_mul, Int.natAbs_sign_of_ne_zero hb]
    omega
  · rw [Rat.den_divInt, if_neg hb]
    exact Nat.lt_of_le_of_lt (Nat.div_le_self _ _) h2
theorem rat_eq (q : Rat) : q = Rat.divInt q.num q.den := (Rat.num_divInt_den q).symm
theorem div1 (n : Int) : (n : Rat) = Rat.divInt n 1 := by
  apply Rat.ext
  · rw [Rat.num_divInt]; simp
  · rw [Rat.den_divInt]; simp
theorem sz_int {i : Int} {n : Nat} (h : i.natAbs < 2 ^ n) : Sz (i : Rat) (n + 1) := by
  rw [div1]
  exact sz_div (by decide) (bt_mono h (by omega)) (by rw [Nat.pow_succ]; have := Nat.pow_pos (n := n) (show 0 < 2 by decide); show 1 < _; omega)
theorem den0 (q : Rat) : (q.den : Int) ≠ 0 := by have := q.den_pos; omega
theorem den1 (q : Rat) : (0 : Int) < q.den := by have := q.den_pos; omega
/-- sums, products, as __init__ is called for them -/
theorem add_int (q : Rat) (n : Int) : q + (n : Rat) = Rat.divInt (q.num + n * q.den) q.den := by
  conv => lhs; rw [div1 n, rat_eq q]
  rw [Rat.divInt_add_divInt _ _ (den0 q) (by decide), Int.mul_one, Int.mul_one]
theorem sub_int (q : Rat) (n : Int) : q - (n : Rat) = Rat.divInt (q.num - n * q.den) q.den := by
  conv => lhs; rw [div1 n, rat_eq q]
  rw [Rat.divInt_sub_divInt _ _ (den0 q) (by decide), Int.mul_one, Int.mul_one]
theorem mul_int' (q : Rat) (n : Int) : q * (n : Rat) = Rat.divInt (q.num * n) q.den := by
  conv => lhs; rw [div1 n, rat_eq q]
  rw [Rat.divInt_mul_divInt, Int.mul_one]
theorem add_rat (q r : Rat) : q + r = Rat.divInt (q.num * r.den + r.num * q.den) (q.den * r.den) := by
  conv => lhs; rw [rat_eq q, rat_eq r]
  rw [Rat.divInt_add_divInt _ _ (den0 q) (den0 r)]
theorem sub_rat (q r : Rat) : q - r = Rat.divInt (q.num * r.den - r.num * q.den) (q.den * r.den) := by
  conv => lhs; rw [rat_eq q, rat_eq r]
  rw [Rat.divInt_sub_divInt _ _ (den0 q) (den0 r)]
theorem mul_rat (q r : Rat) : q * r = Rat.divInt (q.num * r.num) (q.den * r.den) := by
  conv => lhs; rw [rat_eq q, rat_eq r]
  rw [Rat.divInt_mul_divInt]
theorem up9 {a : Int} {n : Nat} (h : a.natAbs < 2 ^ n) (hn : n ≤ 9000) : a.natAbs < 2 ^ 9000 := bt_mono h hn
theorem num0 {q : Rat} : q.num = 0 ↔ q = 0 := by
  constructor
  · intro h
    rw [rat_eq q, h]
    exact Rat.zero_divInt _
  · intro h; rw [h]; rfl
/-- quotients -/
theorem div_int (q : Rat) {n : Int} (h : n ≠ 0) : q / (n : Rat) = Rat.divInt q.num (q.den * n) := by
  conv => lhs; rw [div1 n, rat_eq q]
  rw [Rat.div_def, Rat.inv_divInt, Rat.divInt_mul_divInt, Int.mul_one]
theorem div_rat (q r : Rat) : q / r = Rat.divInt (q.num * r.den) (q.den * r.num) := by
  conv => lhs; rw [rat_eq q, rat_eq r]
  rw [Rat.div_def, Rat.inv_divInt, Rat.divInt_mul_divInt]
/-- order by whole numbers -/
theorem lt_rat (q r : Rat) : q < r ↔ q.num * r.den < r.num * q.den := Rat.lt_iff q r
theorem le_rat (q r : Rat) : q ≤ r ↔ q.num * r.den ≤ r.num * q.den := Rat.le_iff q r
theorem lt_int (q : Rat) (n : Int) : q < (n : Rat) ↔ q.num < n * q.den := by rw [lt_rat]; simp
theorem le_int (q : Rat) (n : Int) : q ≤ (n : Rat) ↔ q.num ≤ n * q.den := by rw [le_rat]; simp
theorem int_lt (q : Rat) (n : Int) : (n : Rat) < q ↔ n * q.den < q.num := by rw [lt_rat]; simp
theorem int_le (q : Rat) (n : Int) : (n : Rat) ≤ q ↔ n * q.den ≤ q.num := by rw [le_rat]; simp
theorem eq_rat (q r : Rat) : q = r ↔ (q.num = r.num ∧ (q.den : Int) = r.den) := by
  constructor
  · rintro rfl; exact ⟨rfl, rfl⟩
  · rintro ⟨h1, h2⟩
    exact Rat.ext h1 (by omega)
/-- a Ratio's fields, behind its __init__ -/
theorem mk_rat {C p dx : Addr} {H H2 H' : Hp} {q : Rat} {n : Nat} (nw : New C H p dx H2) (h1 : ∀ c o, c ≠ p → At H2 c o → At H' c o) (h2 : At H' p (.ins C dx (rF q.num q.den))) (hs : Sz q n) (hn : n ≤ 9000) : Ex H H' ∧ RN C H' p q n :=
  ⟨⟨fun {a} {o} e => h1 a o (e.ne nw.new) (nw.ex.get e)⟩, ⟨dx, h2⟩, hs, hn⟩
theorem floor_nd (q : Rat) : q.floor = q.num / q.den := by
  unfold Rat.floor
  split
  · rename_i h; rw [h]; simp
  · rfl
theorem le_divI {f t b : Int} (hb : 0 < b) : (f : Rat) ≤ Rat.divInt t b ↔ f * b ≤ t := by
  have h0 : (0 : Rat) < (b : Rat) := by exact_mod_cast hb
  rw [Rat.divInt_eq_div, ← Rat.not_lt, Rat.div_lt_iff h0, Rat.not_lt]
  exact_mod_cast Iff.rfl
theorem divI_lt {f t b : Int} (hb : 0 < b) : Rat.divInt t b < (f : Rat) ↔ t < f * b := by
  have h0 : (0 : Rat) < (b : Rat) := by exact_mod_cast hb
  rw [Rat.divInt_eq_div, Rat.div_lt_iff h0]
  exact_mod_cast Iff.rfl
/-- the floor of a fraction -/
theorem floor_div {t b : Int} (hb : 0 < b) : (Rat.divInt t b).floor * b ≤ t ∧ t < ((Rat.divInt t b).floor + 1) * b :=
  ⟨(le_divI hb).mp (Rat.floor_le _), (divI_lt hb).mp (Rat.lt_floor_add_one _)⟩
theorem floor_bt {q : Rat} {n : Nat} (h : Sz q n) : q.floor.natAbs < 2 ^ n := by rw [floor_nd]; exact bt_fdiv h.1
theorem floor_divI {t b : Int} (hb : 0 < b) : (Rat.divInt t b).floor = t / b := by
  obtain ⟨h1, h2⟩ := floor_div (t := t) hb
  apply Int.le_antisymm
  · exact (Int.le_ediv_iff_mul_le hb).mpr h1
  · exact Int.le_of_lt_add_one ((Int.ediv_lt_iff_lt_mul hb).mpr h2)
/-- the rest is smaller than the divisor -/
theorem rest_lt {t b : Int} (hb : b ≠ 0) : (t - b * (Rat.divInt t b).floor).natAbs < b.natAbs := by
  by_cases h : 0 < b
  · rw [floor_divI h]
    have h1 := Int.emod_nonneg t hb
    have h2 := Int.emod_lt_of_pos t h
    have h3 := Int.mul_ediv_add_emod t b
    omega
  · have hn : 0 < -b := by omega
    have e : Rat.divInt t b = Rat.divInt (-t) (-b) := (Rat.neg_divInt_neg t b).symm
    rw [e, floor_divI hn]
    have h1 := Int.emod_nonneg (-t) (show -b ≠ 0 by omega)
    have h2 := Int.emod_lt_of_pos (-t) hn
    have h3 := Int.mul_ediv_add_emod (-t) (-b)
    have h4 : -b * (-t / -b) = -(b * (-t / -b)) := Int.neg_mul _ _
    omega
theorem sz_mod {q r : Rat} {n m : Nat} (hq : Sz q n) (hr : Sz r m) (h0 : r ≠ 0) : Sz (q - r * ((q / r).floor : Rat)) (n + m) := by
  have hn : r.num ≠ 0 := fun z => h0 (num0.mp z)
  have hd := den0 q
  have e : q - r * ((q / r).floor : Rat) = Rat.divInt (q.num * r.den - r.num * q.den * (q / r).floor) (q.den * r.den) := by
    conv => lhs; rw [rat_eq q, rat_eq r]
    rw [← rat_eq q, ← rat_eq r]
    generalize (q / r).floor = f
    have e1 : r * (f : Rat) = Rat.divInt (r.num * f) r.den := mul_int' r f
    rw [e1]
    conv => lhs; rw [rat_eq q]
    rw [Rat.divInt_sub_divInt _ _ hd (den0 r)]
    congr 1
    grind
  have hb : (q.den : Int) * r.num ≠ 0 := Int.mul_ne_zero hd hn
  have hl := rest_lt (t := q.num * r.den) hb
  rw [← div_rat] at hl
  have hl2 : (q.num * r.den - r.num * q.den * (q / r).floor).natAbs < 2 ^ (n + m) := by
    rw [Int.mul_comm r.num q.den]
    exact Nat.lt_trans hl (bt_mul hq.den hr.1)
  rw [e]
  exact sz_div (Int.mul_ne_zero hd (den0 r)) hl2 (bt_mul hq.den hr.den)
theorem div_lt {a b c d : Int} (hb : 0 < b) (hd : 0 < d) : Rat.divInt a b < Rat.divInt c d ↔ a * d < c * b := by
  have h1 : (0 : Rat) < (b : Rat) := by exact_mod_cast hb
  have h2 : (0 : Rat) < (d : Rat) := by exact_mod_cast hd
  have e : (c : Rat) / d * b = (c : Rat) * b / d := by rw [Rat.div_def, Rat.div_def]; grind
  rw [Rat.divInt_eq_div, Rat.divInt_eq_div, Rat.div_lt_iff h1, e, Rat.lt_div_iff h2]
  exact_mod_cast Iff.rfl
theorem div_le {a b c d : Int} (hb : 0 < b) (hd : 0 < d) : Rat.divInt a b ≤ Rat.divInt c d ↔ a * d ≤ c * b := by
  rw [← Rat.not_lt, div_lt hd hb, Int.not_lt]

--lib
/-! ### what Ratio's methods promise -/
/-- q op r -/
def spBin (C : Addr) (f : Rat → Rat → Rat) : Sp := fun vs H Q _ => ∃ (a : Addr) (v : V) (q r : Rat) (n m : Nat), vs = [.ref a, v] ∧ RN C H a q n ∧ RZ C H v r m ∧ n + m + 1 ≤ 9000 ∧ ∀ p H', Fr H p → Ex H H' → RN C H' p (f q r) (n + m + 1) → Q (.ref p) H'
/-- i op q, i an int on the left -/
def spRev (C : Addr) (f : Rat → Rat → Rat) : Sp := fun vs H Q _ => ∃ (a : Addr) (i : Int) (q : Rat) (n m : Nat), vs = [.ref a, .int i] ∧ RN C H a q n ∧ i.natAbs < 2 ^ m ∧ n + m + 1 ≤ 9000 ∧ ∀ p H', Fr H p → Ex H H' → RN C H' p (f (i : Rat) q) (n + m + 1) → Q (.ref p) H'
def spUn (C : Addr) (f : Rat → Rat) : Sp := fun vs H Q _ => ∃ (a : Addr) (q : Rat) (n : Nat), vs = [.ref a] ∧ RN C H a q n ∧ ∀ p H', Fr H p → Ex H H' → RN C H' p (f q) n → Q (.ref p) H'
/-- q < r and the like -/
def spCmp (C : Addr) (f : Rat → Rat → Bool) : Sp := fun vs H Q _ => ∃ (a : Addr) (v : V) (q r : Rat) (n m : Nat), vs = [.ref a, v] ∧ RN C H a q n ∧ RZ C H v r m ∧ m ≤ 50000 ∧ Q (.bl (f q r)) H
/-- q == r; an int is never equal -/
def spEq (C : Addr) : Sp := fun vs H Q _ => ∃ (a : Addr) (q : Rat) (n : Nat), RN C H a q n ∧ ((∃ (b : Addr) (r : Rat) (m : Nat), vs = [.ref a, .ref b] ∧ RN C H b r m ∧ Q (.bl (decide (q = r))) H) ∨ ∃ i : Int, vs = [.ref a, .int i] ∧ Q (.bl false) H)
def spBool (C : Addr) : Sp := fun vs H Q _ => ∃ (a : Addr) (q : Rat) (n : Nat), vs = [.ref a] ∧ RN C H a q n ∧ Q (.bl (!decide (q = 0))) H
/-- q.over(r) -/
def spOver (K : PySem.W.Frag) : Sp := fun vs H Q E => ∃ (a : Addr) (v : V) (q r : Rat) (n m : Nat), vs = [.ref a, v] ∧ RN (He.ga K "Ratio") H a q n ∧ RZ (He.ga K "Ratio") H v r m ∧ n + m + 1 ≤ 9000 ∧
  (r = 0 → ∀ H', Ex H H' → E (.ref (He.ga K "ZeroBottom")) none H') ∧ (r ≠ 0 → ∀ p H', Fr H p → Ex H H' → RN (He.ga K "Ratio") H' p (q / r) (n + m + 1) → Q (.ref p) H')
/-- q // r -/
def spFloor (K : PySem.W.Frag) : Sp := fun vs H Q E => ∃ (a : Addr) (v : V) (q r : Rat) (n m : Nat), vs = [.ref a, v] ∧ RN (He.ga K "Ratio") H a q n ∧ RZ (He.ga K "Ratio") H v r m ∧ n + m + 1 ≤ 9000 ∧
  (r = 0 → ∀ H', Ex H H' → E (.ref (He.ga K "ZeroBottom")) none H') ∧ (r ≠ 0 → ∀ H', Ex H H' → (q / r).floor.natAbs < 2 ^ (n + m + 1) → Q (.int (q / r).floor) H')
/-- q % r -/
def spMod (K : PySem.W.Frag) : Sp := fun vs H Q E => ∃ (a : Addr) (v : V) (q r : Rat) (n m : Nat), vs = [.ref a, v] ∧ RN (He.ga K "Ratio") H a q n ∧ RZ (He.ga K "Ratio") H v r m ∧ 3 * n + 3 * m + 9 ≤ 9000 ∧
  (r = 0 → ∀ H', Ex H H' → E (.ref (He.ga K "ZeroBottom")) none H') ∧ (r ≠ 0 → ∀ p H', Fr H p → Ex H H' → RN (He.ga K "Ratio") H' p (q - r * ((q / r).floor : Rat)) (n + m + 1) → Q (.ref p) H')
section
variable {C : Addr} {H : Hp} {Q : VK} {E : XK} {a b : Addr} {q r : Rat} {n m : Nat} {i : Int} {f : Rat → Rat → Rat} {f1 : Rat → Rat} {fc : Rat → Rat → Bool} {K : PySem.W.Frag}
theorem u_OO (ha : RN C H a q n) (hb : RN C H b r m) (hs : n + m + 1 ≤ 9000) (k : ∀ p H', Fr H p → Ex H H' → RN C H' p (f q r) (n + m + 1) → Q (.ref p) H') : rOO C (spBin C f) E (.ref a) (.ref b) H Q := by
  obtain ⟨dx, hx⟩ := ha.at_
  obtain ⟨dy, hy⟩ := hb.at_
  exact ⟨a, dx, _, b, dy, _, rfl, rfl, hx, hy, a, _, q, r, n, m, rfl, ha, .rat hb, hs, k⟩
theorem u_OI (ha : RN C H a q n) (hb : i.natAbs < 2 ^ m) (hs : n + m + 1 ≤ 9000) (k : ∀ p H', Fr H p → Ex H H' → RN C H' p (f q (i : Rat)) (n + m + 1) → Q (.ref p) H') : rOI C (spBin C f) E (.ref a) (.int i) H Q := by
  obtain ⟨dx, hx⟩ := ha.at_
  exact ⟨a, dx, _, i, rfl, rfl, hx, a, _, q, _, n, m, rfl, ha, .int hb, hs, k⟩
theorem u_IO (ha : RN C H a q n) (hb : i.natAbs < 2 ^ m) (hs : n + m + 1 ≤ 9000) (k : ∀ p H', Fr H p → Ex H H' → RN C H' p (f (i : Rat) q) (n + m + 1) → Q (.ref p) H') : rIO C (spRev C f) E (.int i) (.ref a) H Q := by
  obtain ⟨dx, hx⟩ := ha.at_
  exact ⟨a, dx, _, i, rfl, rfl, hx, a, i, q, n, m, rfl, ha, hb, hs, k⟩
theorem u_UO (ha : RN C H a q n) (k : ∀ p H', Fr H p → Ex H H' → RN C H' p (f1 q) n → Q (.ref p) H') : rUO C (spUn C f1) E (.ref a) H Q := by
  obtain ⟨dx, hx⟩ := ha.at_
  exact ⟨a, dx, _, rfl, hx, a, q, n, rfl, ha, k⟩
theorem u_C1 (ha : RN C H a q n) (k : ∀ p H', Fr H p → Ex H H' → RN C H' p (f1 q) n → Q (.ref p) H') : rC1 C (spUn C f1) E [.ref a] H Q := by
  obtain ⟨dx, hx⟩ := ha.at_
  exact ⟨a, dx, _, rfl, hx, a, q, n, rfl, ha, k⟩
theorem u_cOO (ha : RN C H a q n) (hb : RN C H b r m) (k : Q (.bl (fc q r)) H) : rOO C (spCmp C fc) E (.ref a) (.ref b) H Q := by
  obtain ⟨dx, hx⟩ := ha.at_
  obtain ⟨dy, hy⟩ := hb.at_
  have := hb.le
  exact ⟨a, dx, _, b, dy, _, rfl, rfl, hx, hy, a, _, q, r, n, m, rfl, ha, .rat hb, by omega, k⟩
theorem u_cOI (ha : RN C H a q n) (hb : i.natAbs < 2 ^ m) (hm : m ≤ 50000) (k : Q (.bl (fc q (i : Rat))) H) : rOI C (spCmp C fc) E (.ref a) (.int i) H Q := by
  obtain ⟨dx, hx⟩ := ha.at_
  exact ⟨a, dx, _, i, rfl, rfl, hx, a, _, q, _, n, m, rfl, ha, .int hb, hm, k⟩
theorem u_cIO (ha : RN C H a q n) (hb : i.natAbs < 2 ^ m) (hm : m ≤ 50000) (k : Q (.bl (fc q (i : Rat))) H) : rIO C (spCmp C fc) E (.int i) (.ref a) H Q := by
  obtain ⟨dx, hx⟩ := ha.at_
  exact ⟨a, dx, _, i, rfl, rfl, hx, a, _, q, _, n, m, rfl, ha, .int hb, hm, k⟩
theorem u_eOO (ha : RN C H a q n) (hb : RN C H b r m) (k : Q (.bl (decide (q = r))) H) : rOO C (spEq C) E (.ref a) (.ref b) H Q := by
  obtain ⟨dx, hx⟩ := ha.at_
  obtain ⟨dy, hy⟩ := hb.at_
  exact ⟨a, dx, _, b, dy, _, rfl, rfl, hx, hy, a, q, n, ha, .inl ⟨b, r, m, rfl, hb, k⟩⟩
theorem u_eOI (ha : RN C H a q n) (k : Q (.bl false) H) : rOI C (spEq C) E (.ref a) (.int i) H Q := by
  obtain ⟨dx, hx⟩ := ha.at_
  exact ⟨a, dx, _, i, rfl, rfl, hx, a, q, n, ha, .inr ⟨i, rfl, k⟩⟩
theorem u_eIO (ha : RN C H a q n) (k : Q (.bl false) H) : rIO C (spEq C) E (.int i) (.ref a) H Q := by
  obtain ⟨dx, hx⟩ := ha.at_
  exact ⟨a, dx, _, i, rfl, rfl, hx, a, q, n, ha, .inr ⟨i, rfl, k⟩⟩
theorem u_bO (ha : RN C H a q n) (k : Q (.bl (!decide (q = 0))) H) : rBoolO C (spBool C) E [.ref a] H Q := by
  obtain ⟨dx, hx⟩ := ha.at_
  exact ⟨a, dx, _, rfl, hx, a, q, n, rfl, ha, _, rfl, k⟩
theorem u_me {m : Str} {sp : Sp} {t : TA} {σ : L2.St} {k : Nat} (ha : RN C H a q k) (h1 : (m == ("top" : Str)) = false) (h2 : (m == ("bottom" : Str)) = false) (k : t σ H fun vs H2 => sp (.ref a :: vs) H2 Q E) : dMe C m sp [] E t σ Q (.ref a) H := by
  obtain ⟨dx, hx⟩ := ha.at_
  exact w_dMe0 hx (rF_no _ _ h1 h2) k
theorem u_top (ha : RN C H a q n) (cl : Cls K C) (na : NoAttr K C "top") (k : Q (.int q.num) H) : dF K "top" Q (.ref a) H := by
  obtain ⟨dx, hx⟩ := ha.at_
  exact w_dF hx cl na (rF_top _ _) k
theorem u_bot (ha : RN C H a q n) (cl : Cls K C) (na : NoAttr K C "bottom") (k : Q (.int q.den) H) : dF K "bottom" Q (.ref a) H := by
  obtain ⟨dx, hx⟩ := ha.at_
  exact w_dF hx cl na (rF_bottom _ _) k
theorem u_isR (ha : RN C H a q n) (O : OwnC K C) (k : Q (.bl true) H) : rIsi K [.ref a, .ref C] H Q := by
  obtain ⟨dx, hx⟩ := ha.at_
  exact w_isiOC O hx k
end
/-- a.over(v) -/
theorem u_over {K : PySem.W.Frag} {H : Hp} {Q : VK} {E : XK} {a : Addr} {v : V} {q r : Rat} {n m : Nat} (ha : RN (He.ga K "Ratio") H a q n) (hv : RZ (He.ga K "Ratio") H v r m) (hs : n + m + 1 ≤ 9000) (h0 : r ≠ 0) (k : ∀ p H', Fr H p → Ex H H' → RN (He.ga K "Ratio") H' p (q / r) (n + m + 1) → Q (.ref p) H') :
    spOver K [.ref a, v] H Q E := ⟨a, v, q, r, n, m, rfl, ha, hv, hs, fun z => absurd z h0, fun _ => k⟩

--lib
/-! ### Euclid's turns -/
/-- the loop ends within n turns -/
def Bd : Nat → Nat → Nat → Prop
  | 0, _, _ => False
  | n + 1, a, b => b = 0 ∨ (b ≠ 0 ∧ Bd n b (a % b))
def fibp : Nat → Nat × Nat
  | 0 => (0, 1)
  | n + 1 => ((fibp n).2, (fibp n).1 + (fibp n).2)
def fib (n : Nat) : Nat := (fibp n).1
theorem fib_two (n : Nat) : fib (n + 2) = fib n + fib (n + 1) := rfl
theorem Bd.mono : ∀ {n m a b : Nat}, Bd n a b → n ≤ m → Bd m a b
  | 0, _, _, _, h, _ => h.elim
  | n + 1, 0, _, _, _, h => absurd h (by omega)
  | n + 1, m + 1, a, b, h, hm => by
    rcases h with h | ⟨h, h2⟩
    · exact .inl h
    · exact .inr ⟨h, h2.mono (by omega)⟩
theorem bd_lt : ∀ n, (∀ a b, b < a → b < fib (n + 1) → Bd (n + 1) a b) ∧ (∀ a b, b < a → b < fib (n + 2) → Bd (n + 2) a b)
  | 0 => ⟨fun a b _ h => .inl (Nat.lt_one_iff.mp h), fun a b _ h => .inl (Nat.lt_one_iff.mp h)⟩
  | n + 1 => by
    obtain ⟨h1, h2⟩ := bd_lt n
    refine ⟨h2, fun a b hab hb => ?_⟩
    by_cases h0 : b = 0
    · exact .inl h0
    · refine .inr ⟨h0, ?_⟩
      have hr : a % b < b := Nat.mod_lt _ (by omega)
      by_cases hs : a % b < fib (n + 2)
      · exact h2 b (a % b) hr hs
      · by_cases hr0 : a % b = 0
        · exact .inl hr0
        · refine .inr ⟨hr0, ?_⟩
          have h3 : b % (a % b) < a % b := Nat.mod_lt _ (by omega)
          have h4 : b % (a % b) ≤ b - a % b := by
            rw [Nat.mod_eq_sub_mod (by omega)]
            exact Nat.mod_le _ _
          have h5 : fib (n + 1 + 2) = fib (n + 1) + fib (n + 2) := fib_two (n + 1)
          rw [h5] at hb
          exact h1 (a % b) (b % (a % b)) h3 (by omega)
theorem bd_of {n a b : Nat} (h : b < fib (n + 1)) : Bd (n + 2) a b := by
  by_cases h0 : b = 0
  · exact .inl h0
  · by_cases hab : b < a
    · exact ((bd_lt n).1 a b hab h).mono (by omega)
    · refine .inr ⟨h0, ?_⟩
      by_cases e : a = b
      · subst e
        exact .inl (Nat.mod_self _)
      · rw [Nat.mod_eq_of_lt (by omega)]
        by_cases ha : a = 0
        · exact .inl ha
        · exact (bd_lt n).1 b a (by omega) (by omega)

--lib
def Bnd5 (ta ba tb bb wh : Int) : Prop := ta.natAbs < 2 ^ 200 ∧ (0 < ba ∧ ba.natAbs < 2 ^ 200) ∧ tb.natAbs < 2 ^ 200 ∧ (0 < bb ∧ bb.natAbs < 2 ^ 200) ∧ wh.natAbs < 2 ^ 200
/-- a row: a Ratio and the fraction that is due -/
def Row (C : Addr) (H : Hp) (v : V) : Prop := ∃ (x p : Addr) (q : Rat) (n : Nat) (t b : Int), v = .ref x ∧ At H x (.tup [.ref p, .int t, .int b]) ∧ RN C H p q n ∧ 0 < b ∧ q = Rat.divInt t b ∧ t.natAbs < 2 ^ 20000 ∧ b.natAbs < 2 ^ 400
theorem r_mulI {ta ba wh : Int} : Rat.divInt ta ba * (wh : Rat) = Rat.divInt (ta * wh) ba := by rw [div1, Rat.divInt_mul_divInt, Int.mul_one]
theorem r_Imul {ta ba wh : Int} : (wh : Rat) * Rat.divInt ta ba = Rat.divInt (ta * wh) ba := by rw [Rat.mul_comm, r_mulI]
theorem r_div {ta ba tb bb : Int} : Rat.divInt ta ba / Rat.divInt tb bb = Rat.divInt (ta * bb) (ba * tb) := by rw [Rat.div_def, Rat.inv_divInt, Rat.divInt_mul_divInt]
theorem r_divI {ta ba wh : Int} : Rat.divInt ta ba / (wh : Rat) = Rat.divInt ta (ba * wh) := by rw [div1, r_div, Int.mul_one]
theorem r_zero {tb bb : Int} (h : bb ≠ 0) : Rat.divInt tb bb = 0 ↔ tb = 0 := by
  rw [← Rat.zero_divInt 1, Rat.divInt_eq_divInt_iff h (by decide)]; omega
section
variable {ta ba tb bb wh : Int}
theorem r_add (h1 : ba ≠ 0) (h2 : bb ≠ 0) : Rat.divInt ta ba + Rat.divInt tb bb = Rat.divInt (ta * bb + tb * ba) (ba * bb) := Rat.divInt_add_divInt _ _ h1 h2
theorem r_sub (h1 : ba ≠ 0) (h2 : bb ≠ 0) : Rat.divInt ta ba - Rat.divInt tb bb = Rat.divInt (ta * bb - tb * ba) (ba * bb) := Rat.divInt_sub_divInt _ _ h1 h2
theorem r_addI (h1 : ba ≠ 0) : Rat.divInt ta ba + (wh : Rat) = Rat.divInt (ta + wh * ba) ba := by
  rw [div1, Rat.divInt_add_divInt _ _ h1 (by decide), Int.mul_one, Int.mul_one]
theorem r_subI (h1 : ba ≠ 0) : Rat.divInt ta ba - (wh : Rat) = Rat.divInt (ta - wh * ba) ba := by
  rw [div1, Rat.divInt_sub_divInt _ _ h1 (by decide), Int.mul_one, Int.mul_one]
theorem r_Iadd (h1 : ba ≠ 0) : (wh : Rat) + Rat.divInt ta ba = Rat.divInt (ta + wh * ba) ba := by rw [Rat.add_comm, r_addI h1]
theorem r_Isub (h1 : ba ≠ 0) : (wh : Rat) - Rat.divInt ta ba = Rat.divInt (wh * ba - ta) ba := by
  have e : (wh : Rat) - Rat.divInt ta ba = -(Rat.divInt ta ba - (wh : Rat)) := by grind
  rw [e, r_subI h1, Rat.neg_divInt]
  congr 1; omega
theorem r_dbl (h1 : ba ≠ 0) : Rat.divInt ta ba + Rat.divInt ta ba = Rat.divInt (2 * ta) ba := by
  rw [Rat.divInt_add_divInt _ _ h1 h1, show ta * ba + ta * ba = (2 * ta) * ba by grind, Rat.divInt_mul_right h1]
theorem r_none : Rat.divInt ta ba - Rat.divInt ta ba = Rat.divInt 0 1 := by
  have e : Rat.divInt ta ba - Rat.divInt ta ba = 0 := by grind
  rw [e]; rfl
theorem r_abs (h1 : 0 < ba) : (Rat.divInt ta ba).abs = Rat.divInt (ta.natAbs : Int) ba := by
  have hz : 0 ≤ Rat.divInt ta ba ↔ 0 ≤ ta := by
    rw [← Rat.num_nonneg, Rat.num_divInt, Int.sign_eq_one_of_pos h1, Int.one_mul]
    have hg : (0 : Int) < (ba.gcd ta : Nat) := by
      have := Int.gcd_pos_of_ne_zero_left ta (show ba ≠ 0 by omega)
      omega
    exact ⟨fun h => by
      by_cases q : 0 ≤ ta
      · exact q
      · exact absurd h (by have := Int.ediv_neg_of_neg_of_pos (show ta < 0 by omega) hg; omega), fun h => Int.ediv_nonneg h (by omega)⟩
  unfold Rat.abs
  split
  · rename_i h
    rw [Int.natAbs_of_nonneg (hz.mp h)]
  · rename_i h
    have h2 : ¬ 0 ≤ ta := fun z => h (hz.mpr z)
    have e : ((ta.natAbs : Nat) : Int) = -ta := by omega
    rw [e, Rat.neg_divInt]
end

local macro_rules | `(tactic| walk_at "ex") => `(tactic| first | with_reducible assumption | ((with_reducible apply Z.exE); exact inferInstance))
local macro_rules | `(tactic| walk_at "fr") => `(tactic| first | with_reducible assumption | ((with_reducible apply Z.frE); (with_reducible assumption); exact inferInstance))
local macro_rules | `(tactic| walk_at "fx") => `(tactic| first | with_reducible assumption | ((with_reducible apply Z.getE); (with_reducible assumption); exact inferInstance) | ((with_reducible apply Z.getTN); (with_reducible assumption); exact inferInstance) | ((with_reducible apply Z.getIN); (with_reducible assumption); exact inferInstance))
local macro_rules | `(tactic| walk_at "fl") => `(tactic| first | with_reducible assumption | ((with_reducible apply Z.lA); (with_reducible assumption); exact inferInstance) | ((with_reducible apply Z.lE); (with_reducible assumption); exact inferInstance))
local macro_rules | `(tactic| walk_at "fi") => `(tactic| first | walk_at "fl" | ((with_reducible apply Z.lU); (walk_at "fl"); exact rfl))
local macro_rules | `(tactic| walk_at "ti") => `(tactic| first | walk_at "ft" | ((with_reducible apply Z.tU); (walk_at "ft"); exact rfl))
local macro_rules | `(tactic| walk_at "ft") => `(tactic| first | with_reducible assumption | ((with_reducible apply Z.tA); (with_reducible assumption); exact inferInstance) | ((with_reducible apply Z.tE); (with_reducible assumption); exact inferInstance) | ((with_reducible apply Z.tNA); (with_reducible assumption); exact inferInstance))
local macro_rules | `(tactic| walk_at "num") => `(tactic| first | with_reducible assumption | omega | (simp only [List.length_map, List.length_append, List.length_cons, List.length_nil, List.length_range, List.length_take, List.length_drop, List.length_replicate]; omega) | (simp only [List.length_map, List.length_append, List.length_cons, List.length_nil, List.length_range, List.length_take, List.length_drop, List.length_replicate] at *; omega) | decide | exact rfl)
local macro_rules | `(tactic| walk_at "nat") => `(tactic| first | with_reducible assumption | (simp only [Int.reduceToNat]; exact rfl) | (simp only [Int.toNat_natCast]; exact rfl) | exact rfl)
local macro_rules | `(tactic| walk_at "sz") => `(tactic| first | with_reducible assumption | (show _ ≤ 16777216; walk_at "num") | (show _ < 16777216; walk_at "num"))
local macro_rules | `(tactic| walk_at "div") => `(tactic| first | with_reducible assumption | exact L2.wide_div (b := 64) (by omega) (by omega) (by decide) (by decide) | exact L2.wide_div (b := 64) (by decide) (by decide) (by decide) (by decide))
local macro_rules | `(tactic| walk_at "look") => `(tactic| first | with_reducible assumption | exact R.rF_top _ _ | exact R.rF_bottom _ _)
local macro_rules | `(tactic| walk_at "call") => `(tactic| fail)
local macro_rules | `(tactic| walk_at "rn") => `(tactic| (first | with_reducible assumption | ((with_reducible apply R.rnE); (with_reducible assumption); exact inferInstance) | ((with_reducible apply R.rnN); (with_reducible assumption); exact inferInstance)))
local macro_rules | `(tactic| walk_at "call") => `(tactic| ((with_reducible apply R.u_OO); (walk_at "rn"); (walk_at "rn"); (first | decide | omega); (intro p H2 hn he hr)))
local macro_rules | `(tactic| walk_at "call") => `(tactic| ((with_reducible apply R.u_OI); (walk_at "rn"); (walk_at "bt"); (first | decide | omega); (intro p H2 hn he hr)))
local macro_rules | `(tactic| walk_at "call") => `(tactic| ((with_reducible apply R.u_IO); (walk_at "rn"); (walk_at "bt"); (first | decide | omega); (intro p H2 hn he hr)))
local macro_rules | `(tactic| walk_at "call") => `(tactic| ((with_reducible apply R.u_UO); (walk_at "rn"); (intro p H2 hn he hr)))
local macro_rules | `(tactic| walk_at "call") => `(tactic| ((with_reducible apply R.u_C1); (walk_at "rn"); (intro p H2 hn he hr)))
local macro_rules | `(tactic| walk_at "call") => `(tactic| ((with_reducible apply R.u_eOO); (walk_at "rn"); (walk_at "rn")))
local macro_rules | `(tactic| walk_at "call") => `(tactic| ((with_reducible apply R.u_eOI); (walk_at "rn")))
local macro_rules | `(tactic| walk_at "call") => `(tactic| ((with_reducible apply R.u_eIO); (walk_at "rn")))
local macro_rules | `(tactic| walk_at "call") => `(tactic| ((with_reducible apply R.u_bO); (walk_at "rn")))
local macro_rules | `(tactic| walk_at "call") => `(tactic| ((with_reducible apply R.u_cIO); (walk_at "rn"); (walk_at "bt"); (first | decide | omega)))
local macro_rules | `(tactic| walk_at "call") => `(tactic| ((with_reducible apply R.u_cOO); (walk_at "rn"); (walk_at "rn")))
local macro_rules | `(tactic| walk_at "call") => `(tactic| ((with_reducible apply R.u_cOI); (walk_at "rn"); (walk_at "bt"); (first | decide | omega)))
local macro_rules | `(tactic| walk_at "call") => `(tactic| ((with_reducible apply R.u_me); (walk_at "rn"); (decide +kernel); (decide +kernel)))
local macro_rules | `(tactic| walk_at "call") => `(tactic| ((with_reducible apply R.u_top); (walk_at "rn"); (with_reducible assumption); (with_reducible assumption)))
local macro_rules | `(tactic| walk_at "call") => `(tactic| ((with_reducible apply R.u_bot); (walk_at "rn"); (with_reducible assumption); (with_reducible assumption)))
local macro_rules | `(tactic| walk_at "call") => `(tactic| ((with_reducible apply R.u_isR); (walk_at "rn"); (with_reducible assumption)))
local macro_rules | `(tactic| walk_at "st1") => `(tactic| (first
  | ((with_reducible apply Z.w_var); exact rfl)
  | with_reducible refine Z.w_c ?_
  | with_reducible refine Z.w_op ?_
  | with_reducible refine Z.w_un ?_
  | with_reducible refine Z.w_cb ?_
  | with_reducible refine Z.w_nil ?_
  | with_reducible refine Z.w_cons ?_
  | with_reducible refine Z.w_tup ?_
  | with_reducible refine Z.w_lst ?_
  | with_reducible refine Z.w_call0 ?_
  | with_reducible refine Z.w_call ?_
  | with_reducible refine Z.w_test ?_
  | with_reducible refine Z.w_B ?_
  | with_reducible refine Z.w_bl ?_
  | with_reducible refine Z.w_and ?_
  | with_reducible refine Z.w_or ?_
  | with_reducible refine Z.w_not ?_
  | with_reducible refine Z.w_andV ?_
  | with_reducible refine Z.w_orV ?_
  | with_reducible refine Z.w_notV ?_
  | with_reducible refine Z.w_ifE ?_
  | with_reducible refine Z.w_isN ?_
  | with_reducible refine Z.w_notN ?_
  | with_reducible refine Z.w_seq ?_
  | with_reducible refine Z.w_asg ?_
  | with_reducible refine Z.w_gn ?_
  | with_reducible refine Z.w_ret ?_
  | with_reducible refine Z.w_retN ?_
  | with_reducible refine Z.w_drop ?_
  | with_reducible refine Z.w_next ?_
  | with_reducible refine Z.w_brk ?_
  | with_reducible refine Z.w_cnt ?_
  | with_reducible refine Z.w_if ?_
  | with_reducible refine Z.w_enx ?_
  | with_reducible refine Z.w_ert ?_
  | with_reducible refine Z.w_ebk ?_
  | with_reducible refine Z.w_ect ?_
  | with_reducible refine Z.w_nx ?_
  | with_reducible refine Z.w_bk ?_
  | with_reducible refine Z.w_ct ?_
  | with_reducible refine Z.w_rt ?_
  | ((with_reducible apply Z.w_aug); exact rfl)
  | with_reducible refine Z.w_for ?_
  | with_reducible refine Z.w_lc ?_
  | with_reducible refine Z.w_iL ?_
  | with_reducible refine Z.w_iT ?_
  | with_reducible refine Z.w_iR1 ?_
  | with_reducible refine Z.w_iR2 ?_
  | with_reducible refine Z.w_iE ?_
  | with_reducible refine Z.w_bm ?_
  | with_reducible refine Z.w_bm0 ?_
  | with_reducible refine Z.w_yes ?_
  | with_reducible refine Z.w_par ?_
  | with_reducible refine Z.w_exP ?_
  | with_reducible refine Z.w_fld ?_
  | with_reducible refine Z.w_sfld ?_
  | with_reducible refine Z.w_make ?_
  | with_reducible refine Z.w_tryA ?_
  | with_reducible refine Z.w_tryO ?_
  | with_reducible refine Z.w_callZ0 ?_
  | with_reducible refine Z.w_callZ ?_
  | with_reducible refine Z.w_methZ ?_
  | with_reducible refine Z.w_meth ?_
  | with_reducible refine Z.w_makeZ ?_
  | with_reducible refine Z.w_opS ?_
  | with_reducible refine Z.w_sl ?_
  | with_reducible refine Z.w_noPart ?_
  | with_reducible refine Z.w_part ?_
  | ((with_reducible refine Z.w_wp ?_ ?_); exact rfl)))
local macro_rules | `(tactic| walk_at "st2") => `(tactic| (first
  | walk_at "call"
  | with_reducible refine Z.w_ipI ?_
  | with_reducible refine Z.w_I0 ?_
  | with_reducible refine Z.w_U ?_
  | with_reducible refine Z.w_addI ?_
  | ((with_reducible refine Z.w_mulI ?_ ?_); (walk_at "mul"))
  | with_reducible refine Z.w_eqZB ?_
  | with_reducible refine Z.w_neZB ?_
  | with_reducible refine Z.w_bool1 ?_
  | with_reducible refine Z.w_eqZI ?_
  | with_reducible refine Z.w_neZI ?_
  | with_reducible refine Z.w_eqZS ?_
  | with_reducible refine Z.w_neZS ?_
  | with_reducible refine Z.w_T ?_
  | with_reducible refine Z.w_F ?_
  | with_reducible refine Z.w_nT ?_
  | with_reducible refine Z.w_nF ?_
  | with_reducible refine Z.w_int1 ?_
  | with_reducible refine Z.w_exI ?_
  | with_reducible refine Z.w_max2 ?_
  | with_reducible refine Z.w_min2 ?_
  | with_reducible refine Z.w_gcd ?_
  | with_reducible refine Z.w_absI ?_
  | ((with_reducible apply Z.w_dF); (walk_at "fx"); (with_reducible assumption); (with_reducible assumption); (walk_at "look"))
  | with_reducible refine Z.w_isB ?_
  | with_reducible refine Z.w_isnB ?_
  | with_reducible refine Z.w_isiII ?_
  | with_reducible refine Z.w_isiIB ?_
  | ((with_reducible apply Z.w_as); (with_reducible assumption); (intro ea hea))
  | ((with_reducible apply Z.w_only); (with_reducible assumption); (intro ea hea))
  | ((with_reducible apply Z.w_asN); (with_reducible assumption))
  | ((with_reducible apply Z.w_onlyN); (with_reducible assumption))
  | ((with_reducible apply Z.w_isZ); (with_reducible assumption); (with_reducible assumption))
  | ((with_reducible apply Z.w_isZt); (with_reducible assumption); (with_reducible assumption))
  | ((with_reducible apply Z.w_isiOC); (with_reducible assumption); (walk_at "fx"))
  | ((with_reducible apply Z.w_isiOI); (with_reducible assumption); (walk_at "fx"))
  | ((with_reducible apply Z.w_isiIC); (with_reducible assumption))
  | ((with_reducible apply Z.w_OO); (walk_at "fx"); (walk_at "fx"))
  | ((with_reducible apply Z.w_OI); (walk_at "fx"))
  | ((with_reducible apply Z.w_IO); (walk_at "fx"))
  | ((with_reducible apply Z.w_UO); (walk_at "fx"))
  | ((with_reducible apply Z.w_C1); (walk_at "fx"))
  | ((with_reducible refine Z.w_shl ?_ ?_); (walk_at "num"))
  | with_reducible refine Z.w_shr ?_
  | with_reducible refine Z.w_odd ?_
  | ((with_reducible apply Z.w_sum); (walk_at "fl"))
  | ((with_reducible apply Z.w_eqLI); (walk_at "fi"); (walk_at "fi"))
  | ((with_reducible apply Z.w_neLI); (walk_at "fi"); (walk_at "fi"))
  | ((with_reducible apply Z.w_eqTI); (walk_at "ti"); (walk_at "ti"))
  | ((with_reducible apply Z.w_neTI); (walk_at "ti"); (walk_at "ti"))
  | ((with_reducible apply Z.w_inT); (walk_at "ft"))
  | ((with_reducible apply Z.w_ninT); (walk_at "ft"))
  | ((with_reducible apply Z.w_inL); (walk_at "fl"))
  | ((with_reducible apply Z.w_ninL); (walk_at "fl"))
  | with_reducible refine Z.wb_F ?_
  | with_reducible refine Z.wb_T ?_
  | ((with_reducible apply Z.w_ins); (walk_at "fx"); (walk_at "sz"); (walk_at "nat"); (walk_at "num"); (walk_at "num"); (intro H2 hp hnl hk ho); (try (have hke := Z.kmut hk (by with_reducible assumption) inferInstance; clear hk)))
  | ((with_reducible apply Z.w_gT); (walk_at "ft"); (exact rfl))
  | with_reducible refine Z.w_gC ?_
  | with_reducible refine Z.w_gN ?_
  | with_reducible refine Z.w_isiBI ?_
  | with_reducible refine Z.w_isiBB ?_
  | with_reducible refine Z.w_isiSS ?_
  | ((with_reducible apply Z.w_isiTT); (walk_at "fx"))
  | ((with_reducible apply Z.w_isiLL); (walk_at "fx"))
  | ((with_reducible apply Z.w_addL); (walk_at "fx"); (walk_at "fx"); (walk_at "sz"); (intro p H2 hn he hp))
  | ((with_reducible apply Z.w_slLIf); (walk_at "fl"); (walk_at "num"); (intro p H2 hn he hp))
  | ((with_reducible apply Z.w_slLIt); (walk_at "fl"); (walk_at "num"); (intro p H2 hn he hp))
  | ((with_reducible apply Z.w_slLIft); (walk_at "fl"); (walk_at "num"); (walk_at "num"); (intro p H2 hn he hp))
  | ((with_reducible apply Z.w_app); (walk_at "fx"); (walk_at "sz"); (intro H2 hp hnl hk ho); (try (have hke := Z.kmut hk (by with_reducible assumption) inferInstance; clear hk)))
  | ((with_reducible apply Z.ele); (with_reducible assumption); (walk_at "sz"); (walk_at "ex"))
  | ((with_reducible apply Z.w_tupL); (walk_at "fl"); (intro p H2 hn he hp))
  | ((with_reducible apply Z.w_tupT); (walk_at "ft"))
  | ((with_reducible apply Z.w_listL); (walk_at "fl"); (intro p H2 hn he hp))
  | ((with_reducible apply Z.w_listT); (walk_at "ft"); (intro p H2 hn he hp))
  | ((with_reducible refine Z.w_newT ?_ (fun p H2 hn he hp => ?_)); (walk_at "sz"))
  | ((with_reducible refine Z.w_newL ?_ (fun p H2 hn he hp => ?_)); (walk_at "sz"))
  | ((with_reducible apply Z.w_lenL); (walk_at "fl"))
  | ((with_reducible apply Z.w_lenT); (walk_at "ft"))
  | ((with_reducible apply Z.w_pow); (exact ⟨by decide, by decide, by decide⟩); (simp only [Int.reduceToNat, Int.reducePow]; exact rfl))
  | ((with_reducible refine Z.w_I (C := L2.CDivW) ?_ ?_); (walk_at "div"))
  | ((with_reducible refine Z.w_I (C := fun _ j => 0 < j) ?_ ?_); (first | assumption | omega | decide))
  | ((with_reducible apply Z.cgK); (with_reducible assumption); (intro H2 ex2; first | exact trivial | walk_at "fl"); (walk_at "sz"); (focus (intro Dl i x H2 acc hi ec cd hz y; walk_at "go"; done)); (intro p H2 hn he hp); (rotate_left); (exact rfl))
  | ((with_reducible apply Z.w_ixT); (walk_at "ft"); (exact rfl))
  | ((with_reducible apply Z.w_ixL); (walk_at "fl"); (exact rfl))
  | ((with_reducible apply Z.w_ixLN); (walk_at "fl"); (walk_at "nat"); (walk_at "num"); (walk_at "num"))
  | ((with_reducible apply Z.w_ixTN); (walk_at "ft"); (walk_at "nat"); (walk_at "num"); (walk_at "num"))
  | ((with_reducible apply Z.w_ixLI); (walk_at "fi"); (walk_at "nat"); (walk_at "num"); (walk_at "num"))
  | ((with_reducible apply Z.w_ixTI); (walk_at "ti"); (walk_at "nat"); (walk_at "num"); (walk_at "num"))
  | ((with_reducible apply Z.i_L); (walk_at "fl"); (intro J S))
  | ((with_reducible apply Z.i_T); (walk_at "ft"); (intro J S))
  | ((with_reducible apply Z.i_E); (walk_at "fl"); (intro J S))
  | ((with_reducible refine Z.i_R1 ?_ ?_ (fun J S => ?_)); (walk_at "num"); (walk_at "num"))
  | ((with_reducible refine Z.i_R2 ?_ (fun J S => ?_)); (exact ⟨by walk_at "num", by walk_at "num", by walk_at "num", by walk_at "num"⟩))
  | ((with_reducible apply Z.w_tyL); (walk_at "fx"))
  | ((with_reducible apply Or.inl); (walk_at "st2"))
  | ((with_reducible apply Or.inr); (walk_at "st2"))))
local macro_rules | `(tactic| walk_at "go") => `(tactic| repeat (first | walk_at "st1" | walk_at "st2"))
local macro_rules | `(tactic| walk_at "br") => `(tactic| (first
  | ((with_reducible refine Z.w_decT ?_ ?_); (walk_at "num"))
  | ((with_reducible refine Z.w_decF ?_ ?_); (walk_at "num"))
  | ((with_reducible refine Z.w_ndecF ?_ ?_); (walk_at "num"))
  | ((with_reducible refine Z.w_ndecT ?_ ?_); (walk_at "num"))))
local macro_rules | `(tactic| walk_at "run") => `(tactic| repeat (first | walk_at "st1" | walk_at "st2" | walk_at "br"))
local macro_rules | `(tactic| walk_at "bt") => `(tactic| (first | with_reducible assumption | ((with_reducible apply Z.bt_mul); (walk_at "bt"); (walk_at "bt")) | ((with_reducible apply Z.bt_add); (walk_at "bt"); (walk_at "bt")) | ((with_reducible apply Z.bt_sub); (walk_at "bt"); (walk_at "bt")) | ((with_reducible apply Z.bt_neg); (walk_at "bt")) | ((with_reducible apply Z.bt_abs); (walk_at "bt")) | ((with_reducible apply R.Sz.den); with_reducible assumption) | ((with_reducible apply R.Sz.num); with_reducible assumption) | (show _ < 2 ^ 64; omega) | (show _ < 2 ^ 200; omega)))
local macro_rules | `(tactic| walk_at "mul") => `(tactic| first | with_reducible assumption | exact Z.CM.of_right (by decide) | exact Z.CM.of_left (by decide) | exact Z.CM.of_right (by omega) | exact Z.CM.of_left (by omega) | ((with_reducible apply Z.cm); (walk_at "bt"); (walk_at "bt"); (first | decide | omega)))
/-- Ratio(t, b) -/
def sp_Ratio___init__ (K : PySem.W.Frag) : Sp := fun vs H Q E => ∃ (x dx : Addr) (t b : Int), vs = [.ref x, .int t, .int b] ∧ At H x (.ins (He.ga K "Ratio") dx []) ∧ b.natAbs < 2 ^ 9000 ∧
  (b = 0 → E (.ref (He.ga K "ZeroBottom")) none H) ∧ (b ≠ 0 → ∀ H', (∀ c o, c ≠ x → At H c o → At H' c o) → (∀ c, Fr H' c → Fr H c) → At H' x (.ins (He.ga K "Ratio") dx (rF (Rat.divInt t b).num (Rat.divInt t b).den)) → Q .non H')
theorem ok_Ratio___init__ (T : Tx K mg) : FnOk P w K mg base (L2.CX P w) 1 (He.ma K (He.ga K "Ratio") "__init__") (Z.fdOf K (He.ma K (He.ga K "Ratio") "__init__")) ["self", "top", "bottom"] (sp_Ratio___init__ K) := by
  refine T.F_Ratio___init__.ok sc_Ratio___init__ (fun vs H Q E h => ?_) (fun cdv A outer s H vs Q E hr h => ?_)
  · obtain ⟨x, dx, t, b, rfl, _⟩ := h
    rfl
  · obtain ⟨x, dx, t, b, rfl, hx, hsz, hE, k⟩ := h
    have cl := T.o_Ratio.cl
    have na1 := T.na_Ratio_top
    have na2 := T.na_Ratio_bottom
    refine ⟨_, (pss_cons (ps_if (pt_cmpR (Z.op_eq (K := K) rfl hr.units) (pv 2) pe_int (nomark _)) (pss_one (ps_raise rfl (takes_of rfl rfl rfl rfl) (pmk_own PySem.F.excBase_ValueError T.x_ZeroBottom.1 T.g_ZeroBottom T.x_ZeroBottom.2.1 (raises_own T.x_ZeroBottom.2.2.1 T.x_ZeroBottom.2.2.2) (by exact rfl)))) pss_nil)
      (C8.pss_cut (ps_if (pt_cmpR Z.op_lt (pv 2) pe_int (nomark _)) (pss_one (ps_par (i := 1) (j := 2) (by rfl) sc_Ratio___init__.nd rfl rfl (by decide) rfl rfl (pa_cons (pe_un Z.un_neg (pv 1)) (pa_cons (pe_un Z.un_neg (pv 2)) pa_nil)) (by rfl))) pss_nil)
      (pss_cons (ps_set (i := 3) sc_Ratio___init__.nd rfl (Or.inl rfl) (pe_callBfun cr_gcd (by rfl) T.m_gcd (pa_cons (pv 1) (pa_cons (pv 2) pa_nil))))
      (pss_cons (ps_fld (pv 0) (pe_op Z.op_fdiv (pv 1) (pv 3)) rfl)
      (pss_one (ps_fld (pv 0) (pe_op Z.op_fdiv (pv 2) (pv 3)) rfl)))))), ?_⟩
    try dsimp only [cxOf, Cx.nox, Cx.wish]
    walk_at "go"
    refine Z.w_dec (fun hb => hE hb) (fun hb => ?_)
    have kk := k hb
    walk_at "go"
    refine Z.w_cut (fun σ G => ∃ t' b' : Int, 0 < b' ∧ b'.natAbs < 2 ^ 9000 ∧ Rat.divInt t b = Rat.divInt t' b' ∧ G = H ∧ σ = [some (.ref x), some (.int t'), some (.int b'), none]) ?_ ?_
    · walk_at "go"
      refine Z.w_dec (fun hc => ?_) (fun hc => ?_)
      · walk_at "go"
        exact ⟨-t, -b, by omega, by rw [Int.natAbs_neg]; exact hsz, (Rat.neg_divInt_neg t b).symm, rfl, rfl⟩
      · walk_at "go"
        exact ⟨t, b, by omega, hsz, rfl, rfl, rfl⟩
    rintro σ G ⟨t', b', hb0, hb1, he, rfl, rfl⟩
    rw [he, div_num hb0, div_den hb0] at kk
    have hg0 : 0 < Nat.gcd t'.natAbs b'.natAbs := Nat.gcd_pos_of_pos_right _ (by omega)
    have hg1 : Nat.gcd t'.natAbs b'.natAbs ≤ b'.natAbs := Nat.gcd_le_right _ (by omega)
    have hdv : ∀ i, CDivW i ((Nat.gcd t'.natAbs b'.natAbs : Nat) : Int) := fun i => wide_div (b := 9000) (by omega) (by rw [Int.natAbs_natCast]; exact Nat.lt_of_le_of_lt hg1 hb1) (by decide) (by decide)
    have hd1 := hdv t'
    have hd2 := hdv b'
    walk_at "go"
    refine Z.w_dSF hx cl na1 (by decide) fun H2 h2 o2 f2 => ?_
    walk_at "go"
    refine Z.w_dSF h2 cl na2 (by show 1 < 1000; decide) fun H3 h3 o3 f3 => ?_
    walk_at "go"
    exact kk H3 (fun c o hc e => o3 c o hc (o2 c o hc e)) (fun c e => f2 c (f3 c e)) (by rw [rF_put] at h3; exact h3)
/-- Ratio(t, b) as a new object -/
theorem mkR {H : Hp} {Q : VK} {E : XK} {t b : Int} {n m : Nat} (ht : t.natAbs < 2 ^ n) (hs : b.natAbs < 2 ^ m) (hn : max n m ≤ 9000) (hb : b ≠ 0) (q : ∀ p H', Fr H p → Ex H H' → RN (He.ga K "Ratio") H' p (Rat.divInt t b) (max n m) → Q (.ref p) H') :
    dMk (He.ga K "Ratio") (sp_Ratio___init__ K) (([V.int 1] : List V).drop 1) E Q [.int t, .int b] H :=
  w_dMk fun p dx H2 nw => ⟨p, dx, t, b, rfl, nw.at_, up9 hs (by omega), fun z => absurd z hb, fun _ H' h1 _ h3 =>
    have z := mk_rat nw h1 h3 (sz_div hb (bt_mono ht (Nat.le_max_left n m)) (bt_mono hs (Nat.le_max_right n m))) hn
    ⟨rfl, q p H' nw.new z.1 z.2⟩⟩
/-- Ratio(t) as a new object -/
theorem mkR1 {H : Hp} {Q : VK} {E : XK} {t : Int} {n : Nat} (ht : t.natAbs < 2 ^ n) (hn : n + 1 ≤ 9000) (q : ∀ p H', Fr H p → Ex H H' → RN (He.ga K "Ratio") H' p (t : Rat) (n + 1) → Q (.ref p) H') :
    dMk (He.ga K "Ratio") (sp_Ratio___init__ K) (([V.int 1] : List V).drop 0) E Q [.int t] H :=
  w_dMk fun p dx H2 nw => ⟨p, dx, t, 1, rfl, nw.at_, by rw [show (1 : Int).natAbs = 1 from rfl]; exact Nat.one_lt_two_pow (by decide), fun z => absurd z (by decide), fun _ H' h1 _ h3 =>
    have z := mk_rat (q := (t : Rat)) nw h1 (by rw [div1]; exact h3) (sz_int ht) hn
    ⟨rfl, q p H' nw.new z.1 z.2⟩⟩
/-- Ratio(t, 0) raises -/
theorem mkR0 {H : Hp} {Q : VK} {E : XK} {t b : Int} (hb : b = 0) (q : ∀ H', Ex H H' → E (.ref (He.ga K "ZeroBottom")) none H') :
    dMk (He.ga K "Ratio") (sp_Ratio___init__ K) (([V.int 1] : List V).drop 1) E Q [.int t, .int b] H :=
  w_dMk fun p dx H2 nw => ⟨p, dx, t, b, rfl, nw.at_, by rw [hb]; exact Nat.pow_pos (by decide), fun _ => q _ nw.ex, fun z => absurd hb z⟩
local macro_rules | `(tactic| walk_at "call") => `(tactic| ((with_reducible apply R.mkR); (walk_at "bt"); (walk_at "bt"); (first | decide | omega); (first | with_reducible assumption | omega); (intro p H2 hn he hr)))
local macro_rules | `(tactic| walk_at "call") => `(tactic| ((with_reducible apply R.mkR1); (walk_at "bt"); (first | decide | omega); (intro p H2 hn he hr)))

theorem ok_Ratio___add__ (T : Tx K mg) : FnOk P w K mg base (L2.CX P w) 3 (He.ma K (He.ga K "Ratio") "__add__") (Z.fdOf K (He.ma K (He.ga K "Ratio") "__add__")) ["self", "other"] (spBin (He.ga K "Ratio") fun q r => q + r) := by
  refine T.F_Ratio___add__.ok sc_Ratio___add__ (fun vs H Q E h => ?_) (fun cdv A outer s H vs Q E hr h => ?_)
  · obtain ⟨a, v, q, r, n, m, rfl, _⟩ := h
    rfl
  · obtain ⟨a, v, q, r, n, m, rfl, ha, hv, hnm, k⟩ := h
    have O := T.o_Ratio
    have cl := T.o_Ratio.cl
    have na1 := T.na_Ratio_top
    have na2 := T.na_Ratio_bottom
    obtain ⟨⟨dx, hx⟩, sq, h9⟩ := ha
    have b1 := sq.1
    have b2 := sq.den
    cases hv with
    | @int i _ hi =>
      dsimp only at k
      rw [add_int] at k
      obtain ⟨ds3_Ratio___init__, vd3_Ratio___init__, bd3_Ratio___init__⟩ := T.b3_Ratio___init__
      refine ⟨_, PSs.nox (pss_cons (ps_if (pt_val (pe_callB (Z.call_isi (K := K) rfl) (by rfl) T.n_isinstance (by decide +kernel) (pa_cons (pv 1) (pa_cons (pe_bltn (v := .ty "int") (u := .type "int") (by rfl) T.n_int (by decide +kernel) rfl) pa_nil)))) (pss_one (ps_ret (pe_make T.mk_Ratio (ok_Ratio___init__ T) (hr.mono (by decide)) (by rfl) T.g_Ratio bd3_Ratio___init__ vd3_Ratio___init__ passL (pa_cons (pe_op Z.op_add (Z.fld (K := K) rfl (pv 0) rfl) (pe_op Z.op_mul (pv 1) (Z.fld (K := K) rfl (pv 0) rfl))) (pa_cons (Z.fld (K := K) rfl (pv 0) rfl) pa_nil))))) pss_nil)
      (pss_cons (ps_if (pt_not (pt_val (pe_callB (Z.call_isi (K := K) rfl) (by rfl) T.n_isinstance (by decide +kernel) (pa_cons (pv 1) (pa_cons (pe_glob (v := .ref (He.ga K "Ratio")) (by rfl) T.g_Ratio rfl) pa_nil))))) (pss_one ps_never) pss_nil)
      (pss_one (ps_ret (pe_make T.mk_Ratio (ok_Ratio___init__ T) (hr.mono (by decide)) (by rfl) T.g_Ratio bd3_Ratio___init__ vd3_Ratio___init__ passL (pa_cons (pe_op Z.op_add (pe_op Z.op_mul (Z.fld (K := K) rfl (pv 0) rfl) (Z.fld (K := K) rfl (pv 1) rfl)) (pe_op Z.op_mul (Z.fld (K := K) rfl (pv 1) rfl) (Z.fld (K := K) rfl (pv 0) rfl))) (pa_cons (pe_op Z.op_mul (Z.fld (K := K) rfl (pv 0) rfl) (Z.fld (K := K) rfl (pv 1) rfl)) pa_nil))))))), ?_⟩
      try dsimp only [cxOf, Cx.nox, Cx.wish]
      walk_at "go"
      refine mkR (n := n + m + 1) (m := n + m + 1) ?_ (bt_mono b2 (by omega)) (by omega) (den0 q) (fun p H' hn he hr => k p H' hn he (by rw [Nat.max_self] at hr; exact hr))
      exact bt_addL b1 (bt_mul hi b2) (by omega) (by omega)
    | @rat b r _ hb =>
      obtain ⟨⟨dy, hy⟩, sr, g9⟩ := hb
      have b3 := sr.1
      have b4 := sr.den
      dsimp only at k
      rw [add_rat] at k
      obtain ⟨ds3_Ratio___init__, vd3_Ratio___init__, bd3_Ratio___init__⟩ := T.b3_Ratio___init__
      refine ⟨_, PSs.nox (pss_cons (ps_if (pt_val (pe_callB (Z.call_isi (K := K) rfl) (by rfl) T.n_isinstance (by decide +kernel) (pa_cons (pv 1) (pa_cons (pe_bltn (v := .ty "int") (u := .type "int") (by rfl) T.n_int (by decide +kernel) rfl) pa_nil)))) (pss_one (ps_ret (pe_make T.mk_Ratio (ok_Ratio___init__ T) (hr.mono (by decide)) (by rfl) T.g_Ratio bd3_Ratio___init__ vd3_Ratio___init__ passL (pa_cons (pe_op Z.op_add (Z.fld (K := K) rfl (pv 0) rfl) (pe_op Z.op_mul (pv 1) (Z.fld (K := K) rfl (pv 0) rfl))) (pa_cons (Z.fld (K := K) rfl (pv 0) rfl) pa_nil))))) pss_nil)
      (pss_cons (ps_if (pt_not (pt_val (pe_callB (Z.call_isi (K := K) rfl) (by rfl) T.n_isinstance (by decide +kernel) (pa_cons (pv 1) (pa_cons (pe_glob (v := .ref (He.ga K "Ratio")) (by rfl) T.g_Ratio rfl) pa_nil))))) (pss_one ps_never) pss_nil)
      (pss_one (ps_ret (pe_make T.mk_Ratio (ok_Ratio___init__ T) (hr.mono (by decide)) (by rfl) T.g_Ratio bd3_Ratio___init__ vd3_Ratio___init__ passL (pa_cons (pe_op Z.op_add (pe_op Z.op_mul (Z.fld (K := K) rfl (pv 0) rfl) (Z.fld (K := K) rfl (pv 1) rfl)) (pe_op Z.op_mul (Z.fld (K := K) rfl (pv 1) rfl) (Z.fld (K := K) rfl (pv 0) rfl))) (pa_cons (pe_op Z.op_mul (Z.fld (K := K) rfl (pv 0) rfl) (Z.fld (K := K) rfl (pv 1) rfl)) pa_nil))))))), ?_⟩
      try dsimp only [cxOf, Cx.nox, Cx.wish]
      walk_at "go"
      refine mkR (n := n + m + 1) (m := n + m + 1) ?_ (bt_mono (bt_mul b2 b4) (by omega)) (by omega) (Int.mul_ne_zero (den0 q) (den0 r)) (fun p H' hn he hr => k p H' hn he (by rw [Nat.max_self] at hr; exact hr))
      exact bt_addL (bt_mul b1 b4) (bt_mul b3 b2) (by omega) (by omega)

theorem ok_Ratio___radd__ (T : Tx K mg) : FnOk P w K mg base (L2.CX P w) 4 (He.ma K (He.ga K "Ratio") "__radd__") (Z.fdOf K (He.ma K (He.ga K "Ratio") "__radd__")) ["self", "other"] (spRev (He.ga K "Ratio") fun i q => i + q) := by
  refine T.F_Ratio___radd__.ok sc_Ratio___radd__ (fun vs H Q E h => ?_) (fun cdv A outer s H vs Q E hr h => ?_)
  · obtain ⟨a, i, q, n, m, rfl, _⟩ := h
    rfl
  · obtain ⟨a, i, q, n, m, rfl, ha, hi, hnm, k⟩ := h
    refine ⟨_, PSs.nox (pss_one (ps_ret (pe_op (Z.op_OI T.o_Ratio T.me_Ratio___add__.at_ T.me_Ratio___add__.fn T.me_Ratio___radd__.at_ (.inr ⟨_, rfl⟩) Z.has_add (Z.rawOk (ok_Ratio___add__ T) T.b_Ratio___add__) (hr.mono (by decide)) passL) (pv 0) (pv 1)))), ?_⟩
    try dsimp only [cxOf, Cx.nox, Cx.wish]
    walk_at "go"
    rename_i p H' hn he hr
    exact k p H' hn he (by dsimp only; rw [Rat.add_comm]; exact hr)

theorem ok_Ratio___sub__ (T : Tx K mg) : FnOk P w K mg base (L2.CX P w) 3 (He.ma K (He.ga K "Ratio") "__sub__") (Z.fdOf K (He.ma K (He.ga K "Ratio") "__sub__")) ["self", "other"] (spBin (He.ga K "Ratio") fun q r => q - r) := by
  refine T.F_Ratio___sub__.ok sc_Ratio___sub__ (fun vs H Q E h => ?_) (fun cdv A outer s H vs Q E hr h => ?_)
  · obtain ⟨a, v, q, r, n, m, rfl, _⟩ := h
    rfl
  · obtain ⟨a, v, q, r, n, m, rfl, ha, hv, hnm, k⟩ := h
    have O := T.o_Ratio
    have cl := T.o_Ratio.cl
    have na1 := T.na_Ratio_top
    have na2 := T.na_Ratio_bottom
    obtain ⟨⟨dx, hx⟩, sq, h9⟩ := ha
    have b1 := sq.1
    have b2 := sq.den
    cases hv with
    | @int i _ hi =>
      dsimp only at k
      rw [sub_int] at k
      obtain ⟨ds3_Ratio___init__, vd3_Ratio___init__, bd3_Ratio___init__⟩ := T.b3_Ratio___init__
      refine ⟨_, PSs.nox (pss_cons (ps_if (pt_val (pe_callB (Z.call_isi (K := K) rfl) (by rfl) T.n_isinstance (by decide +kernel) (pa_cons (pv 1) (pa_cons (pe_bltn (v := .ty "int") (u := .type "int") (by rfl) T.n_int (by decide +kernel) rfl) pa_nil)))) (pss_one (ps_ret (pe_make T.mk_Ratio (ok_Ratio___init__ T) (hr.mono (by decide)) (by rfl) T.g_Ratio bd3_Ratio___init__ vd3_Ratio___init__ passL (pa_cons (pe_op Z.op_sub (Z.fld (K := K) rfl (pv 0) rfl) (pe_op Z.op_mul (pv 1) (Z.fld (K := K) rfl (pv 0) rfl))) (pa_cons (Z.fld (K := K) rfl (pv 0) rfl) pa_nil))))) pss_nil)
      (pss_cons (ps_if (pt_not (pt_val (pe_callB (Z.call_isi (K := K) rfl) (by rfl) T.n_isinstance (by decide +kernel) (pa_cons (pv 1) (pa_cons (pe_glob (v := .ref (He.ga K "Ratio")) (by rfl) T.g_Ratio rfl) pa_nil))))) (pss_one ps_never) pss_nil)
      (pss_one (ps_ret (pe_make T.mk_Ratio (ok_Ratio___init__ T) (hr.mono (by decide)) (by rfl) T.g_Ratio bd3_Ratio___init__ vd3_Ratio___init__ passL (pa_cons (pe_op Z.op_sub (pe_op Z.op_mul (Z.fld (K := K) rfl (pv 0) rfl) (Z.fld (K := K) rfl (pv 1) rfl)) (pe_op Z.op_mul (Z.fld (K := K) rfl (pv 1) rfl) (Z.fld (K := K) rfl (pv 0) rfl))) (pa_cons (pe_op Z.op_mul (Z.fld (K := K) rfl (pv 0) rfl) (Z.fld (K := K) rfl (pv 1) rfl)) pa_nil))))))), ?_⟩
      try dsimp only [cxOf, Cx.nox, Cx.wish]
      walk_at "go"
      refine mkR (n := n + m + 1) (m := n + m + 1) ?_ (bt_mono b2 (by omega)) (by omega) (den0 q) (fun p H' hn he hr => k p H' hn he (by rw [Nat.max_self] at hr; exact hr))
      exact bt_subL b1 (bt_mul hi b2) (by omega) (by omega)
    | @rat b r _ hb =>
      obtain ⟨⟨dy, hy⟩, sr, g9⟩ := hb
      have b3 := sr.1
      have b4 := sr.den
      dsimp only at k
      rw [sub_rat] at k
      obtain ⟨ds3_Ratio___init__, vd3_Ratio___init__, bd3_Ratio___init__⟩ := T.b3_Ratio___init__
      refine ⟨_, PSs.nox (pss_cons (ps_if (pt_val (pe_callB (Z.call_isi (K := K) rfl) (by rfl) T.n_isinstance (by decide +kernel) (pa_cons (pv 1) (pa_cons (pe_bltn (v := .ty "int") (u := .type "int") (by rfl) T.n_int (by decide +kernel) rfl) pa_nil)))) (pss_one (ps_ret (pe_make T.mk_Ratio (ok_Ratio___init__ T) (hr.mono (by decide)) (by rfl) T.g_Ratio bd3_Ratio___init__ vd3_Ratio___init__ passL (pa_cons (pe_op Z.op_sub (Z.fld (K := K) rfl (pv 0) rfl) (pe_op Z.op_mul (pv 1) (Z.fld (K := K) rfl (pv 0) rfl))) (pa_cons (Z.fld (K := K) rfl (pv 0) rfl) pa_nil))))) pss_nil)
      (pss_cons (ps_if (pt_not (pt_val (pe_callB (Z.call_isi (K := K) rfl) (by rfl) T.n_isinstance (by decide +kernel) (pa_cons (pv 1) (pa_cons (pe_glob (v := .ref (He.ga K "Ratio")) (by rfl) T.g_Ratio rfl) pa_nil))))) (pss_one ps_never) pss_nil)
      (pss_one (ps_ret (pe_make T.mk_Ratio (ok_Ratio___init__ T) (hr.mono (by decide)) (by rfl) T.g_Ratio bd3_Ratio___init__ vd3_Ratio___init__ passL (pa_cons (pe_op Z.op_sub (pe_op Z.op_mul (Z.fld (K := K) rfl (pv 0) rfl) (Z.fld (K := K) rfl (pv 1) rfl)) (pe_op Z.op_mul (Z.fld (K := K) rfl (pv 1) rfl) (Z.fld (K := K) rfl (pv 0) rfl))) (pa_cons (pe_op Z.op_mul (Z.fld (K := K) rfl (pv 0) rfl) (Z.fld (K := K) rfl (pv 1) rfl)) pa_nil))))))), ?_⟩
      try dsimp only [cxOf, Cx.nox, Cx.wish]
      walk_at "go"
      refine mkR (n := n + m + 1) (m := n + m + 1) ?_ (bt_mono (bt_mul b2 b4) (by omega)) (by omega) (Int.mul_ne_zero (den0 q) (den0 r)) (fun p H' hn he hr => k p H' hn he (by rw [Nat.max_self] at hr; exact hr))
      exact bt_subL (bt_mul b1 b4) (bt_mul b3 b2) (by omega) (by omega)

theorem neg_rat (q : Rat) : -q = Rat.divInt (-q.num) q.den := by
  conv => lhs; rw [rat_eq q]
  rw [Rat.neg_divInt]
theorem ok_Ratio___neg__ (T : Tx K mg) : FnOk P w K mg base (L2.CX P w) 3 (He.ma K (He.ga K "Ratio") "__neg__") (Z.fdOf K (He.ma K (He.ga K "Ratio") "__neg__")) ["self"] (spUn (He.ga K "Ratio") fun q => -q) := by
  refine T.F_Ratio___neg__.ok sc_Ratio___neg__ (fun vs H Q E h => ?_) (fun cdv A outer s H vs Q E hr h => ?_)
  · obtain ⟨a, q, n, rfl, _⟩ := h
    rfl
  · obtain ⟨a, q, n, rfl, ha, k⟩ := h
    have O := T.o_Ratio
    have cl := T.o_Ratio.cl
    have na1 := T.na_Ratio_top
    have na2 := T.na_Ratio_bottom
    obtain ⟨⟨dx, hx⟩, sq, h9⟩ := ha
    have b1 := sq.1
    have b2 := sq.den
    dsimp only at k
    rw [neg_rat] at k
    obtain ⟨ds3_Ratio___init__, vd3_Ratio___init__, bd3_Ratio___init__⟩ := T.b3_Ratio___init__
    refine ⟨_, PSs.nox (pss_one (ps_ret (pe_make T.mk_Ratio (ok_Ratio___init__ T) (hr.mono (by decide)) (by rfl) T.g_Ratio bd3_Ratio___init__ vd3_Ratio___init__ passL (pa_cons (pe_un Z.un_neg (Z.fld (K := K) rfl (pv 0) rfl)) (pa_cons (Z.fld (K := K) rfl (pv 0) rfl) pa_nil))))), ?_⟩
    try dsimp only [cxOf, Cx.nox, Cx.wish]
    walk_at "go"
    exact mkR (n := n) (m := n) (bt_neg b1) b2 (by omega) (den0 q) (fun p H' hn he hr => k p H' hn he (by rw [Nat.max_self] at hr; exact hr))

theorem ok_Ratio___rsub__ (T : Tx K mg) : FnOk P w K mg base (L2.CX P w) 4 (He.ma K (He.ga K "Ratio") "__rsub__") (Z.fdOf K (He.ma K (He.ga K "Ratio") "__rsub__")) ["self", "other"] (spRev (He.ga K "Ratio") fun i q => i - q) := by
  refine T.F_Ratio___rsub__.ok sc_Ratio___rsub__ (fun vs H Q E h => ?_) (fun cdv A outer s H vs Q E hr h => ?_)
  · obtain ⟨a, i, q, n, m, rfl, _⟩ := h
    rfl
  · obtain ⟨a, i, q, n, m, rfl, ha, hi, hnm, k⟩ := h
    refine ⟨_, PSs.nox (pss_one (ps_ret (pe_op (Z.op_OI T.o_Ratio T.me_Ratio___add__.at_ T.me_Ratio___add__.fn T.me_Ratio___radd__.at_ (.inr ⟨_, rfl⟩) Z.has_add (Z.rawOk (ok_Ratio___add__ T) T.b_Ratio___add__) (hr.mono (by decide)) passL) (pe_un (Z.un_O T.me_Ratio___neg__.at_ T.me_Ratio___neg__.fn (Z.rawOk (ok_Ratio___neg__ T) T.b_Ratio___neg__) (hr.mono (by decide)) passL) (pv 0)) (pv 1)))), ?_⟩
    try dsimp only [cxOf, Cx.nox, Cx.wish]
    walk_at "go"
    rename_i p1 H1 hn1 he1 hr1 p H' hn he hr
    exact k p H' (he1.back hn) (he1.trans he) (hr.eq (by grind) (Nat.le_refl _) hnm)

theorem ok_Ratio___mul__ (T : Tx K mg) : FnOk P w K mg base (L2.CX P w) 3 (He.ma K (He.ga K "Ratio") "__mul__") (Z.fdOf K (He.ma K (He.ga K "Ratio") "__mul__")) ["self", "other"] (spBin (He.ga K "Ratio") fun q r => q * r) := by
  refine T.F_Ratio___mul__.ok sc_Ratio___mul__ (fun vs H Q E h => ?_) (fun cdv A outer s H vs Q E hr h => ?_)
  · obtain ⟨a, v, q, r, n, m, rfl, _⟩ := h
    rfl
  · obtain ⟨a, v, q, r, n, m, rfl, ha, hv, hnm, k⟩ := h
    have O := T.o_Ratio
    have cl := T.o_Ratio.cl
    have na1 := T.na_Ratio_top
    have na2 := T.na_Ratio_bottom
    obtain ⟨⟨dx, hx⟩, sq, h9⟩ := ha
    have b1 := sq.1
    have b2 := sq.den
    cases hv with
    | @int i _ hi =>
      dsimp only at k
      rw [mul_int'] at k
      obtain ⟨ds3_Ratio___init__, vd3_Ratio___init__, bd3_Ratio___init__⟩ := T.b3_Ratio___init__
      refine ⟨_, PSs.nox (pss_cons (ps_if (pt_val (pe_callB (Z.call_isi (K := K) rfl) (by rfl) T.n_isinstance (by decide +kernel) (pa_cons (pv 1) (pa_cons (pe_bltn (v := .ty "int") (u := .type "int") (by rfl) T.n_int (by decide +kernel) rfl) pa_nil)))) (pss_one (ps_ret (pe_make T.mk_Ratio (ok_Ratio___init__ T) (hr.mono (by decide)) (by rfl) T.g_Ratio bd3_Ratio___init__ vd3_Ratio___init__ passL (pa_cons (pe_op Z.op_mul (Z.fld (K := K) rfl (pv 0) rfl) (pv 1)) (pa_cons (Z.fld (K := K) rfl (pv 0) rfl) pa_nil))))) pss_nil)
      (pss_cons (ps_if (pt_not (pt_val (pe_callB (Z.call_isi (K := K) rfl) (by rfl) T.n_isinstance (by decide +kernel) (pa_cons (pv 1) (pa_cons (pe_glob (v := .ref (He.ga K "Ratio")) (by rfl) T.g_Ratio rfl) pa_nil))))) (pss_one ps_never) pss_nil)
      (pss_one (ps_ret (pe_make T.mk_Ratio (ok_Ratio___init__ T) (hr.mono (by decide)) (by rfl) T.g_Ratio bd3_Ratio___init__ vd3_Ratio___init__ passL (pa_cons (pe_op Z.op_mul (Z.fld (K := K) rfl (pv 0) rfl) (Z.fld (K := K) rfl (pv 1) rfl)) (pa_cons (pe_op Z.op_mul (Z.fld (K := K) rfl (pv 0) rfl) (Z.fld (K := K) rfl (pv 1) rfl)) pa_nil))))))), ?_⟩
      try dsimp only [cxOf, Cx.nox, Cx.wish]
      walk_at "go"
      refine mkR (n := n + m + 1) (m := n + m + 1) ?_ (bt_mono b2 (by omega)) (by omega) (den0 q) (fun p H' hn he hr => k p H' hn he (by rw [Nat.max_self] at hr; exact hr))
      exact bt_mono (bt_mul b1 hi) (by omega)
    | @rat b r _ hb =>
      obtain ⟨⟨dy, hy⟩, sr, g9⟩ := hb
      have b3 := sr.1
      have b4 := sr.den
      dsimp only at k
      rw [mul_rat] at k
      obtain ⟨ds3_Ratio___init__, vd3_Ratio___init__, bd3_Ratio___init__⟩ := T.b3_Ratio___init__
      refine ⟨_, PSs.nox (pss_cons (ps_if (pt_val (pe_callB (Z.call_isi (K := K) rfl) (by rfl) T.n_isinstance (by decide +kernel) (pa_cons (pv 1) (pa_cons (pe_bltn (v := .ty "int") (u := .type "int") (by rfl) T.n_int (by decide +kernel) rfl) pa_nil)))) (pss_one (ps_ret (pe_make T.mk_Ratio (ok_Ratio___init__ T) (hr.mono (by decide)) (by rfl) T.g_Ratio bd3_Ratio___init__ vd3_Ratio___init__ passL (pa_cons (pe_op Z.op_mul (Z.fld (K := K) rfl (pv 0) rfl) (pv 1)) (pa_cons (Z.fld (K := K) rfl (pv 0) rfl) pa_nil))))) pss_nil)
      (pss_cons (ps_if (pt_not (pt_val (pe_callB (Z.call_isi (K := K) rfl) (by rfl) T.n_isinstance (by decide +kernel) (pa_cons (pv 1) (pa_cons (pe_glob (v := .ref (He.ga K "Ratio")) (by rfl) T.g_Ratio rfl) pa_nil))))) (pss_one ps_never) pss_nil)
      (pss_one (ps_ret (pe_make T.mk_Ratio (ok_Ratio___init__ T) (hr.mono (by decide)) (by rfl) T.g_Ratio bd3_Ratio___init__ vd3_Ratio___init__ passL (pa_cons (pe_op Z.op_mul (Z.fld (K := K) rfl (pv 0) rfl) (Z.fld (K := K) rfl (pv 1) rfl)) (pa_cons (pe_op Z.op_mul (Z.fld (K := K) rfl (pv 0) rfl) (Z.fld (K := K) rfl (pv 1) rfl)) pa_nil))))))), ?_⟩
      try dsimp only [cxOf, Cx.nox, Cx.wish]
      walk_at "go"
      refine mkR (n := n + m + 1) (m := n + m + 1) ?_ (bt_mono (bt_mul b2 b4) (by omega)) (by omega) (Int.mul_ne_zero (den0 q) (den0 r)) (fun p H' hn he hr => k p H' hn he (by rw [Nat.max_self] at hr; exact hr))
      exact bt_mono (bt_mul b1 b3) (by omega)

theorem ok_Ratio___rmul__ (T : Tx K mg) : FnOk P w K mg base (L2.CX P w) 4 (He.ma K (He.ga K "Ratio") "__rmul__") (Z.fdOf K (He.ma K (He.ga K "Ratio") "__rmul__")) ["self", "other"] (spRev (He.ga K "Ratio") fun i q => i * q) := by
  refine T.F_Ratio___rmul__.ok sc_Ratio___rmul__ (fun vs H Q E h => ?_) (fun cdv A outer s H vs Q E hr h => ?_)
  · obtain ⟨a, i, q, n, m, rfl, _⟩ := h
    rfl
  · obtain ⟨a, i, q, n, m, rfl, ha, hi, hnm, k⟩ := h
    refine ⟨_, PSs.nox (pss_one (ps_ret (pe_op (Z.op_OI T.o_Ratio T.me_Ratio___mul__.at_ T.me_Ratio___mul__.fn T.me_Ratio___rmul__.at_ (.inr ⟨_, rfl⟩) Z.has_mul (Z.rawOk (ok_Ratio___mul__ T) T.b_Ratio___mul__) (hr.mono (by decide)) passL) (pv 0) (pv 1)))), ?_⟩
    try dsimp only [cxOf, Cx.nox, Cx.wish]
    walk_at "go"
    rename_i p H' hn he hr
    exact k p H' hn he (by dsimp only; rw [Rat.mul_comm]; exact hr)

theorem ok_Ratio_over (T : Tx K mg) : FnOk P w K mg base (L2.CX P w) 3 (He.ma K (He.ga K "Ratio") "over") (Z.fdOf K (He.ma K (He.ga K "Ratio") "over")) ["self", "other"] (spOver K) := by
  refine T.F_Ratio_over.ok sc_Ratio_over (fun vs H Q E h => ?_) (fun cdv A outer s H vs Q E hr h => ?_)
  · obtain ⟨a, v, q, r, n, m, rfl, _⟩ := h
    rfl
  · obtain ⟨a, v, q, r, n, m, rfl, ha, hv, hnm, hE, k⟩ := h
    have O := T.o_Ratio
    have cl := T.o_Ratio.cl
    have na1 := T.na_Ratio_top
    have na2 := T.na_Ratio_bottom
    obtain ⟨⟨dx, hx⟩, sq, h9⟩ := ha
    have b1 := sq.1
    have b2 := sq.den
    cases hv with
    | @int i _ hi =>
      obtain ⟨ds3_Ratio___init__, vd3_Ratio___init__, bd3_Ratio___init__⟩ := T.b3_Ratio___init__
      refine ⟨_, (pss_cons (ps_if (pt_val (pe_callB (Z.call_isi (K := K) rfl) (by rfl) T.n_isinstance (by decide +kernel) (pa_cons (pv 1) (pa_cons (pe_bltn (v := .ty "int") (u := .type "int") (by rfl) T.n_int (by decide +kernel) rfl) pa_nil)))) (pss_one (ps_ret (Z.pe_makeZ T.mk_Ratio (ok_Ratio___init__ T) (hr.mono (by decide)) (by rfl) T.g_Ratio bd3_Ratio___init__ vd3_Ratio___init__ (fun σ => passAt (takes_of rfl rfl rfl rfl) σ) (pa_cons (Z.fld (K := K) rfl (pv 0) rfl) (pa_cons (pe_op Z.op_mul (Z.fld (K := K) rfl (pv 0) rfl) (pv 1)) pa_nil))))) pss_nil)
      (pss_one (ps_ret (Z.pe_makeZ T.mk_Ratio (ok_Ratio___init__ T) (hr.mono (by decide)) (by rfl) T.g_Ratio bd3_Ratio___init__ vd3_Ratio___init__ (fun σ => passAt (takes_of rfl rfl rfl rfl) σ) (pa_cons (pe_op Z.op_mul (Z.fld (K := K) rfl (pv 0) rfl) (Z.fld (K := K) rfl (pv 1) rfl)) (pa_cons (pe_op Z.op_mul (Z.fld (K := K) rfl (pv 0) rfl) (Z.fld (K := K) rfl (pv 1) rfl)) pa_nil)))))), ?_⟩
      try dsimp only [cxOf, Cx.nox, Cx.wish]
      walk_at "go"
      by_cases h0 : i = 0
      · exact mkR0 (by rw [h0, Int.mul_zero]) (hE (by rw [h0]; rfl))
      · have h1 : (i : Rat) ≠ 0 := fun z => h0 (by exact_mod_cast z)
        have kk := k h1
        rw [div_int _ h0] at kk
        exact mkR (n := n + m + 1) (m := n + m + 1) (bt_mono b1 (by omega)) (bt_mono (bt_mul b2 hi) (by omega)) (by omega) (Int.mul_ne_zero (den0 q) h0) (fun p H' hn he hr => kk p H' hn he (by rw [Nat.max_self] at hr; exact hr))
    | @rat b r _ hb =>
      obtain ⟨⟨dy, hy⟩, sr, g9⟩ := hb
      have b3 := sr.1
      have b4 := sr.den
      obtain ⟨ds3_Ratio___init__, vd3_Ratio___init__, bd3_Ratio___init__⟩ := T.b3_Ratio___init__
      refine ⟨_, (pss_cons (ps_if (pt_val (pe_callB (Z.call_isi (K := K) rfl) (by rfl) T.n_isinstance (by decide +kernel) (pa_cons (pv 1) (pa_cons (pe_bltn (v := .ty "int") (u := .type "int") (by rfl) T.n_int (by decide +kernel) rfl) pa_nil)))) (pss_one (ps_ret (Z.pe_makeZ T.mk_Ratio (ok_Ratio___init__ T) (hr.mono (by decide)) (by rfl) T.g_Ratio bd3_Ratio___init__ vd3_Ratio___init__ (fun σ => passAt (takes_of rfl rfl rfl rfl) σ) (pa_cons (Z.fld (K := K) rfl (pv 0) rfl) (pa_cons (pe_op Z.op_mul (Z.fld (K := K) rfl (pv 0) rfl) (pv 1)) pa_nil))))) pss_nil)
      (pss_one (ps_ret (Z.pe_makeZ T.mk_Ratio (ok_Ratio___init__ T) (hr.mono (by decide)) (by rfl) T.g_Ratio bd3_Ratio___init__ vd3_Ratio___init__ (fun σ => passAt (takes_of rfl rfl rfl rfl) σ) (pa_cons (pe_op Z.op_mul (Z.fld (K := K) rfl (pv 0) rfl) (Z.fld (K := K) rfl (pv 1) rfl)) (pa_cons (pe_op Z.op_mul (Z.fld (K := K) rfl (pv 0) rfl) (Z.fld (K := K) rfl (pv 1) rfl)) pa_nil)))))), ?_⟩
      try dsimp only [cxOf, Cx.nox, Cx.wish]
      walk_at "go"
      by_cases h0 : r.num = 0
      · exact mkR0 (by rw [h0, Int.mul_zero]) (hE (num0.mp h0))
      · have kk := k (fun z => h0 (num0.mpr z))
        rw [div_rat] at kk
        exact mkR (n := n + m + 1) (m := n + m + 1) (bt_mono (bt_mul b1 b4) (by omega)) (bt_mono (bt_mul b2 b3) (by omega)) (by omega) (Int.mul_ne_zero (den0 q) h0) (fun p H' hn he hr => kk p H' hn he (by rw [Nat.max_self] at hr; exact hr))

theorem ok_Ratio___floordiv__ (T : Tx K mg) : FnOk P w K mg base (L2.CX P w) 4 (He.ma K (He.ga K "Ratio") "__floordiv__") (Z.fdOf K (He.ma K (He.ga K "Ratio") "__floordiv__")) ["self", "other"] (spFloor K) := by
  refine T.F_Ratio___floordiv__.ok sc_Ratio___floordiv__ (fun vs H Q E h => ?_) (fun cdv A outer s H vs Q E hr h => ?_)
  · obtain ⟨a, v, q, r, n, m, rfl, _⟩ := h
    rfl
  · obtain ⟨a, v, q, r, n, m, rfl, ha, hv, hnm, hE, k⟩ := h
    have O := T.o_Ratio
    have cl := T.o_Ratio.cl
    have na1 := T.na_Ratio_top
    have na2 := T.na_Ratio_bottom
    refine ⟨_, (pss_cons (ps_set (i := 2) sc_Ratio___floordiv__.nd rfl (Or.inl rfl) (Z.pe_methZ (pv 0) T.o_Ratio.cl T.me_Ratio_over (ok_Ratio_over T) (hr.mono (by decide)) T.b_Ratio_over .nil (fun σ => passAt (takes_of rfl rfl rfl rfl) σ) (pa_cons (pv 1) pa_nil)))
      (pss_one (ps_ret (pe_op Z.op_fdiv (Z.fld (K := K) rfl (pv 2) rfl) (Z.fld (K := K) rfl (pv 2) rfl))))), ?_⟩
    try dsimp only [cxOf, Cx.nox, Cx.wish]
    walk_at "go"
    refine ⟨a, v, q, r, n, m, rfl, ha, hv, hnm, fun h0 H' e => hE h0 H' e, fun h0 p H' hn he hr => ?_⟩
    have hdv : CDivW (q / r).num (((q / r).den : Nat) : Int) := wide_div (b := 9000) (den1 _) (bt_mono hr.sz.den hr.le) (by decide) (by decide)
    walk_at "go"
    rw [← floor_nd]
    exact k h0 _ he (floor_bt hr.sz)

theorem ok_Ratio___mod__ (T : Tx K mg) : FnOk P w K mg base (L2.CX P w) 5 (He.ma K (He.ga K "Ratio") "__mod__") (Z.fdOf K (He.ma K (He.ga K "Ratio") "__mod__")) ["self", "other"] (spMod K) := by
  refine T.F_Ratio___mod__.ok sc_Ratio___mod__ (fun vs H Q E h => ?_) (fun cdv A outer s H vs Q E hr h => ?_)
  · obtain ⟨a, v, q, r, n, m, rfl, _⟩ := h
    rfl
  · obtain ⟨a, v, q, r, n, m, rfl, ha, hv, hnm, hE, k⟩ := h
    obtain ⟨⟨dx, hx⟩, _, _⟩ := id ha
    cases hv with
    | @int i _ hi =>
      refine ⟨_, (pss_one (ps_ret (Z.pe_opS (Z.OpS.or (Z.opS_OO T.o_Ratio T.me_Ratio___sub__.at_ T.me_Ratio___sub__.fn (Z.rawOk (ok_Ratio___sub__ T) T.b_Ratio___sub__) (hr.mono (by decide)) (fun σ => passAt (takes_of rfl rfl rfl rfl) σ)) (Z.opS_OI T.o_Ratio T.me_Ratio___sub__.at_ T.me_Ratio___sub__.fn T.me_Ratio___rsub__.at_ (.inr ⟨_, rfl⟩) Z.has_sub (Z.rawOk (ok_Ratio___sub__ T) T.b_Ratio___sub__) (hr.mono (by decide)) (fun σ => passAt (takes_of rfl rfl rfl rfl) σ))) (pv 0) (Z.pe_opS (Z.OpS.or (Z.opS_OI T.o_Ratio T.me_Ratio___mul__.at_ T.me_Ratio___mul__.fn T.me_Ratio___rmul__.at_ (.inr ⟨_, rfl⟩) Z.has_mul (Z.rawOk (ok_Ratio___mul__ T) T.b_Ratio___mul__) (hr.mono (by decide)) (fun σ => passAt (takes_of rfl rfl rfl rfl) σ)) (Z.OpS.of Z.op_mul)) (pv 1) (Z.pe_opS (Z.OpS.or (Z.opS_OO T.o_Ratio T.me_Ratio___floordiv__.at_ T.me_Ratio___floordiv__.fn (Z.rawOk (ok_Ratio___floordiv__ T) T.b_Ratio___floordiv__) (hr.mono (by decide)) (fun σ => passAt (takes_of rfl rfl rfl rfl) σ)) (Z.opS_OI T.o_Ratio T.me_Ratio___floordiv__.at_ T.me_Ratio___floordiv__.fn T.no_Ratio___rfloordiv__ (.inl rfl) Z.has_floordiv (Z.rawOk (ok_Ratio___floordiv__ T) T.b_Ratio___floordiv__) (hr.mono (by decide)) (fun σ => passAt (takes_of rfl rfl rfl rfl) σ))) (pv 0) (pv 1)))))), ?_⟩
      try dsimp only [cxOf, Cx.nox, Cx.wish]
      walk_at "go"
      refine ⟨a, _, q, (i : Rat), n, m, rfl, ha, .int hi, by omega, fun h0 H' e => hE h0 H' e, fun h0 H' he hf => ?_⟩
      walk_at "go"
      rename_i p H2 hn2 he2 hr2
      exact k h0 p H2 (he.back hn2) (he.trans he2) ⟨by rw [← Rat.intCast_mul]; exact hr2.at_, (sz_mod ha.sz (sz_int hi) h0).mono (by omega), by omega⟩
    | @rat b r _ hb =>
      obtain ⟨⟨dy, hy⟩, _, _⟩ := id hb
      refine ⟨_, (pss_one (ps_ret (Z.pe_opS (Z.OpS.or (Z.opS_OO T.o_Ratio T.me_Ratio___sub__.at_ T.me_Ratio___sub__.fn (Z.rawOk (ok_Ratio___sub__ T) T.b_Ratio___sub__) (hr.mono (by decide)) (fun σ => passAt (takes_of rfl rfl rfl rfl) σ)) (Z.opS_OI T.o_Ratio T.me_Ratio___sub__.at_ T.me_Ratio___sub__.fn T.me_Ratio___rsub__.at_ (.inr ⟨_, rfl⟩) Z.has_sub (Z.rawOk (ok_Ratio___sub__ T) T.b_Ratio___sub__) (hr.mono (by decide)) (fun σ => passAt (takes_of rfl rfl rfl rfl) σ))) (pv 0) (Z.pe_opS (Z.OpS.or (Z.opS_OI T.o_Ratio T.me_Ratio___mul__.at_ T.me_Ratio___mul__.fn T.me_Ratio___rmul__.at_ (.inr ⟨_, rfl⟩) Z.has_mul (Z.rawOk (ok_Ratio___mul__ T) T.b_Ratio___mul__) (hr.mono (by decide)) (fun σ => passAt (takes_of rfl rfl rfl rfl) σ)) (Z.OpS.of Z.op_mul)) (pv 1) (Z.pe_opS (Z.OpS.or (Z.opS_OO T.o_Ratio T.me_Ratio___floordiv__.at_ T.me_Ratio___floordiv__.fn (Z.rawOk (ok_Ratio___floordiv__ T) T.b_Ratio___floordiv__) (hr.mono (by decide)) (fun σ => passAt (takes_of rfl rfl rfl rfl) σ)) (Z.opS_OI T.o_Ratio T.me_Ratio___floordiv__.at_ T.me_Ratio___floordiv__.fn T.no_Ratio___rfloordiv__ (.inl rfl) Z.has_floordiv (Z.rawOk (ok_Ratio___floordiv__ T) T.b_Ratio___floordiv__) (hr.mono (by decide)) (fun σ => passAt (takes_of rfl rfl rfl rfl) σ))) (pv 0) (pv 1)))))), ?_⟩
      try dsimp only [cxOf, Cx.nox, Cx.wish]
      walk_at "go"
      refine ⟨a, _, q, r, n, m, rfl, ha, .rat hb, by omega, fun h0 H' e => hE h0 H' e, fun h0 H' he hf => ?_⟩
      walk_at "go"
      rename_i p1 H1 hn1 he1 hr1 p H2 hn2 he2 hr2
      exact k h0 p H2 (he.back (he1.back hn2)) ((he.trans he1).trans he2) ⟨hr2.at_, (sz_mod ha.sz hb.sz h0).mono (by omega), by omega⟩

theorem abs_rat (q : Rat) : q.abs = Rat.divInt (q.num.natAbs : Int) q.den := by
  have hz : (0 ≤ q) ↔ 0 ≤ q.num := Rat.num_nonneg.symm
  unfold Rat.abs
  split
  · rename_i h
    have := hz.mp h
    rw [Int.natAbs_of_nonneg this]; exact rat_eq q
  · rename_i h
    have h2 : ¬ 0 ≤ q.num := fun z => h (hz.mpr z)
    have e : ((q.num.natAbs : Nat) : Int) = -q.num := by omega
    rw [e]
    conv => lhs; rw [rat_eq q]
    rw [Rat.neg_divInt]
theorem ok_Ratio___abs__ (T : Tx K mg) : FnOk P w K mg base (L2.CX P w) 3 (He.ma K (He.ga K "Ratio") "__abs__") (Z.fdOf K (He.ma K (He.ga K "Ratio") "__abs__")) ["self"] (spUn (He.ga K "Ratio") fun q => q.abs) := by
  refine T.F_Ratio___abs__.ok sc_Ratio___abs__ (fun vs H Q E h => ?_) (fun cdv A outer s H vs Q E hr h => ?_)
  · obtain ⟨a, q, n, rfl, _⟩ := h
    rfl
  · obtain ⟨a, q, n, rfl, ha, k⟩ := h
    have O := T.o_Ratio
    have cl := T.o_Ratio.cl
    have na1 := T.na_Ratio_top
    have na2 := T.na_Ratio_bottom
    obtain ⟨⟨dx, hx⟩, sq, h9⟩ := ha
    have b1 := sq.1
    have b2 := sq.den
    dsimp only at k
    rw [abs_rat] at k
    obtain ⟨ds3_Ratio___init__, vd3_Ratio___init__, bd3_Ratio___init__⟩ := T.b3_Ratio___init__
    refine ⟨_, PSs.nox (pss_one (ps_ret (pe_make T.mk_Ratio (ok_Ratio___init__ T) (hr.mono (by decide)) (by rfl) T.g_Ratio bd3_Ratio___init__ vd3_Ratio___init__ passL (pa_cons (pe_callB Z.call_absI (by rfl) T.n_abs (by decide +kernel) (pa_cons (Z.fld (K := K) rfl (pv 0) rfl) pa_nil)) (pa_cons (Z.fld (K := K) rfl (pv 0) rfl) pa_nil))))), ?_⟩
    try dsimp only [cxOf, Cx.nox, Cx.wish]
    walk_at "go"
    exact mkR (n := n) (m := n) (bt_abs b1) b2 (by omega) (den0 q) (fun p H' hn he hr => k p H' hn he (by rw [Nat.max_self] at hr; exact hr))

theorem ok_Ratio___bool__ (T : Tx K mg) : FnOk P w K mg base (L2.CX P w) 1 (He.ma K (He.ga K "Ratio") "__bool__") (Z.fdOf K (He.ma K (He.ga K "Ratio") "__bool__")) ["self"] (spBool (He.ga K "Ratio")) := by
  refine T.F_Ratio___bool__.ok sc_Ratio___bool__ (fun vs H Q E h => ?_) (fun cdv A outer s H vs Q E hr h => ?_)
  · obtain ⟨a, q, n, rfl, _⟩ := h
    rfl
  · obtain ⟨a, q, n, rfl, ha, k⟩ := h
    have O := T.o_Ratio
    have cl := T.o_Ratio.cl
    have na1 := T.na_Ratio_top
    have na2 := T.na_Ratio_bottom
    simp only [← num0] at k
    refine ⟨_, PSs.nox (pss_one (ps_ret (pe_callTy Z.call_boolI (by rfl) T.n_bool (by decide +kernel) (pa_cons (Z.fld (K := K) rfl (pv 0) rfl) pa_nil)))), ?_⟩
    try dsimp only [cxOf, Cx.nox, Cx.wish]
    walk_at "go"
    exact k

theorem ok_Ratio___eq__ (T : Tx K mg) : FnOk P w K mg base (L2.CX P w) 1 (He.ma K (He.ga K "Ratio") "__eq__") (Z.fdOf K (He.ma K (He.ga K "Ratio") "__eq__")) ["self", "other"] (spEq (He.ga K "Ratio")) := by
  refine T.F_Ratio___eq__.ok sc_Ratio___eq__ (fun vs H Q E h => ?_) (fun cdv A outer s H vs Q E hr h => ?_)
  · obtain ⟨a, q, n, _, ⟨b, r, m, rfl, _⟩ | ⟨i, rfl, _⟩⟩ := h <;> rfl
  · obtain ⟨a, q, n, ha, h⟩ := h
    have O := T.o_Ratio
    have cl := T.o_Ratio.cl
    have na1 := T.na_Ratio_top
    have na2 := T.na_Ratio_bottom
    rcases h with ⟨b, r, m, rfl, hb, k⟩ | ⟨i, rfl, k⟩
    · skip
      refine ⟨_, PSs.nox (pss_one (ps_ret (pe_and (pe_callB (Z.call_isi (K := K) rfl) (by rfl) T.n_isinstance (by decide +kernel) (pa_cons (pv 1) (pa_cons (pe_glob (v := .ref (He.ga K "Ratio")) (by rfl) T.g_Ratio rfl) pa_nil))) (pe_and (pe_cmpR (Z.op_eq (K := K) rfl hr.units) (Z.fld (K := K) rfl (pv 0) rfl) (Z.fld (K := K) rfl (pv 1) rfl) (nomark _)) (pe_one (pe_cmpR (Z.op_eq (K := K) rfl hr.units) (Z.fld (K := K) rfl (pv 0) rfl) (Z.fld (K := K) rfl (pv 1) rfl) (nomark _))))))), ?_⟩
      try dsimp only [cxOf, Cx.nox, Cx.wish]
      walk_at "go"
      rw [show decide (q = r) = (decide (q.num = r.num) && decide ((q.den : Int) = r.den)) by
        have := eq_rat q r
        by_cases h : q = r
        · rw [decide_eq_true h]; obtain ⟨h1, h2⟩ := this.mp h; rw [decide_eq_true h1, decide_eq_true h2]; rfl
        · rw [decide_eq_false h]
          by_cases h1 : q.num = r.num
          · have h2 : ¬ (q.den : Int) = r.den := fun z => h (this.mpr ⟨h1, z⟩)
            rw [decide_eq_false h2, Bool.and_false]
          · rw [decide_eq_false h1, Bool.false_and]] at k
      refine Z.w_dec (fun h1 => ?_) (fun h1 => ?_)
      · rw [decide_eq_true h1, Bool.true_and] at k
        walk_at "go"
        exact k
      · rw [decide_eq_false h1, Bool.false_and] at k
        exact k
    · skip
      refine ⟨_, PSs.nox (pss_one (ps_ret (pe_and (pe_callB (Z.call_isi (K := K) rfl) (by rfl) T.n_isinstance (by decide +kernel) (pa_cons (pv 1) (pa_cons (pe_glob (v := .ref (He.ga K "Ratio")) (by rfl) T.g_Ratio rfl) pa_nil))) (pe_and (pe_cmpR (Z.op_eq (K := K) rfl hr.units) (Z.fld (K := K) rfl (pv 0) rfl) (Z.fld (K := K) rfl (pv 1) rfl) (nomark _)) (pe_one (pe_cmpR (Z.op_eq (K := K) rfl hr.units) (Z.fld (K := K) rfl (pv 0) rfl) (Z.fld (K := K) rfl (pv 1) rfl) (nomark _))))))), ?_⟩
      try dsimp only [cxOf, Cx.nox, Cx.wish]
      walk_at "go"
      exact k

theorem ok_Ratio___lt__ (T : Tx K mg) : FnOk P w K mg base (L2.CX P w) 1 (He.ma K (He.ga K "Ratio") "__lt__") (Z.fdOf K (He.ma K (He.ga K "Ratio") "__lt__")) ["self", "other"] (spCmp (He.ga K "Ratio") fun q r => decide (q < r)) := by
  refine T.F_Ratio___lt__.ok sc_Ratio___lt__ (fun vs H Q E h => ?_) (fun cdv A outer s H vs Q E hr h => ?_)
  · obtain ⟨a, v, q, r, n, m, rfl, _⟩ := h
    rfl
  · obtain ⟨a, v, q, r, n, m, rfl, ha, hv, hnm, k⟩ := h
    have O := T.o_Ratio
    have cl := T.o_Ratio.cl
    have na1 := T.na_Ratio_top
    have na2 := T.na_Ratio_bottom
    obtain ⟨⟨dx, hx⟩, sq, h9⟩ := ha
    have b1 := sq.1
    have b2 := sq.den
    cases hv with
    | @int i _ hi =>
      simp only [lt_int] at k
      refine ⟨_, PSs.nox (pss_cons (ps_if (pt_val (pe_callB (Z.call_isi (K := K) rfl) (by rfl) T.n_isinstance (by decide +kernel) (pa_cons (pv 1) (pa_cons (pe_bltn (v := .ty "int") (u := .type "int") (by rfl) T.n_int (by decide +kernel) rfl) pa_nil)))) (pss_one (ps_ret (pe_cmpR Z.op_lt (Z.fld (K := K) rfl (pv 0) rfl) (pe_op Z.op_mul (pv 1) (Z.fld (K := K) rfl (pv 0) rfl)) (nomark _)))) pss_nil)
      (pss_cons (ps_if (pt_not (pt_val (pe_callB (Z.call_isi (K := K) rfl) (by rfl) T.n_isinstance (by decide +kernel) (pa_cons (pv 1) (pa_cons (pe_glob (v := .ref (He.ga K "Ratio")) (by rfl) T.g_Ratio rfl) pa_nil))))) (pss_one ps_never) pss_nil)
      (pss_one (ps_ret (pe_cmpR Z.op_lt (pe_op Z.op_mul (Z.fld (K := K) rfl (pv 0) rfl) (Z.fld (K := K) rfl (pv 1) rfl)) (pe_op Z.op_mul (Z.fld (K := K) rfl (pv 1) rfl) (Z.fld (K := K) rfl (pv 0) rfl)) (nomark _)))))), ?_⟩
      try dsimp only [cxOf, Cx.nox, Cx.wish]
      walk_at "go"
      exact k
    | @rat b r _ hb =>
      obtain ⟨⟨dy, hy⟩, sr, g9⟩ := hb
      have b3 := sr.1
      have b4 := sr.den
      simp only [lt_rat] at k
      refine ⟨_, PSs.nox (pss_cons (ps_if (pt_val (pe_callB (Z.call_isi (K := K) rfl) (by rfl) T.n_isinstance (by decide +kernel) (pa_cons (pv 1) (pa_cons (pe_bltn (v := .ty "int") (u := .type "int") (by rfl) T.n_int (by decide +kernel) rfl) pa_nil)))) (pss_one (ps_ret (pe_cmpR Z.op_lt (Z.fld (K := K) rfl (pv 0) rfl) (pe_op Z.op_mul (pv 1) (Z.fld (K := K) rfl (pv 0) rfl)) (nomark _)))) pss_nil)
      (pss_cons (ps_if (pt_not (pt_val (pe_callB (Z.call_isi (K := K) rfl) (by rfl) T.n_isinstance (by decide +kernel) (pa_cons (pv 1) (pa_cons (pe_glob (v := .ref (He.ga K "Ratio")) (by rfl) T.g_Ratio rfl) pa_nil))))) (pss_one ps_never) pss_nil)
      (pss_one (ps_ret (pe_cmpR Z.op_lt (pe_op Z.op_mul (Z.fld (K := K) rfl (pv 0) rfl) (Z.fld (K := K) rfl (pv 1) rfl)) (pe_op Z.op_mul (Z.fld (K := K) rfl (pv 1) rfl) (Z.fld (K := K) rfl (pv 0) rfl)) (nomark _)))))), ?_⟩
      try dsimp only [cxOf, Cx.nox, Cx.wish]
      walk_at "go"
      exact k

theorem ok_Ratio___le__ (T : Tx K mg) : FnOk P w K mg base (L2.CX P w) 1 (He.ma K (He.ga K "Ratio") "__le__") (Z.fdOf K (He.ma K (He.ga K "Ratio") "__le__")) ["self", "other"] (spCmp (He.ga K "Ratio") fun q r => decide (q ≤ r)) := by
  refine T.F_Ratio___le__.ok sc_Ratio___le__ (fun vs H Q E h => ?_) (fun cdv A outer s H vs Q E hr h => ?_)
  · obtain ⟨a, v, q, r, n, m, rfl, _⟩ := h
    rfl
  · obtain ⟨a, v, q, r, n, m, rfl, ha, hv, hnm, k⟩ := h
    have O := T.o_Ratio
    have cl := T.o_Ratio.cl
    have na1 := T.na_Ratio_top
    have na2 := T.na_Ratio_bottom
    obtain ⟨⟨dx, hx⟩, sq, h9⟩ := ha
    have b1 := sq.1
    have b2 := sq.den
    cases hv with
    | @int i _ hi =>
      simp only [le_int] at k
      refine ⟨_, PSs.nox (pss_cons (ps_if (pt_val (pe_callB (Z.call_isi (K := K) rfl) (by rfl) T.n_isinstance (by decide +kernel) (pa_cons (pv 1) (pa_cons (pe_bltn (v := .ty "int") (u := .type "int") (by rfl) T.n_int (by decide +kernel) rfl) pa_nil)))) (pss_one (ps_ret (pe_cmpR Z.op_le (Z.fld (K := K) rfl (pv 0) rfl) (pe_op Z.op_mul (pv 1) (Z.fld (K := K) rfl (pv 0) rfl)) (nomark _)))) pss_nil)
      (pss_cons (ps_if (pt_not (pt_val (pe_callB (Z.call_isi (K := K) rfl) (by rfl) T.n_isinstance (by decide +kernel) (pa_cons (pv 1) (pa_cons (pe_glob (v := .ref (He.ga K "Ratio")) (by rfl) T.g_Ratio rfl) pa_nil))))) (pss_one ps_never) pss_nil)
      (pss_one (ps_ret (pe_cmpR Z.op_le (pe_op Z.op_mul (Z.fld (K := K) rfl (pv 0) rfl) (Z.fld (K := K) rfl (pv 1) rfl)) (pe_op Z.op_mul (Z.fld (K := K) rfl (pv 1) rfl) (Z.fld (K := K) rfl (pv 0) rfl)) (nomark _)))))), ?_⟩
      try dsimp only [cxOf, Cx.nox, Cx.wish]
      walk_at "go"
      exact k
    | @rat b r _ hb =>
      obtain ⟨⟨dy, hy⟩, sr, g9⟩ := hb
      have b3 := sr.1
      have b4 := sr.den
      simp only [le_rat] at k
      refine ⟨_, PSs.nox (pss_cons (ps_if (pt_val (pe_callB (Z.call_isi (K := K) rfl) (by rfl) T.n_isinstance (by decide +kernel) (pa_cons (pv 1) (pa_cons (pe_bltn (v := .ty "int") (u := .type "int") (by rfl) T.n_int (by decide +kernel) rfl) pa_nil)))) (pss_one (ps_ret (pe_cmpR Z.op_le (Z.fld (K := K) rfl (pv 0) rfl) (pe_op Z.op_mul (pv 1) (Z.fld (K := K) rfl (pv 0) rfl)) (nomark _)))) pss_nil)
      (pss_cons (ps_if (pt_not (pt_val (pe_callB (Z.call_isi (K := K) rfl) (by rfl) T.n_isinstance (by decide +kernel) (pa_cons (pv 1) (pa_cons (pe_glob (v := .ref (He.ga K "Ratio")) (by rfl) T.g_Ratio rfl) pa_nil))))) (pss_one ps_never) pss_nil)
      (pss_one (ps_ret (pe_cmpR Z.op_le (pe_op Z.op_mul (Z.fld (K := K) rfl (pv 0) rfl) (Z.fld (K := K) rfl (pv 1) rfl)) (pe_op Z.op_mul (Z.fld (K := K) rfl (pv 1) rfl) (Z.fld (K := K) rfl (pv 0) rfl)) (nomark _)))))), ?_⟩
      try dsimp only [cxOf, Cx.nox, Cx.wish]
      walk_at "go"
      exact k

theorem ok_Ratio___gt__ (T : Tx K mg) : FnOk P w K mg base (L2.CX P w) 1 (He.ma K (He.ga K "Ratio") "__gt__") (Z.fdOf K (He.ma K (He.ga K "Ratio") "__gt__")) ["self", "other"] (spCmp (He.ga K "Ratio") fun q r => decide (r < q)) := by
  refine T.F_Ratio___gt__.ok sc_Ratio___gt__ (fun vs H Q E h => ?_) (fun cdv A outer s H vs Q E hr h => ?_)
  · obtain ⟨a, v, q, r, n, m, rfl, _⟩ := h
    rfl
  · obtain ⟨a, v, q, r, n, m, rfl, ha, hv, hnm, k⟩ := h
    have O := T.o_Ratio
    have cl := T.o_Ratio.cl
    have na1 := T.na_Ratio_top
    have na2 := T.na_Ratio_bottom
    obtain ⟨⟨dx, hx⟩, sq, h9⟩ := ha
    have b1 := sq.1
    have b2 := sq.den
    cases hv with
    | @int i _ hi =>
      simp only [int_lt] at k
      refine ⟨_, PSs.nox (pss_cons (ps_if (pt_val (pe_callB (Z.call_isi (K := K) rfl) (by rfl) T.n_isinstance (by decide +kernel) (pa_cons (pv 1) (pa_cons (pe_bltn (v := .ty "int") (u := .type "int") (by rfl) T.n_int (by decide +kernel) rfl) pa_nil)))) (pss_one (ps_ret (pe_cmpR Z.op_gt (Z.fld (K := K) rfl (pv 0) rfl) (pe_op Z.op_mul (pv 1) (Z.fld (K := K) rfl (pv 0) rfl)) (nomark _)))) pss_nil)
      (pss_cons (ps_if (pt_not (pt_val (pe_callB (Z.call_isi (K := K) rfl) (by rfl) T.n_isinstance (by decide +kernel) (pa_cons (pv 1) (pa_cons (pe_glob (v := .ref (He.ga K "Ratio")) (by rfl) T.g_Ratio rfl) pa_nil))))) (pss_one ps_never) pss_nil)
      (pss_one (ps_ret (pe_cmpR Z.op_gt (pe_op Z.op_mul (Z.fld (K := K) rfl (pv 0) rfl) (Z.fld (K := K) rfl (pv 1) rfl)) (pe_op Z.op_mul (Z.fld (K := K) rfl (pv 1) rfl) (Z.fld (K := K) rfl (pv 0) rfl)) (nomark _)))))), ?_⟩
      try dsimp only [cxOf, Cx.nox, Cx.wish]
      walk_at "go"
      exact k
    | @rat b r _ hb =>
      obtain ⟨⟨dy, hy⟩, sr, g9⟩ := hb
      have b3 := sr.1
      have b4 := sr.den
      simp only [lt_rat] at k
      refine ⟨_, PSs.nox (pss_cons (ps_if (pt_val (pe_callB (Z.call_isi (K := K) rfl) (by rfl) T.n_isinstance (by decide +kernel) (pa_cons (pv 1) (pa_cons (pe_bltn (v := .ty "int") (u := .type "int") (by rfl) T.n_int (by decide +kernel) rfl) pa_nil)))) (pss_one (ps_ret (pe_cmpR Z.op_gt (Z.fld (K := K) rfl (pv 0) rfl) (pe_op Z.op_mul (pv 1) (Z.fld (K := K) rfl (pv 0) rfl)) (nomark _)))) pss_nil)
      (pss_cons (ps_if (pt_not (pt_val (pe_callB (Z.call_isi (K := K) rfl) (by rfl) T.n_isinstance (by decide +kernel) (pa_cons (pv 1) (pa_cons (pe_glob (v := .ref (He.ga K "Ratio")) (by rfl) T.g_Ratio rfl) pa_nil))))) (pss_one ps_never) pss_nil)
      (pss_one (ps_ret (pe_cmpR Z.op_gt (pe_op Z.op_mul (Z.fld (K := K) rfl (pv 0) rfl) (Z.fld (K := K) rfl (pv 1) rfl)) (pe_op Z.op_mul (Z.fld (K := K) rfl (pv 1) rfl) (Z.fld (K := K) rfl (pv 0) rfl)) (nomark _)))))), ?_⟩
      try dsimp only [cxOf, Cx.nox, Cx.wish]
      walk_at "go"
      exact k

theorem ok_Ratio___ge__ (T : Tx K mg) : FnOk P w K mg base (L2.CX P w) 1 (He.ma K (He.ga K "Ratio") "__ge__") (Z.fdOf K (He.ma K (He.ga K "Ratio") "__ge__")) ["self", "other"] (spCmp (He.ga K "Ratio") fun q r => decide (r ≤ q)) := by
  refine T.F_Ratio___ge__.ok sc_Ratio___ge__ (fun vs H Q E h => ?_) (fun cdv A outer s H vs Q E hr h => ?_)
  · obtain ⟨a, v, q, r, n, m, rfl, _⟩ := h
    rfl
  · obtain ⟨a, v, q, r, n, m, rfl, ha, hv, hnm, k⟩ := h
    have O := T.o_Ratio
    have cl := T.o_Ratio.cl
    have na1 := T.na_Ratio_top
    have na2 := T.na_Ratio_bottom
    obtain ⟨⟨dx, hx⟩, sq, h9⟩ := ha
    have b1 := sq.1
    have b2 := sq.den
    cases hv with
    | @int i _ hi =>
      simp only [int_le] at k
      refine ⟨_, PSs.nox (pss_cons (ps_if (pt_val (pe_callB (Z.call_isi (K := K) rfl) (by rfl) T.n_isinstance (by decide +kernel) (pa_cons (pv 1) (pa_cons (pe_bltn (v := .ty "int") (u := .type "int") (by rfl) T.n_int (by decide +kernel) rfl) pa_nil)))) (pss_one (ps_ret (pe_cmpR Z.op_ge (Z.fld (K := K) rfl (pv 0) rfl) (pe_op Z.op_mul (pv 1) (Z.fld (K := K) rfl (pv 0) rfl)) (nomark _)))) pss_nil)
      (pss_cons (ps_if (pt_not (pt_val (pe_callB (Z.call_isi (K := K) rfl) (by rfl) T.n_isinstance (by decide +kernel) (pa_cons (pv 1) (pa_cons (pe_glob (v := .ref (He.ga K "Ratio")) (by rfl) T.g_Ratio rfl) pa_nil))))) (pss_one ps_never) pss_nil)
      (pss_one (ps_ret (pe_cmpR Z.op_ge (pe_op Z.op_mul (Z.fld (K := K) rfl (pv 0) rfl) (Z.fld (K := K) rfl (pv 1) rfl)) (pe_op Z.op_mul (Z.fld (K := K) rfl (pv 1) rfl) (Z.fld (K := K) rfl (pv 0) rfl)) (nomark _)))))), ?_⟩
      try dsimp only [cxOf, Cx.nox, Cx.wish]
      walk_at "go"
      exact k
    | @rat b r _ hb =>
      obtain ⟨⟨dy, hy⟩, sr, g9⟩ := hb
      have b3 := sr.1
      have b4 := sr.den
      simp only [le_rat] at k
      refine ⟨_, PSs.nox (pss_cons (ps_if (pt_val (pe_callB (Z.call_isi (K := K) rfl) (by rfl) T.n_isinstance (by decide +kernel) (pa_cons (pv 1) (pa_cons (pe_bltn (v := .ty "int") (u := .type "int") (by rfl) T.n_int (by decide +kernel) rfl) pa_nil)))) (pss_one (ps_ret (pe_cmpR Z.op_ge (Z.fld (K := K) rfl (pv 0) rfl) (pe_op Z.op_mul (pv 1) (Z.fld (K := K) rfl (pv 0) rfl)) (nomark _)))) pss_nil)
      (pss_cons (ps_if (pt_not (pt_val (pe_callB (Z.call_isi (K := K) rfl) (by rfl) T.n_isinstance (by decide +kernel) (pa_cons (pv 1) (pa_cons (pe_glob (v := .ref (He.ga K "Ratio")) (by rfl) T.g_Ratio rfl) pa_nil))))) (pss_one ps_never) pss_nil)
      (pss_one (ps_ret (pe_cmpR Z.op_ge (pe_op Z.op_mul (Z.fld (K := K) rfl (pv 0) rfl) (Z.fld (K := K) rfl (pv 1) rfl)) (pe_op Z.op_mul (Z.fld (K := K) rfl (pv 1) rfl) (Z.fld (K := K) rfl (pv 0) rfl)) (nomark _)))))), ?_⟩
      try dsimp only [cxOf, Cx.nox, Cx.wish]
      walk_at "go"
      exact k

/-- a cell of the script, or 0: some int -/
def sp__law_cell (K : PySem.W.Frag) : Sp := fun vs H Q _ => ∃ (l : Addr) (ns : List Int) (j : Int), vs = [.ref l, .int j] ∧ SqL K H l (ns.map V.int) ∧ 0 ≤ j ∧ ∀ i : Int, Q (.int i) H
theorem ok__law_cell (T : Tx K mg) : FnOk P w K mg base (L2.CX P w) 1 (He.ga K "_law_cell") (Z.fdOf K (He.ga K "_law_cell")) ["_law_script", "_law_place"] (sp__law_cell K) := by
  refine T.F__law_cell.ok sc__law_cell (fun vs H Q E h => ?_) (fun cdv A outer s H vs Q E hr h => ?_)
  · obtain ⟨l, ns, j, rfl, _⟩ := h
    rfl
  · obtain ⟨l, ns, j, rfl, hl, hj, k⟩ := h
    refine ⟨_, PSs.nox (pss_cons (ps_if (pt_cmpR Z.op_lt (pv 1) (pe_callB (Z.call_len (K := K) rfl) (by rfl) T.n_len (by decide +kernel) (pa_cons (pv 0) pa_nil)) (nomark _)) (pss_one (ps_ret (pe_callTy Z.call_int (by rfl) T.n_int (by decide +kernel) (pa_cons (pe_ix (Z.ix (K := K) rfl) (pv 0) (pv 1) (fun _ _ => rfl)) pa_nil)))) pss_nil)
      (pss_one (ps_ret pe_int))), ?_⟩
    try dsimp only [cxOf, Cx.nox, Cx.wish]
    walk_at "go"
    refine Z.w_dec (fun hc => ?_) (fun hc => ?_)
    · rw [List.length_map] at hc
      walk_at "go"
      exact k _
    · walk_at "go"
      exact k _
theorem u_cell {H : Hp} {Q : VK} {E : XK} {l : Addr} {ns : List Int} {j : Int} (h : SqL K H l (ns.map V.int)) (hj : 0 ≤ j) (k : ∀ i : Int, Q (.int i) H) : sp__law_cell K [.ref l, .int j] H Q E := ⟨l, ns, j, rfl, h, hj, k⟩
local macro_rules | `(tactic| walk_at "call") => `(tactic| ((with_reducible apply R.u_cell); (walk_at "fl"); (walk_at "num"); (intro cell)))

/-- as many numbers as sizes, each below its size -/
def Dr (sz ds : List Int) : Prop := ds.length = sz.length ∧ ∀ k, k < ds.length → 0 ≤ ds.getD k 0 ∧ ds.getD k 0 < sz.getD k 0
def sp__law_draws (K : PySem.W.Frag) : Sp := fun vs H Q _ => ∃ (c : Int) (l : Addr) (sz : List Int), vs = [.int c, .ref l] ∧ SqL K H l (sz.map V.int) ∧ sz.length ≤ 100000 ∧ (∀ z ∈ sz, 0 < z ∧ z < 2 ^ 250) ∧
  ∀ (p : Addr) (H' : Hp) (ds : List Int), Fr H p → Ex H H' → At H' p (.lst (ds.map V.int)) → Dr sz ds → Q (.ref p) H'
theorem dr_snoc {sz ds : List Int} {z : Int} (hl : ds.length < sz.length) (h : ∀ k, k < ds.length → 0 ≤ ds.getD k 0 ∧ ds.getD k 0 < sz.getD k 0) (h0 : 0 ≤ z) (h1 : z < sz.getD ds.length 0) :
    ∀ k, k < (ds ++ [z]).length → 0 ≤ (ds ++ [z]).getD k 0 ∧ (ds ++ [z]).getD k 0 < sz.getD k 0 := by
  intro k hk
  rw [List.length_append] at hk
  by_cases e : k < ds.length
  · have := h k e
    simp only [List.getD_eq_getElem?_getD, List.getElem?_append_left e] at this ⊢
    exact this
  · have ek : k = ds.length := by simp at hk; omega
    subst ek
    simp only [List.getD_eq_getElem?_getD] at h1 ⊢
    simp [h0, h1]
theorem ok__law_draws (T : Tx K mg) : FnOk P w K mg base (L2.CX P w) 1 (He.ga K "_law_draws") (Z.fdOf K (He.ga K "_law_draws")) ["_law_cell_here", "_law_sizes"] (sp__law_draws K) := by
  refine T.F__law_draws.ok sc__law_draws (fun vs H Q E h => ?_) (fun cdv A outer s H vs Q E hr h => ?_)
  · obtain ⟨c, l, sz, rfl, _⟩ := h
    rfl
  · obtain ⟨c, l, sz, rfl, hl, hz, hp, k⟩ := h
    have gp : ∀ i, i < sz.length → 0 < sz.getD i 0 ∧ sz.getD i 0 < 2 ^ 250 := fun i hi => by
      rw [List.getD_eq_getElem?_getD, List.getElem?_eq_getElem hi]
      exact hp _ (List.getElem_mem hi)
    refine ⟨_, PSs.nox (pss_cons (ps_if (pt_cmpR (Z.op_eq (K := K) rfl hr.units) (pv 0) pe_int (nomark _)) (pss_one (ps_ret (pe_lc (own := [("_law_size", 4)]) rfl sc__law_draws.nd (Z.piL (K := K) rfl (pv 1)) (blkOk_by (N := ["_law_cell_here", "_law_sizes", "_law_left", "_law_found", "_law_size", "_law_k", "_law_low", "_law_high"]) (sc := defScope s__law_draws) (by decide +kernel)) (fun _ _ _ _ _ => (pg_name (i := 4) sc__law_draws.nd rfl (by first | exact Or.inl rfl | exact Or.inr rfl))) (fun _ _ _ _ _ => pts_nil) (fun _ _ _ _ _ => pe_int)))) pss_nil)
      (pss_cons (ps_if (pt_cmpR Z.op_ge (pv 0) (pe_op op_pow pe_int pe_int) (nomark _)) (pss_cons (ps_set (i := 2) sc__law_draws.nd rfl (Or.inl rfl) (pe_op Z.op_sub (pv 0) (pe_op op_pow pe_int pe_int)))
      (pss_cons (ps_set (i := 3) sc__law_draws.nd rfl (Or.inl rfl) (pe_lst pa_nil))
      (pss_cons (ps_for PassesOwn.never rfl (Z.piL (K := K) rfl (pv 1)) (pg_name (i := 4) sc__law_draws.nd rfl (by first | exact Or.inl rfl | exact Or.inr rfl)) (pss_cons (ps_expr (pe_bm PySem.F.plainAttrs_list PySem.F.slot_list_append PySem.F.type_list_append mt_append (pv 3) (pa_cons (pe_op Z.op_mod (pe_callTy Z.call_int (by rfl) T.n_int (by decide +kernel) (pa_cons (pv 2) pa_nil)) (pv 4)) pa_nil)))
      (pss_one (ps_set (i := 2) sc__law_draws.nd rfl (Or.inl rfl) (pe_op Z.op_fdiv (pv 2) (pv 4))))))
      (pss_one (ps_ret (pv 3)))))) pss_nil)
      (pss_cons (ps_set (i := 3) sc__law_draws.nd rfl (Or.inl rfl) (pe_lst pa_nil))
      (pss_cons (ps_for PassesOwn.never rfl (pi_range1 (by rfl) T.n_range (pa_cons (pe_callB (Z.call_len (K := K) rfl) (by rfl) T.n_len (by decide +kernel) (pa_cons (pv 1) pa_nil)) pa_nil)) (pg_name (i := 5) sc__law_draws.nd rfl (by first | exact Or.inl rfl | exact Or.inr rfl)) (pss_cons (ps_set (i := 6) sc__law_draws.nd rfl (Or.inl rfl) (pe_op Z.op_mod (pe_callTy Z.call_int (by rfl) T.n_int (by decide +kernel) (pa_cons (pe_op Z.op_add (pe_op Z.op_mul (pv 0) pe_int) (pe_op Z.op_mul (pe_op Z.op_add (pv 5) pe_int) pe_int)) pa_nil)) pe_int))
      (pss_cons (ps_set (i := 6) sc__law_draws.nd rfl (Or.inl rfl) (pe_op Z.op_mod (pe_callTy Z.call_int (by rfl) T.n_int (by decide +kernel) (pa_cons (pe_op Z.op_add (pe_op Z.op_mul (pv 6) pe_int) (pe_op Z.op_mul (pe_op Z.op_add (pv 5) pe_int) pe_int)) pa_nil)) pe_int))
      (pss_cons (ps_set (i := 7) sc__law_draws.nd rfl (Or.inl rfl) (pe_op Z.op_mod (pe_callTy Z.call_int (by rfl) T.n_int (by decide +kernel) (pa_cons (pe_op Z.op_add (pe_op Z.op_mul (pv 0) pe_int) (pe_op Z.op_mul (pe_op Z.op_add (pv 5) pe_int) pe_int)) pa_nil)) pe_int))
      (pss_cons (ps_set (i := 7) sc__law_draws.nd rfl (Or.inl rfl) (pe_op Z.op_mod (pe_callTy Z.call_int (by rfl) T.n_int (by decide +kernel) (pa_cons (pe_op Z.op_add (pe_op Z.op_mul (pv 7) pe_int) (pv 6)) pa_nil)) pe_int))
      (pss_one (ps_expr (pe_bm PySem.F.plainAttrs_list PySem.F.slot_list_append PySem.F.type_list_append mt_append (pv 3) (pa_cons (pe_op Z.op_mod (pe_callTy Z.call_int (by rfl) T.n_int (by decide +kernel) (pa_cons (pe_op Z.op_add (pe_op Z.op_mul (pv 7) pe_int) (pv 6)) pa_nil)) (pe_ix (Z.ix (K := K) rfl) (pv 1) (pv 5) (fun _ _ => rfl))) pa_nil)))))))))
      (pss_one (ps_ret (pv 3))))))), ?_⟩
    try dsimp only [cxOf, Cx.nox, Cx.wish]
    walk_at "go"
    refine Z.w_dec (fun hc => ?_) (fun hc => ?_)
    · walk_at "go"
      rename_i J S p H2 hn he hp
      refine k p H2 (List.replicate sz.length 0) hn he (hp.l (by rw [List.length_map])) ⟨List.length_replicate, fun i hi => ?_⟩
      · rw [List.length_replicate] at hi
        simp only [List.getD_eq_getElem?_getD, List.getElem?_replicate, hi, if_true, Option.getD_some]
        have := (gp i hi).1
        rw [List.getD_eq_getElem?_getD] at this
        exact ⟨Int.le_refl 0, this⟩
    · walk_at "go"
      refine Z.w_dec (fun hd => ?_) (fun hd => ?_)
      · walk_at "go"
        rename_i F H1 hF e1 h1 J S
        refine Z.fg S (fun i σ H' => ∃ (left : Int) (ds : List Int) (v : Option V), σ = [some (.int c), some (.ref l), some (.int left), some (.ref F), v, none, none, none] ∧ Ex H H' ∧ At H' F (.lst (ds.map V.int)) ∧ ds.length = i ∧ ∀ k, k < ds.length → 0 ≤ ds.getD k 0 ∧ ds.getD k 0 < sz.getD k 0)
          ⟨_, [], none, rfl, e1, h1, rfl, fun k hk => absurd hk (by simp)⟩ (fun i σ' H' _ ⟨_, _, _, _, e, _⟩ => by walk_at "fl") ?_ ?_
        · rintro i x σ' H' H'' hi ⟨left, ds, v, rfl, e, hds, hlen, hall⟩ e2 hx
          rw [List.length_map] at hi
          rw [List.getElem?_map, List.getElem?_eq_getElem hi] at hx
          obtain rfl := (Option.some.inj hx).symm
          have g0 := gp i hi
          have ei : sz.getD i 0 = sz[i] := by rw [List.getD_eq_getElem?_getD, List.getElem?_eq_getElem hi]; rfl
          rw [ei] at g0
          have hds2 := e2.get hds
          have hdv : CDivW left sz[i] := wide_div (b := 250) g0.1 (by have := g0.2; have := g0.1; omega) (by decide) (by decide)
          walk_at "go"
          rename_i H2 hp2 hnl2 ho2 hke
          refine ⟨_, ds ++ [left % sz[i]], some _, rfl, hke, hp2.l (by rw [List.map_append]; rfl), by simp [hlen], dr_snoc (by omega) hall (Int.emod_nonneg _ (by omega)) ?_⟩
          rw [hlen, ei]
          exact Int.emod_lt_of_pos _ g0.1
        · rintro σ' H' ⟨left, ds, v, rfl, e, hds, hlen, hall⟩
          walk_at "go"
          exact k F H' ds hF e hds ⟨by simpa using hlen, hall⟩
      · walk_at "go"
        rename_i F H1 hF e1 h1 J S
        refine Z.fg S (fun i σ H' => ∃ (ds : List Int) (v5 v6 v7 : Option V), σ = [some (.int c), some (.ref l), none, some (.ref F), none, v5, v6, v7] ∧ Ex H H' ∧ At H' F (.lst (ds.map V.int)) ∧ ds.length = i ∧ ∀ k, k < ds.length → 0 ≤ ds.getD k 0 ∧ ds.getD k 0 < sz.getD k 0)
          ⟨[], none, none, none, rfl, e1, h1, rfl, fun k hk => absurd hk (by simp)⟩ (fun i σ' H' _ _ => trivial) ?_ ?_
        · rintro i x σ' H' H'' hi ⟨ds, v5, v6, v7, rfl, e, hds, hlen, hall⟩ e2 rfl
          have hi' : i < sz.length := by simpa using hi
          have g0 := gp i hi'
          have hds2 := e2.get hds
          have g1 : 0 < sz.getD (Int.toNat (i : Int)) 0 := by rw [Int.toNat_natCast]; exact g0.1
          walk_at "go"
          rename_i H2 hp2 hnl2 ho2 hke
          refine ⟨ds ++ [_], some _, some _, some _, rfl, hke, hp2.l (by rw [List.map_append]; rfl), by simp [hlen], dr_snoc (by omega) hall (Int.emod_nonneg _ (by omega)) ?_⟩
          rw [hlen]
          exact Int.emod_lt_of_pos _ g1
        · rintro σ' H' ⟨ds, v5, v6, v7, rfl, e, hds, hlen, hall⟩
          walk_at "go"
          exact k F H' ds hF e hds ⟨by simpa using hlen, hall⟩
theorem u_draws {H : Hp} {Q : VK} {E : XK} {l : Addr} {sz : List Int} {c : Int} (h : SqL K H l (sz.map V.int)) (hz : sz.length ≤ 100000 ∧ ∀ z ∈ sz, 0 < z ∧ z < 2 ^ 250) (k : ∀ (p : Addr) (H' : Hp) (ds : List Int), Fr H p → Ex H H' → At H' p (.lst (ds.map V.int)) → Dr sz ds → Q (.ref p) H') : sp__law_draws K [.int c, .ref l] H Q E :=
  ⟨c, l, sz, rfl, h, hz.1, hz.2, k⟩
theorem Dr.all {n : Nat} {c : Int} {ds : List Int} (h : Dr (List.replicate n c) ds) : ds.length = n ∧ ∀ x ∈ ds, 0 ≤ x ∧ x < c := by
  have hl : ds.length = n := by rw [h.1, List.length_replicate]
  refine ⟨hl, fun x hx => ?_⟩
  obtain ⟨i, hi, rfl⟩ := List.mem_iff_getElem.mp hx
  have q := h.2 i hi
  rw [getD_get _ _ _ hi, List.getD_eq_getElem?_getD, List.getElem?_replicate, if_pos (by omega)] at q
  exact q
/-- the bounds one by one -/
def Bs : List Int → List Int → Nat → Prop
  | [], _, _ => True
  | z :: r, ds, k => (0 ≤ ds.getD k 0 ∧ ds.getD k 0 < z) ∧ Bs r ds (k + 1)
theorem bs_of : ∀ (sz ds : List Int) (k : Nat), (∀ i, i < sz.length → 0 ≤ ds.getD (k + i) 0 ∧ ds.getD (k + i) 0 < sz.getD i 0) → Bs sz ds k
  | [], _, _, _ => trivial
  | z :: r, ds, k, h => ⟨by have := h 0 (by simp); simpa using this, bs_of r ds (k + 1) fun i hi => by
      have := h (i + 1) (by simpa using hi)
      rw [show k + 1 + i = k + (i + 1) by omega]
      simpa using this⟩
theorem Dr.bnd {sz ds : List Int} (h : Dr sz ds) : ds.length = sz.length ∧ Bs sz ds 0 := ⟨h.1, bs_of sz ds 0 fun i hi => by rw [Nat.zero_add]; exact h.2 i (by rw [h.1]; exact hi)⟩
theorem Dr.drop {sz ds : List Int} {j : Nat} {c : Int} (h : Dr sz ds) (hz : ∀ z ∈ sz.drop j, z ≤ c) : ∀ x ∈ ds.drop j, 0 ≤ x ∧ x < c := fun x hx => by
  obtain ⟨i, hi, rfl⟩ := List.mem_iff_getElem.mp hx
  have h1 : j + i < ds.length := by rw [List.length_drop] at hi; omega
  have h2 : j + i < sz.length := by rw [← h.1]; exact h1
  have q := h.2 (j + i) h1
  rw [getD_get _ _ _ h1, getD_get _ _ _ h2] at q
  have h3 : i < (sz.drop j).length := by rw [List.length_drop]; omega
  have := hz (sz.drop j)[i] (List.getElem_mem h3)
  rw [List.getElem_drop] at this ⊢
  omega
theorem Dr.whole {sz ds : List Int} {c : Int} (h : Dr sz ds) (hz : ∀ z ∈ sz, z ≤ c) : ∀ x ∈ ds, 0 ≤ x ∧ x < c := h.drop (j := 0) hz
local macro_rules | `(tactic| walk_at "call") => `(tactic| ((with_reducible apply R.u_draws); (walk_at "fi"); (first | decide | with_reducible assumption); (intro p H2 ds hn he hp hd); (try dsimp only at hd); (try (have hb := R.Dr.bnd hd; simp only [R.Bs, List.length_cons, List.length_nil, Nat.reduceAdd, and_true] at hb))))

def sp__law_wide (K : PySem.W.Frag) : Sp := fun vs H Q _ => ∃ (a : Addr) (ds : List Int), vs = [.ref a] ∧ SqL K H a (ds.map V.int) ∧ ds.length ≤ 50 ∧ (∀ x ∈ ds, 0 ≤ x ∧ x < 1000000000000000) ∧ ∀ H' (z : Int), Ex H H' → 0 ≤ z → z < 10 ^ (15 * ds.length) → Q (.int z) H'
theorem ok__law_wide (T : Tx K mg) : FnOk P w K mg base (L2.CX P w) 1 (He.ga K "_law_wide") (Z.fdOf K (He.ga K "_law_wide")) ["_law_parts"] (sp__law_wide K) := by
  refine T.F__law_wide.ok sc__law_wide (fun vs H Q E h => ?_) (fun cdv A outer s H vs Q E hr h => ?_)
  · obtain ⟨a, ds, rfl, _⟩ := h
    rfl
  · obtain ⟨a, ds, rfl, ha, hl, hx, k⟩ := h
    refine ⟨_, PSs.nox (pss_cons (ps_set (i := 1) sc__law_wide.nd rfl (Or.inl rfl) pe_int)
      (pss_cons (ps_for PassesOwn.never rfl (Z.piL (K := K) rfl (pv 0)) (pg_name (i := 2) sc__law_wide.nd rfl (by first | exact Or.inl rfl | exact Or.inr rfl)) (pss_one (ps_set (i := 1) sc__law_wide.nd rfl (Or.inl rfl) (pe_op Z.op_add (pe_op Z.op_mul (pv 1) (pe_op op_pow pe_int pe_int)) (pv 2)))))
      (pss_one (ps_ret (pv 1))))), ?_⟩
    try dsimp only [cxOf, Cx.nox, Cx.wish]
    walk_at "go"
    refine Z.fg (by assumption) (fun i σ G => ∃ (z : Int) (v : Option V), σ = [some (.ref a), some (.int z), v] ∧ Ex H G ∧ 0 ≤ z ∧ z < 10 ^ (15 * i)) ⟨0, none, rfl, Ex.refl _, by decide, by decide⟩ (fun i σ' G _ ⟨_, _, _, e, _⟩ => by walk_at "fl") ?_ ?_
    · rintro i x σ' G G2 hi ⟨z, v, rfl, e, h0, h1⟩ e2 y
      obtain ⟨h2, rfl⟩ := get_int y
      have hb := hx (ds.getD i 0) (by rw [getD_get _ _ _ h2]; exact List.getElem_mem h2)
      walk_at "go"
      refine ⟨_, _, rfl, e.trans e2, by omega, ?_⟩
      have e3 : (10 : Int) ^ (15 * (i + 1)) = 10 ^ (15 * i) * 1000000000000000 := by rw [Nat.mul_add, Int.pow_add]; rfl
      rw [e3]
      generalize (10 : Int) ^ (15 * i) = t at *
      omega
    · rintro σ' G ⟨z, v, rfl, e, h0, h1⟩
      walk_at "go"
      rw [List.length_map] at h1
      exact k _ _ e h0 h1
theorem u_wide {H : Hp} {Q : VK} {E : XK} {a : Addr} {ds : List Int} (h : SqL K H a (ds.map V.int)) (hl : ds.length ≤ 50) (hx : ∀ x ∈ ds, 0 ≤ x ∧ x < 1000000000000000) (k : ∀ H' (z : Int), Ex H H' → 0 ≤ z → z < 10 ^ (15 * ds.length) → Q (.int z) H') : sp__law_wide K [.ref a] H Q E := ⟨a, ds, rfl, h, hl, hx, k⟩
theorem u_wide4 {H : Hp} {Q : VK} {E : XK} {a : Addr} {ds : List Int} (h : SqL K H a (ds.map V.int)) (hl : ds.length ≤ 4) (hx : ∀ x ∈ ds, 0 ≤ x ∧ x < 1000000000000000) (k : ∀ H' (z : Int), Ex H H' → 0 ≤ z → z < 1000000000000000000000000000000000000000000000000000000000000 → Q (.int z) H') : sp__law_wide K [.ref a] H Q E :=
  ⟨a, ds, rfl, h, by omega, hx, fun H' z e h0 h1 => k H' z e h0 (Int.lt_of_lt_of_le h1 (by
    have e1 : (1000000000000000000000000000000000000000000000000000000000000 : Int) = 10 ^ 60 := by decide
    rw [e1]
    have := Nat.pow_le_pow_right (show 0 < 10 by decide) (show 15 * ds.length ≤ 60 by omega)
    exact_mod_cast this))⟩
local macro_rules | `(tactic| walk_at "call") => `(tactic| ((with_reducible apply R.u_wide4); (walk_at "fl"); (walk_at "num"); (first | with_reducible assumption | (exact R.Dr.drop (by assumption) (by decide)) | (exact R.Dr.whole (by assumption) (by decide))); (intro H2 z he hz0 hz1)))

/-- x < y, x <= y, x > y, x >= y -/
def four (q r : Rat) : List V := [.bl (decide (q < r)), .bl (decide (q ≤ r)), .bl (decide (r < q)), .bl (decide (r ≤ q))]
def sp__law_told (K : PySem.W.Frag) : Sp := fun vs H Q _ => ∃ (u v : V) (q r : Rat) (n m : Nat), vs = [u, v] ∧ (((∃ a, u = .ref a ∧ RN (He.ga K "Ratio") H a q n) ∧ RZ (He.ga K "Ratio") H v r m) ∨ ((∃ i : Int, u = .int i ∧ q = (i : Rat) ∧ i.natAbs < 2 ^ n) ∧ ∃ b, v = .ref b ∧ RN (He.ga K "Ratio") H b r m)) ∧ n ≤ 5000 ∧ m ≤ 5000 ∧
  ∀ p H', Fr H p → Ex H H' → At H' p (.lst (four q r)) → Q (.ref p) H'
theorem ok__law_told (T : Tx K mg) : FnOk P w K mg base (L2.CX P w) 2 (He.ga K "_law_told") (Z.fdOf K (He.ga K "_law_told")) ["_law_x", "_law_y"] (sp__law_told K) := by
  refine T.F__law_told.ok sc__law_told (fun vs H Q E h => ?_) (fun cdv A outer s H vs Q E hr h => ?_)
  · obtain ⟨u, v, q, r, n, m, rfl, _⟩ := h
    rfl
  · obtain ⟨u, v, q, r, n, m, rfl, h, hn, hm, k⟩ := h
    rcases h with ⟨⟨a, rfl, ha⟩, hv⟩ | ⟨⟨i, rfl, rfl, hi⟩, b, rfl, hb⟩
    · cases hv with
      | @int i _ hi =>
        refine ⟨_, PSs.nox (pss_one (ps_ret (pe_lst (pa_cons (pe_cmpR (OpR.or (Z.cmp_OO (fun _ _ => rfl) T.o_Ratio T.me_Ratio___lt__.at_ T.me_Ratio___lt__.fn (Z.rawOk (ok_Ratio___lt__ T) T.b_Ratio___lt__) (hr.mono (by decide)) passL) (OpR.or (Z.cmp_OI (fun _ _ => rfl) T.o_Ratio T.me_Ratio___lt__.at_ T.me_Ratio___lt__.fn (Z.rawOk (ok_Ratio___lt__ T) T.b_Ratio___lt__) (hr.mono (by decide)) passL) (OpR.or (Z.cmp_IO_lt T.o_Ratio T.me_Ratio___gt__.at_ T.me_Ratio___gt__.fn (Z.rawOk (ok_Ratio___gt__ T) T.b_Ratio___gt__) (hr.mono (by decide)) passL) Z.op_lt))) (pv 0) (pv 1) (nomark _)) (pa_cons (pe_cmpR (OpR.or (Z.cmp_OO (fun _ _ => rfl) T.o_Ratio T.me_Ratio___le__.at_ T.me_Ratio___le__.fn (Z.rawOk (ok_Ratio___le__ T) T.b_Ratio___le__) (hr.mono (by decide)) passL) (OpR.or (Z.cmp_OI (fun _ _ => rfl) T.o_Ratio T.me_Ratio___le__.at_ T.me_Ratio___le__.fn (Z.rawOk (ok_Ratio___le__ T) T.b_Ratio___le__) (hr.mono (by decide)) passL) (OpR.or (Z.cmp_IO_le T.o_Ratio T.me_Ratio___ge__.at_ T.me_Ratio___ge__.fn (Z.rawOk (ok_Ratio___ge__ T) T.b_Ratio___ge__) (hr.mono (by decide)) passL) Z.op_le))) (pv 0) (pv 1) (nomark _)) (pa_cons (pe_cmpR (OpR.or (Z.cmp_OO (fun _ _ => rfl) T.o_Ratio T.me_Ratio___gt__.at_ T.me_Ratio___gt__.fn (Z.rawOk (ok_Ratio___gt__ T) T.b_Ratio___gt__) (hr.mono (by decide)) passL) (OpR.or (Z.cmp_OI (fun _ _ => rfl) T.o_Ratio T.me_Ratio___gt__.at_ T.me_Ratio___gt__.fn (Z.rawOk (ok_Ratio___gt__ T) T.b_Ratio___gt__) (hr.mono (by decide)) passL) (OpR.or (Z.cmp_IO_gt T.o_Ratio T.me_Ratio___lt__.at_ T.me_Ratio___lt__.fn (Z.rawOk (ok_Ratio___lt__ T) T.b_Ratio___lt__) (hr.mono (by decide)) passL) Z.op_gt))) (pv 0) (pv 1) (nomark _)) (pa_cons (pe_cmpR (OpR.or (Z.cmp_OO (fun _ _ => rfl) T.o_Ratio T.me_Ratio___ge__.at_ T.me_Ratio___ge__.fn (Z.rawOk (ok_Ratio___ge__ T) T.b_Ratio___ge__) (hr.mono (by decide)) passL) (OpR.or (Z.cmp_OI (fun _ _ => rfl) T.o_Ratio T.me_Ratio___ge__.at_ T.me_Ratio___ge__.fn (Z.rawOk (ok_Ratio___ge__ T) T.b_Ratio___ge__) (hr.mono (by decide)) passL) (OpR.or (Z.cmp_IO_ge T.o_Ratio T.me_Ratio___le__.at_ T.me_Ratio___le__.fn (Z.rawOk (ok_Ratio___le__ T) T.b_Ratio___le__) (hr.mono (by decide)) passL) Z.op_ge))) (pv 0) (pv 1) (nomark _)) pa_nil))))))), ?_⟩
        try dsimp only [cxOf, Cx.nox, Cx.wish]
        walk_at "go"
        rename_i p H2 hn2 he2 hp2
        exact k p H2 hn2 he2 hp2
      | @rat b r _ hb =>
        refine ⟨_, PSs.nox (pss_one (ps_ret (pe_lst (pa_cons (pe_cmpR (OpR.or (Z.cmp_OO (fun _ _ => rfl) T.o_Ratio T.me_Ratio___lt__.at_ T.me_Ratio___lt__.fn (Z.rawOk (ok_Ratio___lt__ T) T.b_Ratio___lt__) (hr.mono (by decide)) passL) (OpR.or (Z.cmp_OI (fun _ _ => rfl) T.o_Ratio T.me_Ratio___lt__.at_ T.me_Ratio___lt__.fn (Z.rawOk (ok_Ratio___lt__ T) T.b_Ratio___lt__) (hr.mono (by decide)) passL) (OpR.or (Z.cmp_IO_lt T.o_Ratio T.me_Ratio___gt__.at_ T.me_Ratio___gt__.fn (Z.rawOk (ok_Ratio___gt__ T) T.b_Ratio___gt__) (hr.mono (by decide)) passL) Z.op_lt))) (pv 0) (pv 1) (nomark _)) (pa_cons (pe_cmpR (OpR.or (Z.cmp_OO (fun _ _ => rfl) T.o_Ratio T.me_Ratio___le__.at_ T.me_Ratio___le__.fn (Z.rawOk (ok_Ratio___le__ T) T.b_Ratio___le__) (hr.mono (by decide)) passL) (OpR.or (Z.cmp_OI (fun _ _ => rfl) T.o_Ratio T.me_Ratio___le__.at_ T.me_Ratio___le__.fn (Z.rawOk (ok_Ratio___le__ T) T.b_Ratio___le__) (hr.mono (by decide)) passL) (OpR.or (Z.cmp_IO_le T.o_Ratio T.me_Ratio___ge__.at_ T.me_Ratio___ge__.fn (Z.rawOk (ok_Ratio___ge__ T) T.b_Ratio___ge__) (hr.mono (by decide)) passL) Z.op_le))) (pv 0) (pv 1) (nomark _)) (pa_cons (pe_cmpR (OpR.or (Z.cmp_OO (fun _ _ => rfl) T.o_Ratio T.me_Ratio___gt__.at_ T.me_Ratio___gt__.fn (Z.rawOk (ok_Ratio___gt__ T) T.b_Ratio___gt__) (hr.mono (by decide)) passL) (OpR.or (Z.cmp_OI (fun _ _ => rfl) T.o_Ratio T.me_Ratio___gt__.at_ T.me_Ratio___gt__.fn (Z.rawOk (ok_Ratio___gt__ T) T.b_Ratio___gt__) (hr.mono (by decide)) passL) (OpR.or (Z.cmp_IO_gt T.o_Ratio T.me_Ratio___lt__.at_ T.me_Ratio___lt__.fn (Z.rawOk (ok_Ratio___lt__ T) T.b_Ratio___lt__) (hr.mono (by decide)) passL) Z.op_gt))) (pv 0) (pv 1) (nomark _)) (pa_cons (pe_cmpR (OpR.or (Z.cmp_OO (fun _ _ => rfl) T.o_Ratio T.me_Ratio___ge__.at_ T.me_Ratio___ge__.fn (Z.rawOk (ok_Ratio___ge__ T) T.b_Ratio___ge__) (hr.mono (by decide)) passL) (OpR.or (Z.cmp_OI (fun _ _ => rfl) T.o_Ratio T.me_Ratio___ge__.at_ T.me_Ratio___ge__.fn (Z.rawOk (ok_Ratio___ge__ T) T.b_Ratio___ge__) (hr.mono (by decide)) passL) (OpR.or (Z.cmp_IO_ge T.o_Ratio T.me_Ratio___le__.at_ T.me_Ratio___le__.fn (Z.rawOk (ok_Ratio___le__ T) T.b_Ratio___le__) (hr.mono (by decide)) passL) Z.op_ge))) (pv 0) (pv 1) (nomark _)) pa_nil))))))), ?_⟩
        try dsimp only [cxOf, Cx.nox, Cx.wish]
        walk_at "go"
        rename_i p H2 hn2 he2 hp2
        exact k p H2 hn2 he2 hp2
    · skip
      refine ⟨_, PSs.nox (pss_one (ps_ret (pe_lst (pa_cons (pe_cmpR (OpR.or (Z.cmp_OO (fun _ _ => rfl) T.o_Ratio T.me_Ratio___lt__.at_ T.me_Ratio___lt__.fn (Z.rawOk (ok_Ratio___lt__ T) T.b_Ratio___lt__) (hr.mono (by decide)) passL) (OpR.or (Z.cmp_OI (fun _ _ => rfl) T.o_Ratio T.me_Ratio___lt__.at_ T.me_Ratio___lt__.fn (Z.rawOk (ok_Ratio___lt__ T) T.b_Ratio___lt__) (hr.mono (by decide)) passL) (OpR.or (Z.cmp_IO_lt T.o_Ratio T.me_Ratio___gt__.at_ T.me_Ratio___gt__.fn (Z.rawOk (ok_Ratio___gt__ T) T.b_Ratio___gt__) (hr.mono (by decide)) passL) Z.op_lt))) (pv 0) (pv 1) (nomark _)) (pa_cons (pe_cmpR (OpR.or (Z.cmp_OO (fun _ _ => rfl) T.o_Ratio T.me_Ratio___le__.at_ T.me_Ratio___le__.fn (Z.rawOk (ok_Ratio___le__ T) T.b_Ratio___le__) (hr.mono (by decide)) passL) (OpR.or (Z.cmp_OI (fun _ _ => rfl) T.o_Ratio T.me_Ratio___le__.at_ T.me_Ratio___le__.fn (Z.rawOk (ok_Ratio___le__ T) T.b_Ratio___le__) (hr.mono (by decide)) passL) (OpR.or (Z.cmp_IO_le T.o_Ratio T.me_Ratio___ge__.at_ T.me_Ratio___ge__.fn (Z.rawOk (ok_Ratio___ge__ T) T.b_Ratio___ge__) (hr.mono (by decide)) passL) Z.op_le))) (pv 0) (pv 1) (nomark _)) (pa_cons (pe_cmpR (OpR.or (Z.cmp_OO (fun _ _ => rfl) T.o_Ratio T.me_Ratio___gt__.at_ T.me_Ratio___gt__.fn (Z.rawOk (ok_Ratio___gt__ T) T.b_Ratio___gt__) (hr.mono (by decide)) passL) (OpR.or (Z.cmp_OI (fun _ _ => rfl) T.o_Ratio T.me_Ratio___gt__.at_ T.me_Ratio___gt__.fn (Z.rawOk (ok_Ratio___gt__ T) T.b_Ratio___gt__) (hr.mono (by decide)) passL) (OpR.or (Z.cmp_IO_gt T.o_Ratio T.me_Ratio___lt__.at_ T.me_Ratio___lt__.fn (Z.rawOk (ok_Ratio___lt__ T) T.b_Ratio___lt__) (hr.mono (by decide)) passL) Z.op_gt))) (pv 0) (pv 1) (nomark _)) (pa_cons (pe_cmpR (OpR.or (Z.cmp_OO (fun _ _ => rfl) T.o_Ratio T.me_Ratio___ge__.at_ T.me_Ratio___ge__.fn (Z.rawOk (ok_Ratio___ge__ T) T.b_Ratio___ge__) (hr.mono (by decide)) passL) (OpR.or (Z.cmp_OI (fun _ _ => rfl) T.o_Ratio T.me_Ratio___ge__.at_ T.me_Ratio___ge__.fn (Z.rawOk (ok_Ratio___ge__ T) T.b_Ratio___ge__) (hr.mono (by decide)) passL) (OpR.or (Z.cmp_IO_ge T.o_Ratio T.me_Ratio___le__.at_ T.me_Ratio___le__.fn (Z.rawOk (ok_Ratio___le__ T) T.b_Ratio___le__) (hr.mono (by decide)) passL) Z.op_ge))) (pv 0) (pv 1) (nomark _)) pa_nil))))))), ?_⟩
      try dsimp only [cxOf, Cx.nox, Cx.wish]
      walk_at "go"
      rename_i p H2 hn2 he2 hp2
      exact k p H2 hn2 he2 hp2
theorem u_toldR {H : Hp} {Q : VK} {E : XK} {a : Addr} {v : V} {q r : Rat} {n m : Nat} (ha : RN (He.ga K "Ratio") H a q n) (hv : RZ (He.ga K "Ratio") H v r m) (hn : n ≤ 5000) (hm : m ≤ 5000) (k : ∀ p H', Fr H p → Ex H H' → At H' p (.lst (four q r)) → Q (.ref p) H') : sp__law_told K [.ref a, v] H Q E :=
  ⟨_, _, q, r, n, m, rfl, .inl ⟨⟨a, rfl, ha⟩, hv⟩, hn, hm, k⟩
theorem u_toldI {H : Hp} {Q : VK} {E : XK} {b : Addr} {i : Int} {r : Rat} {n m : Nat} (hi : i.natAbs < 2 ^ n) (hb : RN (He.ga K "Ratio") H b r m) (hn : n ≤ 5000) (hm : m ≤ 5000) (k : ∀ p H', Fr H p → Ex H H' → At H' p (.lst (four (i : Rat) r)) → Q (.ref p) H') : sp__law_told K [.int i, .ref b] H Q E :=
  ⟨_, _, _, r, n, m, rfl, .inr ⟨⟨i, rfl, rfl, hi⟩, b, rfl, hb⟩, hn, hm, k⟩

def sp__law_due (K : PySem.W.Frag) : Sp := fun vs H Q _ => ∃ (pa pb : Addr) (a0 a1 b0 b1 : Int), vs = [.ref pa, .ref pb] ∧ At H pa (.tup [.int a0, .int a1]) ∧ At H pb (.tup [.int b0, .int b1]) ∧ 0 < a1 ∧ 0 < b1 ∧ (a0.natAbs < 2 ^ 300 ∧ a1.natAbs < 2 ^ 300 ∧ b0.natAbs < 2 ^ 300 ∧ b1.natAbs < 2 ^ 300) ∧
  ∀ p H', Fr H p → Ex H H' → At H' p (.lst (four (Rat.divInt a0 a1) (Rat.divInt b0 b1))) → Q (.ref p) H'
theorem ok__law_due (T : Tx K mg) : FnOk P w K mg base (L2.CX P w) 1 (He.ga K "_law_due") (Z.fdOf K (He.ga K "_law_due")) ["_law_a", "_law_b"] (sp__law_due K) := by
  refine T.F__law_due.ok sc__law_due (fun vs H Q E h => ?_) (fun cdv A outer s H vs Q E hr h => ?_)
  · obtain ⟨pa, pb, a0, a1, b0, b1, rfl, _⟩ := h
    rfl
  · obtain ⟨pa, pb, a0, a1, b0, b1, rfl, ha, hb, h1, h2, ⟨s0, s1, s2, s3⟩, k⟩ := h
    refine ⟨_, PSs.nox (pss_cons (ps_set (i := 2) sc__law_due.nd rfl (Or.inl rfl) (pe_op Z.op_mul (pe_ix (Z.ix (K := K) rfl) (pv 0) pe_int (fun _ _ => rfl)) (pe_ix (Z.ix (K := K) rfl) (pv 1) pe_int (fun _ _ => rfl))))
      (pss_cons (ps_set (i := 3) sc__law_due.nd rfl (Or.inl rfl) (pe_op Z.op_mul (pe_ix (Z.ix (K := K) rfl) (pv 1) pe_int (fun _ _ => rfl)) (pe_ix (Z.ix (K := K) rfl) (pv 0) pe_int (fun _ _ => rfl))))
      (pss_one (ps_ret (pe_lst (pa_cons (pe_cmpR Z.op_lt (pv 2) (pv 3) (nomark _)) (pa_cons (pe_cmpR Z.op_le (pv 2) (pv 3) (nomark _)) (pa_cons (pe_cmpR Z.op_gt (pv 2) (pv 3) (nomark _)) (pa_cons (pe_cmpR Z.op_ge (pv 2) (pv 3) (nomark _)) pa_nil))))))))), ?_⟩
    try dsimp only [cxOf, Cx.nox, Cx.wish]
    walk_at "go"
    rename_i p H2 hn2 he2 hp2
    refine k p H2 hn2 he2 ?_
    unfold four
    simp only [div_lt h1 h2, div_le h1 h2, div_lt h2 h1, div_le h2 h1]
    exact hp2
theorem u_due {H : Hp} {Q : VK} {E : XK} {pa pb : Addr} {a0 a1 b0 b1 : Int} (ha : At H pa (.tup [.int a0, .int a1])) (hb : At H pb (.tup [.int b0, .int b1])) (h1 : 0 < a1) (h2 : 0 < b1) (s0 : a0.natAbs < 2 ^ 300) (s1 : a1.natAbs < 2 ^ 300) (s2 : b0.natAbs < 2 ^ 300) (s3 : b1.natAbs < 2 ^ 300) (k : ∀ p H', Fr H p → Ex H H' → At H' p (.lst (four (Rat.divInt a0 a1) (Rat.divInt b0 b1))) → Q (.ref p) H') :
    sp__law_due K [.ref pa, .ref pb] H Q E := ⟨pa, pb, a0, a1, b0, b1, rfl, ha, hb, h1, h2, ⟨s0, s1, s2, s3⟩, k⟩

def sp__law_alike (K : PySem.W.Frag) : Sp := fun vs H Q _ => ∃ (x y : Addr) (q r : Rat), vs = [.ref x, .ref y] ∧ At H x (.lst (four q r)) ∧ At H y (.lst (four q r)) ∧ ∀ H', Ex H H' → Q (.bl true) H'
theorem ok__law_alike (T : Tx K mg) : FnOk P w K mg base (L2.CX P w) 1 (He.ga K "_law_alike") (Z.fdOf K (He.ga K "_law_alike")) ["_law_told_here", "_law_due_here"] (sp__law_alike K) := by
  refine T.F__law_alike.ok sc__law_alike (fun vs H Q E h => ?_) (fun cdv A outer s H vs Q E hr h => ?_)
  · obtain ⟨x, y, q, r, rfl, _⟩ := h
    rfl
  · obtain ⟨x, y, q, r, rfl, hx, hy, k⟩ := h
    unfold four at hx hy
    generalize decide (q < r) = b0, decide (q ≤ r) = b1, decide (r < q) = b2, decide (r ≤ q) = b3 at *
    refine ⟨_, PSs.nox (pss_cons (ps_for PassesOwn.never rfl (pi_range1 (by rfl) T.n_range (pa_cons pe_int pa_nil)) (pg_name (i := 2) sc__law_alike.nd rfl (by first | exact Or.inl rfl | exact Or.inr rfl)) (pss_one (ps_if (PW.pt (pw_or (pt_not (pt_val (pe_callB (Z.call_isi (K := K) rfl) (by rfl) T.n_isinstance (by decide +kernel) (pa_cons (pe_ix (Z.ix (K := K) rfl) (pv 0) (pv 2) (fun _ _ => rfl)) (pa_cons (pe_bltn (v := .ty "bool") (u := .type "bool") (by rfl) T.n_bool (by decide +kernel) rfl) pa_nil))))) (pw_or1 (pt_cmpR (Z.op_ne (K := K) rfl hr.units) (pe_ix (Z.ix (K := K) rfl) (pv 0) (pv 2) (fun _ _ => rfl)) (pe_ix (Z.ix (K := K) rfl) (pv 1) (pv 2) (fun _ _ => rfl)) (nomark _))))) (pss_one (ps_ret pe_bl)) pss_nil)))
      (pss_one (ps_ret pe_bl))), ?_⟩
    try dsimp only [cxOf, Cx.nox, Cx.wish]
    walk_at "go"
    refine Z.fgE 2 (by assumption) rfl (fun G e => trivial) (fun i z G v hi e hz => ?_) (fun v G e => ?_)
    · subst hz
      have hi4 : i < 4 := by simpa using hi
      have hi5 : i = 0 ∨ i = 1 ∨ i = 2 ∨ i = 3 := by omega
      rcases hi5 with rfl | rfl | rfl | rfl <;> (walk_at "run"; exact ⟨⟨_, rfl⟩, by walk_at "ex"⟩)
    · walk_at "go"
      exact k _ e
theorem u_alike {H : Hp} {Q : VK} {E : XK} {x y : Addr} {q r : Rat} (hx : At H x (.lst (four q r))) (hy : At H y (.lst (four q r))) (k : ∀ H', Ex H H' → Q (.bl true) H') : sp__law_alike K [.ref x, .ref y] H Q E := ⟨x, y, q, r, rfl, hx, hy, k⟩

def sp_law (K : PySem.W.Frag) : Sp := fun vs H Q _ => ∃ (a : Addr) (ns : List Int), vs = [.ref a] ∧ SqL K H a (ns.map V.int) ∧ ∀ H', Q (.bl true) H'
def B4 (n : Nat) (ta ba tb bb wh : Int) : Prop := ta.natAbs < 2 ^ 200 ∧ (0 < ba ∧ ba.natAbs < 2 ^ 200) ∧ tb.natAbs < 2 ^ n ∧ (0 < bb ∧ bb.natAbs < 2 ^ n) ∧ wh.natAbs < 2 ^ 202
abbrev S4 (a p2 p5 p7 : Addr) (bd ta ba tb bb wh : Int) (v : Option V) : L2.St := [some (.ref a), some (.ref p2), some (.ref p5), some (.int bd), some (.ref p7), some (.int ta), some (.int ba), some (.int tb), some (.int bb), some (.int wh), v, none, none, none, none, none, none, none]
set_option exponentiation.threshold 500 in
theorem ok_law (T : Tx K mg) : FnOk P w K mg base CX0 4 (He.ga K "law") (Z.fdOf K (He.ga K "law")) ["_law_script"] (sp_law K) := by
  refine T.F_law.ok sc_law (fun vs H Q E h => ?_) (fun cdv A outer s H vs Q E hr h => ?_)
  · obtain ⟨a, ns, rfl, _⟩ := h
    rfl
  · obtain ⟨a, ns, rfl, hS, k⟩ := h
    obtain ⟨ds3_Ratio___init__, vd3_Ratio___init__, bd3_Ratio___init__⟩ := T.b3_Ratio___init__
    refine ⟨_, PSs.nox (pss_cons (ps_set (i := 1) sc_law.nd rfl (Or.inl rfl) (pe_call (ok__law_draws T) (hr.mono (by decide)) (by rfl) T.g__law_draws T.F__law_draws.kp T.b__law_draws .nil passL (pa_cons (pe_call (ok__law_cell T) (hr.mono (by decide)) (by rfl) T.g__law_cell T.F__law_cell.kp T.b__law_cell .nil passL (pa_cons (pv 0) (pa_cons pe_int pa_nil))) (pa_cons (pe_lst (pa_cons pe_int (pa_cons pe_int (pa_cons pe_int (pa_cons pe_int (pa_cons pe_int (pa_cons pe_int (pa_cons pe_int (pa_cons pe_int pa_nil))))))))) pa_nil))))
      (pss_cons (ps_set (i := 2) sc_law.nd rfl (Or.inr rfl) (pe_call (ok__law_draws T) (hr.mono (by decide)) (by rfl) T.g__law_draws T.F__law_draws.kp T.b__law_draws .nil passL (pa_cons (pe_call (ok__law_cell T) (hr.mono (by decide)) (by rfl) T.g__law_cell T.F__law_cell.kp T.b__law_cell .nil passL (pa_cons (pv 0) (pa_cons pe_int pa_nil))) (pa_cons (pe_lc (own := [("_law_k", 17)]) rfl sc_law.nd (pi_range1 (by rfl) T.n_range (pa_cons pe_int pa_nil)) (blkOk_by (N := ["_law_script", "_law_ways", "_law_parts", "_law_bound", "_law_numbers", "_law_top_a", "_law_bottom_a", "_law_top_b", "_law_bottom_b", "_law_whole", "_law_scale", "_law_one", "_law_two", "_law_a", "_law_b", "_law_n", "_law_equal", "_law_k"]) (sc := defScope s_law) (by decide +kernel)) (fun _ _ _ _ _ => (pg_name (i := 17) sc_law.nd rfl (by first | exact Or.inl rfl | exact Or.inr rfl))) (fun _ _ _ _ _ => pts_nil) (fun _ _ _ _ _ => (pe_op op_pow pe_int pe_int))) pa_nil))))
      (pss_cons (ps_set (i := 3) sc_law.nd rfl (Or.inr rfl) (pe_ix (Z.ix (K := K) rfl) (pe_lst (pa_cons pe_int (pa_cons (pe_op op_pow pe_int pe_int) (pa_cons (pe_op op_pow pe_int pe_int) pa_nil)))) (pe_ix (Z.ix (K := K) rfl) (pv 1) pe_int (fun _ _ => rfl)) (fun _ _ => rfl)))
      (pss_cons (ps_setLc (i := 4) (own := [("_law_k", 17)]) rfl sc_law.nd rfl rfl (sw_true rfl rfl rfl (by decide +kernel)) (pi_range1 (by rfl) T.n_range (pa_cons pe_int pa_nil)) (blkOk_by (N := ["_law_script", "_law_ways", "_law_parts", "_law_bound", "_law_numbers", "_law_top_a", "_law_bottom_a", "_law_top_b", "_law_bottom_b", "_law_whole", "_law_scale", "_law_one", "_law_two", "_law_a", "_law_b", "_law_n", "_law_equal", "_law_k"]) (sc := defScope s_law) (by decide +kernel)) (fun _ _ _ _ _ => (pg_name (i := 17) sc_law.nd rfl (by first | exact Or.inl rfl | exact Or.inr rfl))) (fun _ _ _ _ _ => pts_nil) (fun _ _ _ _ _ => (pe_op Z.op_mod (pe_callTy Z.call_int (by rfl) T.n_int (by decide +kernel) (pa_cons (pe_call (ok__law_wide T) (hr.mono (by decide)) (by rfl) T.g__law_wide T.F__law_wide.kp T.b__law_wide .nil passL (pa_cons (pe_slice (Z.slL (K := K) rfl) (pv 2) (po_some (pe_op Z.op_mul pe_int (pv 17))) (po_some (pe_op Z.op_add (pe_op Z.op_mul pe_int (pv 17)) pe_int))) pa_nil)) pa_nil)) (pv 3))))
      (pss_cons (ps_set (i := 5) sc_law.nd rfl (Or.inl rfl) (pe_ix (Z.ix (K := K) rfl) (pv 4) pe_int (fun _ _ => rfl)))
      (pss_cons (ps_set (i := 6) sc_law.nd rfl (Or.inl rfl) (pe_callB (Z.call_max2 rfl) (by rfl) T.n_max (by decide +kernel) (pa_cons pe_int (pa_cons (pe_ix (Z.ix (K := K) rfl) (pv 4) pe_int (fun _ _ => rfl)) pa_nil))))
      (pss_cons (ps_set (i := 7) sc_law.nd rfl (Or.inl rfl) (pe_ix (Z.ix (K := K) rfl) (pv 4) pe_int (fun _ _ => rfl)))
      (pss_cons (ps_set (i := 8) sc_law.nd rfl (Or.inl rfl) (pe_callB (Z.call_max2 rfl) (by rfl) T.n_max (by decide +kernel) (pa_cons pe_int (pa_cons (pe_ix (Z.ix (K := K) rfl) (pv 4) pe_int (fun _ _ => rfl)) pa_nil))))
      (pss_cons (ps_set (i := 9) sc_law.nd rfl (Or.inl rfl) (pe_ix (Z.ix (K := K) rfl) (pv 4) pe_int (fun _ _ => rfl)))
      (C8.pss_cut (ps_if (PW.pt (pw_or (pt_cmpR Z.op_gt (pe_ix (Z.ix (K := K) rfl) (pv 1) pe_int (fun _ _ => rfl)) pe_int (nomark _)) (pw_or1 (pt_cmpR Z.op_gt (pe_ix (Z.ix (K := K) rfl) (pv 1) pe_int (fun _ _ => rfl)) pe_int (nomark _))))) (pss_cons (ps_set (i := 5) sc_law.nd rfl (Or.inl rfl) (pe_op Z.op_mod (pe_callTy Z.call_int (by rfl) T.n_int (by decide +kernel) (pa_cons (pv 5) pa_nil)) (pe_op op_pow pe_int pe_int)))
      (pss_one (ps_set (i := 6) sc_law.nd rfl (Or.inl rfl) (pe_callB (Z.call_max2 rfl) (by rfl) T.n_max (by decide +kernel) (pa_cons pe_int (pa_cons (pe_op Z.op_mod (pe_callTy Z.call_int (by rfl) T.n_int (by decide +kernel) (pa_cons (pv 6) pa_nil)) (pe_op op_pow pe_int pe_int)) pa_nil)))))) pss_nil)
      (C8.pss_cut (ps_if (pt_cmpR Z.op_gt (pe_ix (Z.ix (K := K) rfl) (pv 1) pe_int (fun _ _ => rfl)) pe_int (nomark _)) (pss_one (ps_set (i := 6) sc_law.nd rfl (Or.inl rfl) pe_int)) pss_nil)
      (C8.pss_cut (ps_if (pt_cmpR (Z.op_eq (K := K) rfl hr.units) (pe_ix (Z.ix (K := K) rfl) (pv 1) pe_int (fun _ _ => rfl)) pe_int (nomark _)) (pss_one (ps_set (i := 5) sc_law.nd rfl (Or.inl rfl) (pe_un Z.un_neg (pv 5)))) pss_nil)
      (C8.pss_cut (ps_if (pt_cmpR (Z.op_eq (K := K) rfl hr.units) (pe_ix (Z.ix (K := K) rfl) (pv 1) pe_int (fun _ _ => rfl)) pe_int (nomark _)) (pss_one (ps_set (i := 7) sc_law.nd rfl (Or.inl rfl) (pe_un Z.un_neg (pv 7)))) pss_nil)
      (C8.pss_cut (ps_if (pt_cmpR (Z.op_eq (K := K) rfl hr.units) (pe_ix (Z.ix (K := K) rfl) (pv 1) pe_int (fun _ _ => rfl)) pe_int (nomark _)) (pss_one (ps_set (i := 9) sc_law.nd rfl (Or.inl rfl) (pe_un Z.un_neg (pv 9)))) pss_nil)
      (pss_cons (ps_set (i := 10) sc_law.nd rfl (Or.inl rfl) (pe_op Z.op_add pe_int (pe_ix (Z.ix (K := K) rfl) (pv 1) pe_int (fun _ _ => rfl))))
      (C8.pss_cut (ps_if (pt_cmpR (Z.op_eq (K := K) rfl hr.units) (pe_ix (Z.ix (K := K) rfl) (pv 1) pe_int (fun _ _ => rfl)) pe_int (nomark _)) (pss_one (ps_set (i := 10) sc_law.nd rfl (Or.inl rfl) (pe_op Z.op_add pe_int (pe_op Z.op_mod (pe_callTy Z.call_int (by rfl) T.n_int (by decide +kernel) (pa_cons (pe_ix (Z.ix (K := K) rfl) (pv 4) pe_int (fun _ _ => rfl)) pa_nil)) (pe_op op_pow pe_int pe_int))))) pss_nil)
      (C8.pss_cut (ps_if (pt_cmpR Z.op_gt (pe_ix (Z.ix (K := K) rfl) (pv 1) pe_int (fun _ _ => rfl)) pe_int (nomark _)) (pss_cons (ps_set (i := 7) sc_law.nd rfl (Or.inl rfl) (pe_op Z.op_mul (pv 5) (pv 10)))
      (pss_one (ps_set (i := 8) sc_law.nd rfl (Or.inl rfl) (pe_op Z.op_mul (pv 6) (pv 10))))) pss_nil)
      (C8.pss_cut (ps_if (pt_cmpR (Z.op_eq (K := K) rfl hr.units) (pe_ix (Z.ix (K := K) rfl) (pv 1) pe_int (fun _ _ => rfl)) pe_int (nomark _)) (pss_one (ps_set (i := 7) sc_law.nd rfl (Or.inl rfl) (pe_op Z.op_sub (pe_op Z.op_add (pv 7) (pe_ix (Z.ix (K := K) rfl) (pv 1) pe_int (fun _ _ => rfl))) pe_int))) pss_nil)
      (C8.pss_cut (ps_if (pt_cmpR (Z.op_eq (K := K) rfl hr.units) (pe_ix (Z.ix (K := K) rfl) (pv 1) pe_int (fun _ _ => rfl)) pe_int (nomark _)) (pss_one (ps_set (i := 7) sc_law.nd rfl (Or.inl rfl) (pe_un Z.un_neg (pv 7)))) pss_nil)
      (C8.pss_cut (ps_if (pt_cmpR Z.op_gt (pe_ix (Z.ix (K := K) rfl) (pv 1) pe_int (fun _ _ => rfl)) pe_int (nomark _)) (pss_one (ps_set (i := 9) sc_law.nd rfl (Or.inl rfl) (pe_op Z.op_fdiv (pv 5) (pv 6)))) pss_nil)
      (C8.pss_cut (ps_if (pt_cmpR (Z.op_eq (K := K) rfl hr.units) (pe_ix (Z.ix (K := K) rfl) (pv 1) pe_int (fun _ _ => rfl)) pe_int (nomark _)) (pss_one (ps_set (i := 9) sc_law.nd rfl (Or.inl rfl) (pe_op Z.op_add (pv 9) pe_int))) pss_nil)
      (pss_cons (ps_set (i := 11) sc_law.nd rfl (Or.inl rfl) (pe_make T.mk_Ratio (ok_Ratio___init__ T) (hr.mono (by decide)) (by rfl) T.g_Ratio bd3_Ratio___init__ vd3_Ratio___init__ passL (pa_cons (pv 5) (pa_cons (pv 6) pa_nil))))
      (pss_cons (ps_set (i := 12) sc_law.nd rfl (Or.inl rfl) (pe_make T.mk_Ratio (ok_Ratio___init__ T) (hr.mono (by decide)) (by rfl) T.g_Ratio bd3_Ratio___init__ vd3_Ratio___init__ passL (pa_cons (pv 7) (pa_cons (pv 8) pa_nil))))
      (pss_cons (ps_set (i := 13) sc_law.nd rfl (Or.inl rfl) (pe_tup (pa_cons (pv 5) (pa_cons (pv 6) pa_nil))))
      (pss_cons (ps_set (i := 14) sc_law.nd rfl (Or.inl rfl) (pe_tup (pa_cons (pv 7) (pa_cons (pv 8) pa_nil))))
      (pss_cons (ps_set (i := 15) sc_law.nd rfl (Or.inl rfl) (pe_tup (pa_cons (pv 9) (pa_cons pe_int pa_nil))))
      (pss_cons (ps_if (PW.pt (pw_or (pt_not (pt_val (pe_call (ok__law_alike T) (hr.mono (by decide)) (by rfl) T.g__law_alike T.F__law_alike.kp T.b__law_alike .nil passL (pa_cons (pe_call (ok__law_told T) (hr.mono (by decide)) (by rfl) T.g__law_told T.F__law_told.kp T.b__law_told .nil passL (pa_cons (pv 11) (pa_cons (pv 12) pa_nil))) (pa_cons (pe_call (ok__law_due T) (hr.mono (by decide)) (by rfl) T.g__law_due T.F__law_due.kp T.b__law_due .nil passL (pa_cons (pv 13) (pa_cons (pv 14) pa_nil))) pa_nil))))) (pw_or1 (pt_not (pt_val (pe_call (ok__law_alike T) (hr.mono (by decide)) (by rfl) T.g__law_alike T.F__law_alike.kp T.b__law_alike .nil passL (pa_cons (pe_call (ok__law_told T) (hr.mono (by decide)) (by rfl) T.g__law_told T.F__law_told.kp T.b__law_told .nil passL (pa_cons (pv 12) (pa_cons (pv 11) pa_nil))) (pa_cons (pe_call (ok__law_due T) (hr.mono (by decide)) (by rfl) T.g__law_due T.F__law_due.kp T.b__law_due .nil passL (pa_cons (pv 14) (pa_cons (pv 13) pa_nil))) pa_nil)))))))) (pss_one (ps_ret pe_bl)) pss_nil)
      (pss_cons (ps_if (PW.pt (pw_or (pt_not (pt_val (pe_call (ok__law_alike T) (hr.mono (by decide)) (by rfl) T.g__law_alike T.F__law_alike.kp T.b__law_alike .nil passL (pa_cons (pe_call (ok__law_told T) (hr.mono (by decide)) (by rfl) T.g__law_told T.F__law_told.kp T.b__law_told .nil passL (pa_cons (pv 11) (pa_cons (pv 9) pa_nil))) (pa_cons (pe_call (ok__law_due T) (hr.mono (by decide)) (by rfl) T.g__law_due T.F__law_due.kp T.b__law_due .nil passL (pa_cons (pv 13) (pa_cons (pv 15) pa_nil))) pa_nil))))) (pw_or1 (pt_not (pt_val (pe_call (ok__law_alike T) (hr.mono (by decide)) (by rfl) T.g__law_alike T.F__law_alike.kp T.b__law_alike .nil passL (pa_cons (pe_call (ok__law_told T) (hr.mono (by decide)) (by rfl) T.g__law_told T.F__law_told.kp T.b__law_told .nil passL (pa_cons (pv 9) (pa_cons (pv 11) pa_nil))) (pa_cons (pe_call (ok__law_due T) (hr.mono (by decide)) (by rfl) T.g__law_due T.F__law_due.kp T.b__law_due .nil passL (pa_cons (pv 15) (pa_cons (pv 13) pa_nil))) pa_nil)))))))) (pss_one (ps_ret pe_bl)) pss_nil)
      (pss_cons (ps_if (PW.pt (pw_or (pt_not (pt_val (pe_call (ok__law_alike T) (hr.mono (by decide)) (by rfl) T.g__law_alike T.F__law_alike.kp T.b__law_alike .nil passL (pa_cons (pe_call (ok__law_told T) (hr.mono (by decide)) (by rfl) T.g__law_told T.F__law_told.kp T.b__law_told .nil passL (pa_cons (pv 11) (pa_cons (pv 11) pa_nil))) (pa_cons (pe_call (ok__law_due T) (hr.mono (by decide)) (by rfl) T.g__law_due T.F__law_due.kp T.b__law_due .nil passL (pa_cons (pv 13) (pa_cons (pv 13) pa_nil))) pa_nil))))) (pw_or1 (pt_not (pt_val (pe_call (ok__law_alike T) (hr.mono (by decide)) (by rfl) T.g__law_alike T.F__law_alike.kp T.b__law_alike .nil passL (pa_cons (pe_call (ok__law_told T) (hr.mono (by decide)) (by rfl) T.g__law_told T.F__law_told.kp T.b__law_told .nil passL (pa_cons (pv 12) (pa_cons (pv 9) pa_nil))) (pa_cons (pe_call (ok__law_due T) (hr.mono (by decide)) (by rfl) T.g__law_due T.F__law_due.kp T.b__law_due .nil passL (pa_cons (pv 14) (pa_cons (pv 15) pa_nil))) pa_nil)))))))) (pss_one (ps_ret pe_bl)) pss_nil)
      (pss_cons (ps_set (i := 16) sc_law.nd rfl (Or.inl rfl) (pe_cmpR (Z.op_eq (K := K) rfl hr.units) (pe_op Z.op_mul (pv 5) (pv 8)) (pe_op Z.op_mul (pv 7) (pv 6)) (nomark _)))
      (pss_cons (ps_if (PW.pt (pw_or (pt_cmpR (Z.op_ne (K := K) rfl hr.units) (pe_cmpR op_isBl (pe_cmpR (Z.cmp_OO (fun _ _ => rfl) T.o_Ratio T.me_Ratio___eq__.at_ T.me_Ratio___eq__.fn (Z.rawOk (ok_Ratio___eq__ T) T.b_Ratio___eq__) (hr.mono (by decide)) passL) (pv 11) (pv 12) (nomark _)) pe_bl (nomark _)) (pv 16) (nomark _)) (pw_or (pt_cmpR (Z.op_ne (K := K) rfl hr.units) (pe_cmpR op_isBl (pe_cmpR (Z.cmp_OO (fun _ _ => rfl) T.o_Ratio T.me_Ratio___eq__.at_ T.me_Ratio___eq__.fn (Z.rawOk (ok_Ratio___eq__ T) T.b_Ratio___eq__) (hr.mono (by decide)) passL) (pv 12) (pv 11) (nomark _)) pe_bl (nomark _)) (pv 16) (nomark _)) (pw_or1 (pt_cmpR op_notBl (pe_cmpR (Z.cmp_OO (fun _ _ => rfl) T.o_Ratio T.me_Ratio___eq__.at_ T.me_Ratio___eq__.fn (Z.rawOk (ok_Ratio___eq__ T) T.b_Ratio___eq__) (hr.mono (by decide)) passL) (pv 11) (pv 11) (nomark _)) pe_bl (nomark _)))))) (pss_one (ps_ret pe_bl)) pss_nil)
      (pss_cons (ps_if (PW.pt (pw_or (pt_cmpR op_isBl (pe_cmpR (Z.cmp_OI (fun _ _ => rfl) T.o_Ratio T.me_Ratio___eq__.at_ T.me_Ratio___eq__.fn (Z.rawOk (ok_Ratio___eq__ T) T.b_Ratio___eq__) (hr.mono (by decide)) passL) (pv 11) (pv 9) (nomark _)) pe_bl (nomark _)) (pw_or1 (pt_cmpR op_isBl (pe_cmpR (Z.cmp_IO_eq T.o_Ratio T.me_Ratio___eq__.at_ T.me_Ratio___eq__.fn (Z.rawOk (ok_Ratio___eq__ T) T.b_Ratio___eq__) (hr.mono (by decide)) passL) (pv 9) (pv 11) (nomark _)) pe_bl (nomark _))))) (pss_one (ps_ret pe_bl)) pss_nil)
      (pss_one (ps_ret (pe_and (pe_cmpR (Z.op_eq (K := K) rfl hr.units) (pe_callTy (Z.call_boolO T.me_Ratio___bool__.at_ T.me_Ratio___bool__.fn (Z.rawOk (ok_Ratio___bool__ T) T.b_Ratio___bool__) (hr.mono (by decide)) passL) (by rfl) T.n_bool (by decide +kernel) (pa_cons (pv 11) pa_nil)) (pe_cmpR (Z.op_ne (K := K) rfl hr.units) (pv 5) pe_int (nomark _)) (nomark _)) (pe_one (pe_cmpR (Z.op_eq (K := K) rfl hr.units) (pe_callTy (Z.call_boolO T.me_Ratio___bool__.at_ T.me_Ratio___bool__.fn (Z.rawOk (ok_Ratio___bool__ T) T.b_Ratio___bool__) (hr.mono (by decide)) passL) (by rfl) T.n_bool (by decide +kernel) (pa_cons (pv 12) pa_nil)) (pe_cmpR (Z.op_ne (K := K) rfl hr.units) (pv 7) pe_int (nomark _)) (nomark _)))))))))))))))))))))))))))))))))))))), ?_⟩
    try dsimp only [cxOf, Cx.nox, Cx.wish]
    walk_at "go"
    rename_i c0 p1 H1 hn1 he1 hp1 p2 H2 ds hn2 he2 hp2 hd hb c1 J0 S0 p4 H4 hn4 he4 hp4 p5 H5 es hn5 he5 hp5 hd5 p6 H6 hn6 he6 hp6 J6 S6
    obtain ⟨hl5, hes⟩ := hd5.all
    have hbd : ∃ bd : Int, ([10, 1000000000, 1000000000000000000000000000000000000000000000000000000000000] : List Int).getD (ds.getD 1 0).toNat 0 = bd ∧ 0 < bd ∧ bd ≤ 1000000000000000000000000000000000000000000000000000000000000 := by
      have : ds.getD 1 0 = 0 ∨ ds.getD 1 0 = 1 ∨ ds.getD 1 0 = 2 := by omega
      rcases this with e | e | e <;> rw [e] <;> exact ⟨_, rfl, by decide, by decide⟩
    obtain ⟨bd, ebd, hbd0, hbd1⟩ := hbd
    rw [ebd]
    refine Z.cgX (by assumption) (fun i acc _ => ∃ zs : List Int, acc = zs.map V.int ∧ ∀ x ∈ zs, 0 ≤ x ∧ x < bd) (fun _ _ => ⟨[], rfl, fun x hx => by cases hx⟩) (fun _ _ _ _ h _ => h) (fun _ _ => trivial) (by walk_at "sz") (fun Dl i x H' acc hi ec c hl hP y => ?_) (fun p7 H7 acc hn7 he7 hp7 hl7 hP => ?_) rfl
    · subst y
      obtain ⟨zs, rfl, hzs⟩ := hP
      have hi' : i < 5 := by simpa using hi
      walk_at "go"
      rename_i p8 H8 hn8 he8 hp8
      refine u_wide (sq_of hp8) (by rw [List.length_take]; omega) (fun x hx => hes x (List.mem_of_mem_drop (List.mem_of_mem_take hx))) fun H9 z he9 hz0 hz1 => ?_
      walk_at "go"
      refine Z.elx c hl (by simp at hl; show _ < 16777216; simp; omega) (by walk_at "ex") fun H5 _ => ⟨zs ++ [z % bd], by simp, fun x hx => ?_⟩
      rcases List.mem_append.mp hx with hx | hx
      · exact hzs x hx
      · rw [List.mem_singleton] at hx
        subst hx
        exact ⟨Int.emod_nonneg _ (by omega), Int.emod_lt_of_pos _ hbd0⟩
    obtain ⟨zs, rfl, hzs⟩ := hP
    have hzl : zs.length = 5 := by simpa using hl7
    have hz : ∀ i, i < 5 → 0 ≤ zs.getD i 0 ∧ zs.getD i 0 < 1000000000000000000000000000000000000000000000000000000000000 := fun i hi => by
      have q := hzs (zs.getD i 0) (by rw [getD_get _ _ _ (by omega)]; exact List.getElem_mem _)
      exact ⟨q.1, Int.lt_of_lt_of_le q.2 hbd1⟩
    have z0 := hz 0 (by decide)
    have z1 := hz 1 (by decide)
    have z2 := hz 2 (by decide)
    have z3 := hz 3 (by decide)
    have z4 := hz 4 (by decide)
    clear hd hd5 S0
    walk_at "go"
    have B0 : B4 200 (zs.getD 0 0) (max 1 (zs.getD 1 0)) (zs.getD 2 0) (max 1 (zs.getD 3 0)) (zs.getD 4 0) := by unfold B4; omega
    generalize zs.getD 0 0 = ta, max 1 (zs.getD 1 0) = ba, max 1 (zs.getD 3 0) = bb, zs.getD 4 0 = wh at *
    generalize htb : zs.getD 2 0 = tb at B0 ⊢
    clear hS hn1 he1 hp1 hn2 he2 hn4 hp4 hn5 hp5 hn6 hp6 S6 hzs hl7 hz z0 z1 z3 z4 hes hl5 ebd hbd0 hbd1
    refine Z.w_cut (fun σ G' => ∃ ta ba tb bb wh : Int, B4 200 ta ba tb bb wh ∧ G' = H7 ∧ σ = S4 a p2 p5 p7 bd ta ba tb bb wh none) ?_ ?_
    · walk_at "go"
      refine Z.w_dec (fun hc => ?_) (fun hc => ?_)
      · walk_at "go"
        exact ⟨_, _, _, _, _, by unfold B4 at *; omega, rfl, rfl⟩
      · walk_at "go"
        refine Z.w_dec (fun hc => ?_) (fun hc => ?_) <;> (walk_at "go"; exact ⟨_, _, _, _, _, by unfold B4 at *; omega, rfl, rfl⟩)
    clear B0 htb
    rintro σ G ⟨ta, ba, tb, bb, wh, hB, rfl, rfl⟩
    refine Z.w_cut (fun σ G' => ∃ ta ba tb bb wh : Int, B4 200 ta ba tb bb wh ∧ G' = G ∧ σ = S4 a p2 p5 p7 bd ta ba tb bb wh none) ?_ ?_
    · walk_at "go"
      refine Z.w_dec (fun hc => ?_) (fun hc => ?_) <;> (walk_at "go"; exact ⟨_, _, _, _, _, by unfold B4 at *; omega, rfl, rfl⟩)
    clear hB
    rintro σ G ⟨ta, ba, tb, bb, wh, hB, rfl, rfl⟩
    refine Z.w_cut (fun σ G' => ∃ ta ba tb bb wh : Int, B4 200 ta ba tb bb wh ∧ G' = G ∧ σ = S4 a p2 p5 p7 bd ta ba tb bb wh none) ?_ ?_
    · walk_at "go"
      refine Z.w_dec (fun hc => ?_) (fun hc => ?_) <;> (walk_at "go"; exact ⟨_, _, _, _, _, by unfold B4 at *; omega, rfl, rfl⟩)
    clear hB
    rintro σ G ⟨ta, ba, tb, bb, wh, hB, rfl, rfl⟩
    refine Z.w_cut (fun σ G' => ∃ ta ba tb bb wh : Int, B4 200 ta ba tb bb wh ∧ G' = G ∧ σ = S4 a p2 p5 p7 bd ta ba tb bb wh none) ?_ ?_
    · walk_at "go"
      refine Z.w_dec (fun hc => ?_) (fun hc => ?_) <;> (walk_at "go"; exact ⟨_, _, _, _, _, by unfold B4 at *; omega, rfl, rfl⟩)
    clear hB
    rintro σ G ⟨ta, ba, tb, bb, wh, hB, rfl, rfl⟩
    refine Z.w_cut (fun σ G' => ∃ ta ba tb bb wh : Int, B4 200 ta ba tb bb wh ∧ G' = G ∧ σ = S4 a p2 p5 p7 bd ta ba tb bb wh none) ?_ ?_
    · walk_at "go"
      refine Z.w_dec (fun hc => ?_) (fun hc => ?_) <;> (walk_at "go"; exact ⟨_, _, _, _, _, by unfold B4 at *; omega, rfl, rfl⟩)
    clear hB
    rintro σ G ⟨ta, ba, tb, bb, wh, hB, rfl, rfl⟩
    walk_at "go"
    refine Z.w_cut (fun σ G' => ∃ sc : Int, 0 < sc ∧ sc.natAbs < 2 ^ 97 ∧ G' = G ∧ σ = S4 a p2 p5 p7 bd ta ba tb bb wh (some (.int sc))) ?_ ?_
    · walk_at "go"
      refine Z.w_dec (fun hc => ?_) (fun hc => ?_) <;> (walk_at "go"; exact ⟨_, by omega, by omega, rfl, rfl⟩)
    rintro σ G ⟨sc, hsc0, hsc1, rfl, rfl⟩
    have C0 := hB
    unfold B4 at C0
    have sm1 : (ta * sc).natAbs < 2 ^ 297 := bt_mul C0.1 hsc1
    have sm2 : (ba * sc).natAbs < 2 ^ 297 := bt_mul C0.2.1.2 hsc1
    have sm3 : 0 < ba * sc := Int.mul_pos C0.2.1.1 hsc0
    have cm1 : Z.CM ta sc := cm C0.1 hsc1 (by decide)
    have cm2 : Z.CM ba sc := cm C0.2.1.2 hsc1 (by decide)
    refine Z.w_cut (fun σ G' => ∃ ta ba tb bb wh : Int, B4 297 ta ba tb bb wh ∧ G' = G ∧ σ = S4 a p2 p5 p7 bd ta ba tb bb wh (some (.int sc))) ?_ ?_
    · walk_at "go"
      refine Z.w_dec (fun hc => ?_) (fun hc => ?_)
      · walk_at "go"
        exact ⟨_, _, _, _, _, ⟨C0.1, C0.2.1, sm1, ⟨sm3, sm2⟩, C0.2.2.2.2⟩, rfl, rfl⟩
      · walk_at "go"
        exact ⟨_, _, _, _, _, by unfold B4 at *; omega, rfl, rfl⟩
    clear hB C0 sm1 sm2 sm3 cm1 cm2
    rintro σ G ⟨ta, ba, tb, bb, wh, hB, rfl, rfl⟩
    refine Z.w_cut (fun σ G' => ∃ ta ba tb bb wh : Int, B4 298 ta ba tb bb wh ∧ G' = G ∧ σ = S4 a p2 p5 p7 bd ta ba tb bb wh (some (.int sc))) ?_ ?_
    · walk_at "go"
      refine Z.w_dec (fun hc => ?_) (fun hc => ?_) <;> (walk_at "go"; exact ⟨_, _, _, _, _, by unfold B4 at *; omega, rfl, rfl⟩)
    clear hB
    rintro σ G ⟨ta, ba, tb, bb, wh, hB, rfl, rfl⟩
    refine Z.w_cut (fun σ G' => ∃ ta ba tb bb wh : Int, B4 298 ta ba tb bb wh ∧ G' = G ∧ σ = S4 a p2 p5 p7 bd ta ba tb bb wh (some (.int sc))) ?_ ?_
    · walk_at "go"
      refine Z.w_dec (fun hc => ?_) (fun hc => ?_) <;> (walk_at "go"; exact ⟨_, _, _, _, _, by unfold B4 at *; omega, rfl, rfl⟩)
    clear hB
    rintro σ G ⟨ta, ba, tb, bb, wh, hB, rfl, rfl⟩
    have C0 := hB
    unfold B4 at C0
    have hdv : CDivW ta ba := wide_div (b := 200) C0.2.1.1 C0.2.1.2 (by decide) (by decide)
    have sdv : (ta / ba).natAbs < 2 ^ 200 := bt_fdiv C0.1
    clear C0
    refine Z.w_cut (fun σ G' => ∃ ta ba tb bb wh : Int, (B4 298 ta ba tb bb wh ∧ wh.natAbs < 2 ^ 202) ∧ G' = G ∧ σ = S4 a p2 p5 p7 bd ta ba tb bb wh (some (.int sc))) ?_ ?_
    · walk_at "go"
      refine Z.w_dec (fun hc => ?_) (fun hc => ?_) <;> (walk_at "go"; exact ⟨_, _, _, _, _, by unfold B4 at *; omega, rfl, rfl⟩)
    clear hB hdv sdv
    rintro σ G ⟨ta, ba, tb, bb, wh, ⟨hB, hwh1⟩, rfl, rfl⟩
    refine Z.w_cut (fun σ G' => ∃ wh : Int, wh.natAbs < 2 ^ 203 ∧ G' = G ∧ σ = S4 a p2 p5 p7 bd ta ba tb bb wh (some (.int sc))) ?_ ?_
    · walk_at "go"
      refine Z.w_dec (fun hc => ?_) (fun hc => ?_) <;> (walk_at "go"; exact ⟨_, by omega, rfl, rfl⟩)
    rintro σ G ⟨wh, hwh, rfl, rfl⟩
    unfold B4 at hB
    obtain ⟨hta, ⟨hba0, hba⟩, htb, ⟨hbb0, hbb⟩, _⟩ := hB
    clear hb hwh1 hsc1 hsc0
    have hba1 : ba ≠ 0 := by omega
    have hbb1 : bb ≠ 0 := by omega
    have one0 : (0 : Int) < 1 := by decide
    have one1 : (1 : Int).natAbs < 2 ^ 300 := by decide
    have u1 : ta.natAbs < 2 ^ 300 := bt_mono hta (by decide)
    have u2 : ba.natAbs < 2 ^ 300 := bt_mono hba (by decide)
    have u3 : tb.natAbs < 2 ^ 300 := bt_mono htb (by decide)
    have u4 : bb.natAbs < 2 ^ 300 := bt_mono hbb (by decide)
    have u5 : wh.natAbs < 2 ^ 300 := bt_mono hwh (by decide)
    have z1 : (Rat.divInt ta ba = 0) = (ta = 0) := propext (r_zero hba1)
    have z2 : (Rat.divInt tb bb = 0) = (tb = 0) := propext (r_zero hbb1)
    have z3 : (Rat.divInt ta ba = Rat.divInt tb bb) = (ta * bb = tb * ba) := propext (Rat.divInt_eq_divInt_iff hba1 hbb1)
    have z4 : (Rat.divInt tb bb = Rat.divInt ta ba) = (ta * bb = tb * ba) := propext (eq_comm.trans (Rat.divInt_eq_divInt_iff hba1 hbb1))
    walk_at "go"
    refine u_toldR (by walk_at "rn") (.rat (by walk_at "rn")) (by decide) (by decide) fun q1 G1 n1 e1 r1 => ?_
    walk_at "go"
    refine u_due (by walk_at "fx") (by walk_at "fx") hba0 hbb0 u1 u2 u3 u4 fun q2 G2 n2 e2 r2 => ?_
    walk_at "go"
    refine u_alike (by walk_at "fx") (by walk_at "fx") fun G3 e3 => ?_
    clear r1 r2 n1 n2
    walk_at "go"
    refine u_toldR (by walk_at "rn") (.rat (by walk_at "rn")) (by decide) (by decide) fun q1 G4 n1 e4 r1 => ?_
    walk_at "go"
    refine u_due (by walk_at "fx") (by walk_at "fx") hbb0 hba0 u3 u4 u1 u2 fun q2 G5 n2 e5 r2 => ?_
    walk_at "go"
    refine u_alike (by walk_at "fx") (by walk_at "fx") fun G6 e6 => ?_
    clear r1 r2 n1 n2
    walk_at "go"
    refine u_toldR (by walk_at "rn") (.int hwh) (by decide) (by decide) fun q1 G7 n1 e7 r1 => ?_
    walk_at "go"
    refine u_due (by walk_at "fx") (by walk_at "fx") hba0 one0 u1 u2 u5 one1 fun q2 G8 n2 e8 r2 => ?_
    rw [← div1] at r2
    walk_at "go"
    refine u_alike (by walk_at "fx") (by walk_at "fx") fun G9 e9 => ?_
    clear r1 r2 n1 n2
    walk_at "go"
    refine u_toldI hwh (by walk_at "rn") (by decide) (by decide) fun q1 G10 n1 e10 r1 => ?_
    walk_at "go"
    refine u_due (by walk_at "fx") (by walk_at "fx") one0 hba0 u5 one1 u1 u2 fun q2 G11 n2 e11 r2 => ?_
    rw [← div1] at r2
    walk_at "go"
    refine u_alike (by walk_at "fx") (by walk_at "fx") fun G12 e12 => ?_
    clear r1 r2 n1 n2
    walk_at "go"
    refine u_toldR (by walk_at "rn") (.rat (by walk_at "rn")) (by decide) (by decide) fun q1 G13 n1 e13 r1 => ?_
    walk_at "go"
    refine u_due (by walk_at "fx") (by walk_at "fx") hba0 hba0 u1 u2 u1 u2 fun q2 G14 n2 e14 r2 => ?_
    walk_at "go"
    refine u_alike (by walk_at "fx") (by walk_at "fx") fun G15 e15 => ?_
    clear r1 r2 n1 n2
    walk_at "go"
    refine u_toldR (by walk_at "rn") (.int hwh) (by decide) (by decide) fun q1 G16 n1 e16 r1 => ?_
    walk_at "go"
    refine u_due (by walk_at "fx") (by walk_at "fx") hbb0 one0 u3 u4 u5 one1 fun q2 G17 n2 e17 r2 => ?_
    rw [← div1] at r2
    walk_at "go"
    refine u_alike (by walk_at "fx") (by walk_at "fx") fun G18 e18 => ?_
    clear r1 r2 n1 n2
    have y1 : decide (decide (Rat.divInt ta ba = Rat.divInt tb bb) = true) = decide (ta * bb = tb * ba) := by simp only [z3, decide_eq_true_eq]
    have y2 : decide (decide (Rat.divInt tb bb = Rat.divInt ta ba) = true) = decide (ta * bb = tb * ba) := by simp only [z4, decide_eq_true_eq]
    have y3 : decide (Rat.divInt ta ba = Rat.divInt ta ba) = true := by simp
    have y4 : (!decide (Rat.divInt ta ba = 0)) = !decide (ta = 0) := by simp only [z1]
    have y5 : (!decide (Rat.divInt tb bb = 0)) = !decide (tb = 0) := by simp only [z2]
    walk_at "run"
    rw [decide_eq_true y5]
    exact k _

def d_Ratio___abs__ : He.DefD := ⟨("Ratio", some "__abs__"), "__abs__", "Ratio.__abs__", defArgs s_Ratio___abs__, defBody s_Ratio___abs__, defScope s_Ratio___abs__, [], []⟩
def d_Ratio___add__ : He.DefD := ⟨("Ratio", some "__add__"), "__add__", "Ratio.__add__", defArgs s_Ratio___add__, defBody s_Ratio___add__, defScope s_Ratio___add__, [], []⟩
def d_Ratio___bool__ : He.DefD := ⟨("Ratio", some "__bool__"), "__bool__", "Ratio.__bool__", defArgs s_Ratio___bool__, defBody s_Ratio___bool__, defScope s_Ratio___bool__, [], []⟩
def d_Ratio___eq__ : He.DefD := ⟨("Ratio", some "__eq__"), "__eq__", "Ratio.__eq__", defArgs s_Ratio___eq__, defBody s_Ratio___eq__, defScope s_Ratio___eq__, [], []⟩
def d_Ratio___floordiv__ : He.DefD := ⟨("Ratio", some "__floordiv__"), "__floordiv__", "Ratio.__floordiv__", defArgs s_Ratio___floordiv__, defBody s_Ratio___floordiv__, defScope s_Ratio___floordiv__, [], []⟩
def d_Ratio___ge__ : He.DefD := ⟨("Ratio", some "__ge__"), "__ge__", "Ratio.__ge__", defArgs s_Ratio___ge__, defBody s_Ratio___ge__, defScope s_Ratio___ge__, [], []⟩
def d_Ratio___gt__ : He.DefD := ⟨("Ratio", some "__gt__"), "__gt__", "Ratio.__gt__", defArgs s_Ratio___gt__, defBody s_Ratio___gt__, defScope s_Ratio___gt__, [], []⟩
def d_Ratio___init__ : He.DefD := ⟨("Ratio", some "__init__"), "__init__", "Ratio.__init__", defArgs s_Ratio___init__, defBody s_Ratio___init__, defScope s_Ratio___init__, [.int 1], []⟩
def d_Ratio___le__ : He.DefD := ⟨("Ratio", some "__le__"), "__le__", "Ratio.__le__", defArgs s_Ratio___le__, defBody s_Ratio___le__, defScope s_Ratio___le__, [], []⟩
def d_Ratio___lt__ : He.DefD := ⟨("Ratio", some "__lt__"), "__lt__", "Ratio.__lt__", defArgs s_Ratio___lt__, defBody s_Ratio___lt__, defScope s_Ratio___lt__, [], []⟩
def d_Ratio___mod__ : He.DefD := ⟨("Ratio", some "__mod__"), "__mod__", "Ratio.__mod__", defArgs s_Ratio___mod__, defBody s_Ratio___mod__, defScope s_Ratio___mod__, [], []⟩
def d_Ratio___mul__ : He.DefD := ⟨("Ratio", some "__mul__"), "__mul__", "Ratio.__mul__", defArgs s_Ratio___mul__, defBody s_Ratio___mul__, defScope s_Ratio___mul__, [], []⟩
def d_Ratio___neg__ : He.DefD := ⟨("Ratio", some "__neg__"), "__neg__", "Ratio.__neg__", defArgs s_Ratio___neg__, defBody s_Ratio___neg__, defScope s_Ratio___neg__, [], []⟩
def d_Ratio___radd__ : He.DefD := ⟨("Ratio", some "__radd__"), "__radd__", "Ratio.__radd__", defArgs s_Ratio___radd__, defBody s_Ratio___radd__, defScope s_Ratio___radd__, [], []⟩
def d_Ratio___rmul__ : He.DefD := ⟨("Ratio", some "__rmul__"), "__rmul__", "Ratio.__rmul__", defArgs s_Ratio___rmul__, defBody s_Ratio___rmul__, defScope s_Ratio___rmul__, [], []⟩
def d_Ratio___rsub__ : He.DefD := ⟨("Ratio", some "__rsub__"), "__rsub__", "Ratio.__rsub__", defArgs s_Ratio___rsub__, defBody s_Ratio___rsub__, defScope s_Ratio___rsub__, [], []⟩
def d_Ratio___str__ : He.DefD := ⟨("Ratio", some "__str__"), "__str__", "Ratio.__str__", defArgs s_Ratio___str__, defBody s_Ratio___str__, defScope s_Ratio___str__, [], []⟩
def d_Ratio___sub__ : He.DefD := ⟨("Ratio", some "__sub__"), "__sub__", "Ratio.__sub__", defArgs s_Ratio___sub__, defBody s_Ratio___sub__, defScope s_Ratio___sub__, [], []⟩
def d_Ratio_over : He.DefD := ⟨("Ratio", some "over"), "over", "Ratio.over", defArgs s_Ratio_over, defBody s_Ratio_over, defScope s_Ratio_over, [], []⟩
def d__law_alike : He.DefD := ⟨("_law_alike", none), "_law_alike", "_law_alike", defArgs s__law_alike, defBody s__law_alike, defScope s__law_alike, [], []⟩
def d__law_cell : He.DefD := ⟨("_law_cell", none), "_law_cell", "_law_cell", defArgs s__law_cell, defBody s__law_cell, defScope s__law_cell, [], []⟩
def d__law_draws : He.DefD := ⟨("_law_draws", none), "_law_draws", "_law_draws", defArgs s__law_draws, defBody s__law_draws, defScope s__law_draws, [], []⟩
def d__law_due : He.DefD := ⟨("_law_due", none), "_law_due", "_law_due", defArgs s__law_due, defBody s__law_due, defScope s__law_due, [], []⟩
def d__law_told : He.DefD := ⟨("_law_told", none), "_law_told", "_law_told", defArgs s__law_told, defBody s__law_told, defScope s__law_told, [], []⟩
def d__law_wide : He.DefD := ⟨("_law_wide", none), "_law_wide", "_law_wide", defArgs s__law_wide, defBody s__law_wide, defScope s__law_wide, [], []⟩
def d_law : He.DefD := ⟨("law", none), "law", "law", defArgs s_law, defBody s_law, defScope s_law, [], []⟩
def d_read_whole : He.DefD := ⟨("read_whole", none), "read_whole", "read_whole", defArgs s_read_whole, defBody s_read_whole, defScope s_read_whole, [], []⟩
def fn : List He.DefD := [d_Ratio___abs__, d_Ratio___add__, d_Ratio___bool__, d_Ratio___eq__, d_Ratio___floordiv__, d_Ratio___ge__, d_Ratio___gt__, d_Ratio___init__, d_Ratio___le__, d_Ratio___lt__, d_Ratio___mod__, d_Ratio___mul__, d_Ratio___neg__, d_Ratio___radd__, d_Ratio___rmul__, d_Ratio___rsub__, d_Ratio___str__, d_Ratio___sub__, d_Ratio_over, d__law_alike, d__law_cell, d__law_draws, d__law_due, d__law_told, d__law_wide, d_law, d_read_whole]
def fa : List (PySem.W.Frag → Bool) := [(He.Fa.free "abs").ok,
  (He.Fa.free "bool").ok,
  (He.Fa.free "int").ok,
  (He.Fa.free "isinstance").ok,
  (He.Fa.free "len").ok,
  (He.Fa.free "max").ok,
  (He.Fa.free "range").ok,
  (He.Fa.free "str").ok,
  Z.bltB "gcd" "math.gcd",
  (He.Fa.glo "_law_alike").ok,
  (He.Fa.glo "_law_cell").ok,
  (He.Fa.glo "_law_draws").ok,
  (He.Fa.glo "_law_due").ok,
  (He.Fa.glo "_law_told").ok,
  (He.Fa.glo "_law_wide").ok,
  (He.Fa.glo "law").ok,
  (He.Fa.glo "read_whole").ok,
  (He.Fa.glo "ShelfError").ok,
  Z.excB "ShelfError",
  (He.Fa.exc "ShelfError").ok,
  (He.Fa.glo "ZeroBottom").ok,
  Z.excB "ZeroBottom",
  (He.Fa.exc "ZeroBottom").ok,
  (He.Fa.glo "BadText").ok,
  Z.excB "BadText",
  (He.Fa.exc "BadText").ok,
  (He.Fa.glo "Ratio").ok,
  (fun K => Z.ownB K "Ratio"),
  (He.Fa.mkr "Ratio").ok,
  (He.Fa.noat "Ratio" "top").ok,
  (He.Fa.noat "Ratio" "bottom").ok,
  (He.Fa.meth "Ratio" "__add__").ok,
  (He.Fa.meth "Ratio" "__radd__").ok,
  (He.Fa.meth "Ratio" "__sub__").ok,
  (He.Fa.meth "Ratio" "__rsub__").ok,
  (He.Fa.meth "Ratio" "__mul__").ok,
  (He.Fa.meth "Ratio" "__rmul__").ok,
  (He.Fa.meth "Ratio" "__floordiv__").ok,
  (He.Fa.meth "Ratio" "__mod__").ok,
  (He.Fa.meth "Ratio" "__neg__").ok,
  (He.Fa.meth "Ratio" "__abs__").ok,
  (He.Fa.meth "Ratio" "__bool__").ok,
  (He.Fa.meth "Ratio" "__eq__").ok,
  (He.Fa.meth "Ratio" "__lt__").ok,
  (He.Fa.meth "Ratio" "__le__").ok,
  (He.Fa.meth "Ratio" "__gt__").ok,
  (He.Fa.meth "Ratio" "__ge__").ok,
  (He.Fa.meth "Ratio" "__str__").ok,
  (He.Fa.meth "Ratio" "over").ok,
  Z.nometB "Ratio" "__rfloordiv__",
  Z.nometB "Ratio" "__rmod__"]
abbrev Rw : PySem.W.OpenRow := PySem.W.OpenLaw.row PySem.Challenge.rw_dearestshelf_k04_ratio_order
abbrev hk : PySem.W.Hook := Z.hookZ 5 fa fn
def ob (s : PySem.W.SharedT) : He.AlD := Z.obsZ 5 fa fn (HandSHeadRun.getT s)
theorem ob_eq (s : PySem.W.SharedT) : ob s = hk.obs s.abs := Z.obsZ_eq (HandSHeadRun.getT_eq s)
theorem run (w : World) : HandSHeadRun.RunEqI Rw (PySem.W.view Rw.prog [0, 16]) hk ob 20000 ["ShelfError", "ZeroBottom", "BadText", "DIGITS", "read_whole", "Ratio", "_law_cell", "_law_draws", "_law_wide", "_law_told", "_law_due", "_law_alike"] w := by
  unfold HandSHeadRun.RunEqI
  kernel_rfl
theorem tx {K : PySem.W.Frag} {h : Heap} {mg : Str → Option Value} (X : K.In h) (G : h.Ns mainGlobals mg) (c : Z.SaysZ fa fn K) : Tx K mg := by
  have F_Ratio___abs__ := Z.fd_of (c.d.def_ 0 (d := d_Ratio___abs__) rfl)
  have F_Ratio___add__ := Z.fd_of (c.d.def_ 1 (d := d_Ratio___add__) rfl)
  have F_Ratio___bool__ := Z.fd_of (c.d.def_ 2 (d := d_Ratio___bool__) rfl)
  have F_Ratio___eq__ := Z.fd_of (c.d.def_ 3 (d := d_Ratio___eq__) rfl)
  have F_Ratio___floordiv__ := Z.fd_of (c.d.def_ 4 (d := d_Ratio___floordiv__) rfl)
  have F_Ratio___ge__ := Z.fd_of (c.d.def_ 5 (d := d_Ratio___ge__) rfl)
  have F_Ratio___gt__ := Z.fd_of (c.d.def_ 6 (d := d_Ratio___gt__) rfl)
  have F_Ratio___init__ := Z.fd_of (c.d.def_ 7 (d := d_Ratio___init__) rfl)
  have F_Ratio___le__ := Z.fd_of (c.d.def_ 8 (d := d_Ratio___le__) rfl)
  have F_Ratio___lt__ := Z.fd_of (c.d.def_ 9 (d := d_Ratio___lt__) rfl)
  have F_Ratio___mod__ := Z.fd_of (c.d.def_ 10 (d := d_Ratio___mod__) rfl)
  have F_Ratio___mul__ := Z.fd_of (c.d.def_ 11 (d := d_Ratio___mul__) rfl)
  have F_Ratio___neg__ := Z.fd_of (c.d.def_ 12 (d := d_Ratio___neg__) rfl)
  have F_Ratio___radd__ := Z.fd_of (c.d.def_ 13 (d := d_Ratio___radd__) rfl)
  have F_Ratio___rmul__ := Z.fd_of (c.d.def_ 14 (d := d_Ratio___rmul__) rfl)
  have F_Ratio___rsub__ := Z.fd_of (c.d.def_ 15 (d := d_Ratio___rsub__) rfl)
  have F_Ratio___str__ := Z.fd_of (c.d.def_ 16 (d := d_Ratio___str__) rfl)
  have F_Ratio___sub__ := Z.fd_of (c.d.def_ 17 (d := d_Ratio___sub__) rfl)
  have F_Ratio_over := Z.fd_of (c.d.def_ 18 (d := d_Ratio_over) rfl)
  have F__law_alike := Z.fd_of (c.d.def_ 19 (d := d__law_alike) rfl)
  have F__law_cell := Z.fd_of (c.d.def_ 20 (d := d__law_cell) rfl)
  have F__law_draws := Z.fd_of (c.d.def_ 21 (d := d__law_draws) rfl)
  have F__law_due := Z.fd_of (c.d.def_ 22 (d := d__law_due) rfl)
  have F__law_told := Z.fd_of (c.d.def_ 23 (d := d__law_told) rfl)
  have F__law_wide := Z.fd_of (c.d.def_ 24 (d := d__law_wide) rfl)
  have F_law := Z.fd_of (c.d.def_ 25 (d := d_law) rfl)
  have F_read_whole := Z.fd_of (c.d.def_ 26 (d := d_read_whole) rfl)
  exact {
    n_abs := He.free_ok X G (c.fact 0 rfl)
    n_bool := He.free_ok X G (c.fact 1 rfl)
    n_int := He.free_ok X G (c.fact 2 rfl)
    n_isinstance := He.free_ok X G (c.fact 3 rfl)
    n_len := He.free_ok X G (c.fact 4 rfl)
    n_max := He.free_ok X G (c.fact 5 rfl)
    n_range := He.free_ok X G (c.fact 6 rfl)
    n_str := He.free_ok X G (c.fact 7 rfl)
    m_gcd := Z.blt_ok X G (c.fact 8 rfl)
    g__law_alike := He.glo_ok X G (c.fact 9 rfl)
    g__law_cell := He.glo_ok X G (c.fact 10 rfl)
    g__law_draws := He.glo_ok X G (c.fact 11 rfl)
    g__law_due := He.glo_ok X G (c.fact 12 rfl)
    g__law_told := He.glo_ok X G (c.fact 13 rfl)
    g__law_wide := He.glo_ok X G (c.fact 14 rfl)
    g_law := He.glo_ok X G (c.fact 15 rfl)
    g_read_whole := He.glo_ok X G (c.fact 16 rfl)
    g_ShelfError := He.glo_ok X G (c.fact 17 rfl)
    ec_ShelfError := Z.excB_ok (c.fact 18 rfl)
    x_ShelfError := He.exc_ok (c.fact 19 rfl)
    g_ZeroBottom := He.glo_ok X G (c.fact 20 rfl)
    ec_ZeroBottom := Z.excB_ok (c.fact 21 rfl)
    x_ZeroBottom := He.exc_ok (c.fact 22 rfl)
    g_BadText := He.glo_ok X G (c.fact 23 rfl)
    ec_BadText := Z.excB_ok (c.fact 24 rfl)
    x_BadText := He.exc_ok (c.fact 25 rfl)
    g_Ratio := He.glo_ok X G (c.fact 26 rfl)
    o_Ratio := Z.ownB_ok (c.fact 27 rfl)
    mk_Ratio := He.mkr_ok (c.fact 28 rfl)
    na_Ratio_top := He.noat_ok (c.fact 29 rfl)
    na_Ratio_bottom := He.noat_ok (c.fact 30 rfl)
    me_Ratio___add__ := He.meth_ok (c.fact 31 rfl)
    me_Ratio___radd__ := He.meth_ok (c.fact 32 rfl)
    me_Ratio___sub__ := He.meth_ok (c.fact 33 rfl)
    me_Ratio___rsub__ := He.meth_ok (c.fact 34 rfl)
    me_Ratio___mul__ := He.meth_ok (c.fact 35 rfl)
    me_Ratio___rmul__ := He.meth_ok (c.fact 36 rfl)
    me_Ratio___floordiv__ := He.meth_ok (c.fact 37 rfl)
    me_Ratio___mod__ := He.meth_ok (c.fact 38 rfl)
    me_Ratio___neg__ := He.meth_ok (c.fact 39 rfl)
    me_Ratio___abs__ := He.meth_ok (c.fact 40 rfl)
    me_Ratio___bool__ := He.meth_ok (c.fact 41 rfl)
    me_Ratio___eq__ := He.meth_ok (c.fact 42 rfl)
    me_Ratio___lt__ := He.meth_ok (c.fact 43 rfl)
    me_Ratio___le__ := He.meth_ok (c.fact 44 rfl)
    me_Ratio___gt__ := He.meth_ok (c.fact 45 rfl)
    me_Ratio___ge__ := He.meth_ok (c.fact 46 rfl)
    me_Ratio___str__ := He.meth_ok (c.fact 47 rfl)
    me_Ratio_over := He.meth_ok (c.fact 48 rfl)
    no_Ratio___rfloordiv__ := Z.nomet_ok (c.fact 49 rfl)
    no_Ratio___rmod__ := Z.nomet_ok (c.fact 50 rfl)
    F_Ratio___abs__ := F_Ratio___abs__
    F_Ratio___add__ := F_Ratio___add__
    F_Ratio___bool__ := F_Ratio___bool__
    F_Ratio___eq__ := F_Ratio___eq__
    F_Ratio___floordiv__ := F_Ratio___floordiv__
    F_Ratio___ge__ := F_Ratio___ge__
    F_Ratio___gt__ := F_Ratio___gt__
    F_Ratio___init__ := F_Ratio___init__
    F_Ratio___le__ := F_Ratio___le__
    F_Ratio___lt__ := F_Ratio___lt__
    F_Ratio___mod__ := F_Ratio___mod__
    F_Ratio___mul__ := F_Ratio___mul__
    F_Ratio___neg__ := F_Ratio___neg__
    F_Ratio___radd__ := F_Ratio___radd__
    F_Ratio___rmul__ := F_Ratio___rmul__
    F_Ratio___rsub__ := F_Ratio___rsub__
    F_Ratio___str__ := F_Ratio___str__
    F_Ratio___sub__ := F_Ratio___sub__
    F_Ratio_over := F_Ratio_over
    F__law_alike := F__law_alike
    F__law_cell := F__law_cell
    F__law_draws := F__law_draws
    F__law_due := F__law_due
    F__law_told := F__law_told
    F__law_wide := F__law_wide
    F_law := F_law
    F_read_whole := F_read_whole
    b_Ratio___abs__ := F_Ratio___abs__.bindsN fun _ _ _ _ _ _ us hl => match us, hl with | [_], _ => rfl
    b_Ratio___add__ := F_Ratio___add__.bindsN fun _ _ _ _ _ _ us hl => match us, hl with | [_, _], _ => rfl
    b_Ratio___bool__ := F_Ratio___bool__.bindsN fun _ _ _ _ _ _ us hl => match us, hl with | [_], _ => rfl
    b_Ratio___eq__ := F_Ratio___eq__.bindsN fun _ _ _ _ _ _ us hl => match us, hl with | [_, _], _ => rfl
    b_Ratio___floordiv__ := F_Ratio___floordiv__.bindsN fun _ _ _ _ _ _ us hl => match us, hl with | [_, _], _ => rfl
    b_Ratio___ge__ := F_Ratio___ge__.bindsN fun _ _ _ _ _ _ us hl => match us, hl with | [_, _], _ => rfl
    b_Ratio___gt__ := F_Ratio___gt__.bindsN fun _ _ _ _ _ _ us hl => match us, hl with | [_, _], _ => rfl
    b2_Ratio___init__ := F_Ratio___init__.binds1 2 0 (by intro z; cases z) rfl fun _ _ _ _ _ _ _ us its hl hi => match us, hl, its, hi with | [_, _], _, [_], _ => ⟨_, rfl, rfl⟩
    b3_Ratio___init__ := F_Ratio___init__.binds1 3 1 (by intro z; cases z) rfl fun _ _ _ _ _ _ _ us its hl hi => match us, hl, its, hi with | [_, _, _], _, [_], _ => ⟨_, rfl, rfl⟩
    b_Ratio___le__ := F_Ratio___le__.bindsN fun _ _ _ _ _ _ us hl => match us, hl with | [_, _], _ => rfl
    b_Ratio___lt__ := F_Ratio___lt__.bindsN fun _ _ _ _ _ _ us hl => match us, hl with | [_, _], _ => rfl
    b_Ratio___mod__ := F_Ratio___mod__.bindsN fun _ _ _ _ _ _ us hl => match us, hl with | [_, _], _ => rfl
    b_Ratio___mul__ := F_Ratio___mul__.bindsN fun _ _ _ _ _ _ us hl => match us, hl with | [_, _], _ => rfl
    b_Ratio___neg__ := F_Ratio___neg__.bindsN fun _ _ _ _ _ _ us hl => match us, hl with | [_], _ => rfl
    b_Ratio___radd__ := F_Ratio___radd__.bindsN fun _ _ _ _ _ _ us hl => match us, hl with | [_, _], _ => rfl
    b_Ratio___rmul__ := F_Ratio___rmul__.bindsN fun _ _ _ _ _ _ us hl => match us, hl with | [_, _], _ => rfl
    b_Ratio___rsub__ := F_Ratio___rsub__.bindsN fun _ _ _ _ _ _ us hl => match us, hl with | [_, _], _ => rfl
    b_Ratio___str__ := F_Ratio___str__.bindsN fun _ _ _ _ _ _ us hl => match us, hl with | [_], _ => rfl
    b_Ratio___sub__ := F_Ratio___sub__.bindsN fun _ _ _ _ _ _ us hl => match us, hl with | [_, _], _ => rfl
    b_Ratio_over := F_Ratio_over.bindsN fun _ _ _ _ _ _ us hl => match us, hl with | [_, _], _ => rfl
    b__law_alike := F__law_alike.bindsN fun _ _ _ _ _ _ us hl => match us, hl with | [_, _], _ => rfl
    b__law_cell := F__law_cell.bindsN fun _ _ _ _ _ _ us hl => match us, hl with | [_, _], _ => rfl
    b__law_draws := F__law_draws.bindsN fun _ _ _ _ _ _ us hl => match us, hl with | [_, _], _ => rfl
    b__law_due := F__law_due.bindsN fun _ _ _ _ _ _ us hl => match us, hl with | [_, _], _ => rfl
    b__law_told := F__law_told.bindsN fun _ _ _ _ _ _ us hl => match us, hl with | [_, _], _ => rfl
    b__law_wide := F__law_wide.bindsN fun _ _ _ _ _ _ us hl => match us, hl with | [_], _ => rfl
    b_law := F_law.bindsN fun _ _ _ _ _ _ us hl => match us, hl with | [_], _ => rfl
    b_read_whole := F_read_whole.bindsN fun _ _ _ _ _ _ us hl => match us, hl with | [_], _ => rfl }
end R
open PySem PySem.W PySem.Calls PyProof.Rows
set_option maxRecDepth 100000 in
set_option maxHeartbeats 0 in
theorem PySem.Challenge.cw_dearestshelf_k04_ratio_order_holds : PySem.Challenge.rw_dearestshelf_k04_ratio_order.Holds := by
  w_on; o_law
  refine HandSHeadRun.head_imp (r := OpenLaw.row PySem.Challenge.rw_dearestshelf_k04_ratio_order) (q := view (OpenLaw.row PySem.Challenge.rw_dearestshelf_k04_ratio_order).prog [0, 16]) (H := R.hk) (ob := R.ob) (M := 20000) (loose := ["ShelfError", "ZeroBottom", "BadText", "DIGITS", "read_whole", "Ratio", "_law_cell", "_law_draws", "_law_wide", "_law_told", "_law_due", "_law_alike"]) (d := HandSHeadRun.topDef (OpenLaw.row PySem.Challenge.rw_dearestshelf_k04_ratio_order).prog 16) (kwd := []) R.ob_eq
    R.run (by kernel_rfl) (by kernel_rfl) (by kernel_rfl) (by rfl) (by first | assumption | decide +kernel) (by decide +kernel) ⟨rfl, rfl, rfl, rfl, rfl, by decide +kernel⟩ ?hw ?hc
  case hw => w_witness2
  case hc =>
    refine L2.walk_ofE (l := PySem.Challenge.rw_dearestshelf_k04_ratio_order) (n := 63) (k := 4) (x := "_law_script") (CX := L2.CX0) rfl (by decide) (by kernel_rfl) ⟨rfl, by decide, by decide⟩ ?F (fun _ _ _ _ z => z)
    intro w mg fa h Y G hmg0
    obtain ⟨K, KX, c⟩ := Y
    have hmg : mg ("law" : PySem.Str) = some (.ref fa) := by
      have e : (HandSHeadRun.topDef (OpenLaw.row PySem.Challenge.rw_dearestshelf_k04_ratio_order).prog 16).name = ("law" : PySem.Str) := by kernel_rfl
      rw [← e]
      exact hmg0
    have T := R.tx KX G c
    have e := hmg.symm.trans T.g_law
    cases e
    have b := L2.FunD.bindsA (ps := ["_law_script"]) T.F_law fun _ _ _ _ _ _ us hl => match us, hl with | [_], _ => rfl
    exact ⟨K, _, R.sp_law K, KX, fun s v => b s [v] rfl, fun H a ns hl _ hS => ⟨a, ns, rfl, hS, fun _ => rfl⟩, fun base _ _ => R.ok_law T⟩
