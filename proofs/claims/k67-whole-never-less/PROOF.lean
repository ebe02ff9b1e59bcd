import PyProof.Rows.All
import Wide.All
import OpenK.AllK
import Wide.FinOn
import PyProof.EqAt
import PyProof.EqKinds
import PyProof.TupleCall
import HandS.ForMost
import HandS.ForExc
import HandS.Wide
import HandS.WideBits
import HandS.Gcd
import HandS.Defaults
import HandS.IsInst
import HandS.More
import HandS.Flow
import HandS.Codes
import HandS.SlotsOwn
import HandS.WordsExc
import HandS.Head0
import HandS.Head1
import HandS.Head2
import HandS.HeadEnd
import HandS.HeadHook1
import HandS.HeadHook2
import HandS.Head3
import HandS.CallSlots
import HandS.ExcIs
import HandS.TryOnly
import HandS.Style
import HandS.TupAny
import HandS.SortInts
import HandS.ClsMeth
import HandS.Nested
import HandS.ExcInit
import KE.KSuper
import KE.KExcIs
import HandS.ExcField
import KE.KExcSuper
import HandS.MakeKwOnly
import KE.GoesEnum
import PySem.Challenge.RW_dearestshelf_k67_whole_never_less
set_option Elab.async false
set_option linter.all false
set_option maxRecDepth 100000
set_option maxHeartbeats 40000000
namespace Z
open PySem L2
/-! ### what stands at an address; what stood stands -/
/-- o stands at a -/
def At (H : Hp) (a : Addr) (o : HO) : Prop := H a = some o
/-- a is free -/
def Fr (H : Hp) (a : Addr) : Prop := H a = none
theorem At.ne {H : Hp} {a b : Addr} {o : HO} (h : At H a o) (f : Fr H b) : a ≠ b := ne_of_none h f
theorem At.inj {H : Hp} {a : Addr} {o o' : HO} (h : At H a o) (h' : At H a o') : o = o' := Option.some.inj ((show H a = some o from h).symm.trans h')
theorem At.l {H : Hp} {a : Addr} {xs ys : List V} (h : At H a (.lst xs)) (e : xs = ys) : At H a (.lst ys) := e ▸ h
theorem At.t {H : Hp} {a : Addr} {xs ys : List V} (h : At H a (.tup xs)) (e : xs = ys) : At H a (.tup ys) := e ▸ h
theorem at_upd {H : Hp} {a : Addr} {o : HO} : At (upd H a o) a o := upd_same
/-- one step: what stood stands -/
class Ex (H H' : Hp) : Prop where
  get : ∀ {a : Addr} {o : HO}, At H a o → At H' a o
theorem Ex.refl (H : Hp) : Ex H H := ⟨fun h => h⟩
theorem Ex.trans {H H1 H2 : Hp} (a : Ex H H1) (b : Ex H1 H2) : Ex H H2 := ⟨fun h => b.get (a.get h)⟩
theorem Ex.new {H : Hp} {p : Addr} {o : HO} (h : Fr H p) : Ex H (upd H p o) := ⟨fun e => by
  show upd H p o _ = _
  rw [upd_ne (ne_of_none e h)]; exact e⟩
/-- an object that H does not know may change -/
theorem Ex.mut {H H' : Hp} {p : Addr} {o : HO} (e : Ex H H') (h : Fr H p) : Ex H (upd H' p o) := ⟨fun ha => by
  show upd H' p o _ = _
  rw [upd_ne (ne_of_none ha h)]; exact e.get ha⟩
theorem Ex.rd {H H' : Hp} {a : Addr} {u : HO} (e : Ex H H') (h : Rd H a u) : Rd H' a u := by
  rcases h with h | ⟨o, h⟩
  · exact Or.inl (e.get h)
  · exact Or.inr ⟨o, e.get h⟩
theorem Ex.l {K : PySem.W.Frag} {H H' : Hp} {a : Addr} {xs : List V} (e : Ex H H') (h : SqL K H a xs) : SqL K H' a xs := by
  rcases h with h | h
  · exact Or.inl (e.rd h)
  · exact Or.inr h
theorem Ex.t {K : PySem.W.Frag} {H H' : Hp} {a : Addr} {xs : List V} (e : Ex H H') (h : SqT K H a xs) : SqT K H' a xs := by
  rcases h with h | h
  · exact Or.inl (e.rd h)
  · exact Or.inr h
theorem Ex.back {H H' : Hp} {p : Addr} (e : Ex H H') (h : Fr H' p) : Fr H p := by
  cases h1 : H p with
  | none => exact h1
  | some o =>
    have z := e.get h1
    unfold At at z
    unfold Fr at h
    rw [z] at h
    cases h
/-- any number of steps -/
class Exs (H H' : Hp) : Prop where
  ex : Ex H H'
set_option synthInstance.checkSynthOrder false in
instance Exs.step {H H1 H2 : Hp} [b : Ex H1 H2] [a : Exs H H1] : Exs H H2 := ⟨a.ex.trans b⟩
instance Exs.here {H : Hp} : Exs H H := ⟨Ex.refl H⟩
theorem exE {H H' : Hp} (e : Exs H H') : Ex H H' := e.ex
theorem getE {H H' : Hp} {a : Addr} {o : HO} (h : At H a o) (e : Exs H H') : At H' a o := e.ex.get h
theorem frE {H H' : Hp} {a : Addr} (h : Fr H' a) (e : Exs H H') : Fr H a := e.ex.back h
theorem kmut {H H' H0 : Hp} {a : Addr} (hk : ∀ H0, Ex H0 H → Fr H0 a → Ex H0 H') (n : Fr H0 a) (e : Exs H0 H) : Ex H0 H' := hk H0 e.ex n
theorem sq_of {K : PySem.W.Frag} {H : Hp} {a : Addr} {xs : List V} (h : At H a (.lst xs)) : SqL K H a xs := Or.inl (Or.inl h)
theorem st_of {K : PySem.W.Frag} {H : Hp} {a : Addr} {xs : List V} (h : At H a (.tup xs)) : SqT K H a xs := Or.inl (Or.inl h)
section
variable {K : PySem.W.Frag} {H H' : Hp} {a : Addr} {xs : List V}
theorem lE (h : SqL K H a xs) (e : Exs H H') : SqL K H' a xs := e.ex.l h
theorem lA (h : At H a (.lst xs)) (e : Exs H H') : SqL K H' a xs := e.ex.l (sq_of h)
theorem tE (h : SqT K H a xs) (e : Exs H H') : SqT K H' a xs := e.ex.t h
theorem tA (h : At H a (.tup xs)) (e : Exs H H') : SqT K H' a xs := e.ex.t (st_of h)
end
/-- one step: all but lists stands -/
class Nl (H1 H2 : Hp) : Prop where
  get : ∀ {a : Addr} {o : HO}, (∀ l, o ≠ HO.lst l) → At H1 a o → At H2 a o
theorem Ex.nl {H1 H2 : Hp} (e : Ex H1 H2) : Nl H1 H2 := ⟨fun _ h => e.get h⟩
theorem Nl.trans {H1 H2 H3 : Hp} (a : Nl H1 H2) (b : Nl H2 H3) : Nl H1 H3 := ⟨fun h e => b.get h (a.get h e)⟩
theorem Nl.refl (H : Hp) : Nl H H := ⟨fun _ h => h⟩
theorem Nl.upd {H : Hp} {p : Addr} {xs ys : List V} (h : At H p (.lst xs)) : Nl H (upd H p (.lst ys)) := ⟨fun {a} {o} ho e => by
  show L2.upd H p _ a = _
  rw [upd_ne (fun z => ho xs (by subst z; exact (h.inj e).symm))]; exact e⟩
theorem Nl.of_other {H H2 : Hp} {p : Addr} {xs : List V} (h : At H p (.lst xs)) (ho : ∀ b o, b ≠ p → At H b o → At H2 b o) : Nl H H2 := ⟨fun {a} {o} hk e => ho a o (fun z => hk xs (by subst z; exact (h.inj e).symm)) e⟩
class Nls (H H' : Hp) : Prop where
  nl : Nl H H'
set_option synthInstance.checkSynthOrder false in
instance Nls.stepE {H H1 H2 : Hp} [b : Ex H1 H2] [a : Nls H H1] : Nls H H2 := ⟨a.nl.trans b.nl⟩
set_option synthInstance.checkSynthOrder false in
instance Nls.step {H H1 H2 : Hp} [b : Nl H1 H2] [a : Nls H H1] : Nls H H2 := ⟨a.nl.trans b⟩
instance Nls.here {H : Hp} : Nls H H := ⟨Nl.refl H⟩
theorem getTN {H H' : Hp} {a : Addr} {xs : List V} (h : At H a (.tup xs)) (e : Nls H H') : At H' a (.tup xs) := e.nl.get (fun l z => by cases z) h
theorem tNA {K : PySem.W.Frag} {H H' : Hp} {a : Addr} {xs : List V} (h : At H a (.tup xs)) (e : Nls H H') : SqT K H' a xs := st_of (getTN h e)
theorem getIN {H H' : Hp} {a C d : Addr} {fs : List (Str × V)} (h : At H a (.ins C d fs)) (e : Nls H H') : At H' a (.ins C d fs) := e.nl.get (fun l z => by cases z) h
/-! ### the row's defs by their names -/
abbrev FnP (K : PySem.W.Frag) (x : Str) (st : Stmt) (f : Addr) (fd : FuncData) : Prop := FunD K x x (defArgs st) (defBody st) (defScope st) [] [] f fd
def noFd : FuncData := PySem.W.fnOf "" "" { posonlyargs := [], args := [], vararg := none, kwonlyargs := [], kw_defaults := [], kwarg := none, defaults := [] } [] { kind := .function, names := [], isGenerator := false, isCoroutine := false } .none .none .none .none none .none .none
def fdOf (K : PySem.W.Frag) (a : Addr) : FuncData := match K.lookup a with
  | some ⟨_, _, .func fd, _⟩ => fd
  | _ => noFd
theorem fd_of {K : PySem.W.Frag} {x qual : Str} {params : Arguments} {body : List Stmt} {scope : Scope} {dvs : List V} {kws : List (Str × V)} {f : Addr} (h : ∃ fd, FunD K x qual params body scope dvs kws f fd) : FunD K x qual params body scope dvs kws f (fdOf K f) := by
  obtain ⟨fd, F⟩ := h
  have e : fdOf K f = fd := by
    obtain ⟨_, _, _, _, _, _, _, _, _, _, _, lk, _⟩ := F.ex
    unfold fdOf
    rw [lk]
  rw [e]
  exact F
/-! ### one step of a reading -/
def nT (Q : VK) : List V → Hp → Prop := fun xs H1 => xs.length ≤ sizeLine ∧ ∀ p, Fr H1 p → Q (.ref p) (upd H1 p (.tup xs))
def nL (Q : VK) : List V → Hp → Prop := fun xs H1 => xs.length ≤ sizeLine ∧ ∀ p, Fr H1 p → Q (.ref p) (upd H1 p (.lst xs))
section
variable {K : PySem.W.Frag} {σ : L2.St} {H H' : Hp} {Q : VK} {v x y : V} {ta tb te tc : TE} {r : R2} {D : Ends} {t u : TS} {c c1 c2 : TT} {ts : TA}
theorem w_var {i : Nat} (h : σ[i]? = some (some v)) (q : Q v H) : tVar i σ H Q := ⟨v, h, q⟩
theorem w_c (q : Q v H) : tC v σ H Q := q
theorem w_op (h : ta σ H fun x H1 => tb σ H1 fun y H2 => r x y H2 Q) : tOp r ta tb σ H Q := h
theorem w_un {r : V → Hp → VK → Prop} (h : ta σ H fun x H1 => r x H1 Q) : tUn r ta σ H Q := h
theorem w_cb {r : List V → Hp → VK → Prop} (h : ts σ H fun vs H1 => r vs H1 Q) : tCB r ts σ H Q := h
theorem w_nil {Q : List V → Hp → Prop} (h : Q [] H) : tNil σ H Q := h
theorem w_cons {Q : List V → Hp → Prop} (h : ta σ H fun x H1 => ts σ H1 fun xs H2 => Q (x :: xs) H2) : tCons ta ts σ H Q := h
theorem w_tup (h : ts σ H (nT Q)) : tTup ts σ H Q := h
theorem w_lst (h : ts σ H (nL Q)) : tLst ts σ H Q := h
theorem w_call {sp : Sp} {dvs : List V} {E : XK} (h : ts σ H fun vs H1 => sp (vs ++ dvs) H1 Q E) : tCall sp dvs E ts σ H Q := h
theorem w_call0 {sp : Sp} {E : XK} (h : ts σ H fun vs H1 => sp vs H1 Q E) : tCall sp [] E ts σ H Q := by
  show ts σ H fun vs H1 => sp (vs ++ []) H1 Q E
  simp only [List.append_nil]
  exact h
theorem w_test {Q : Bool → Hp → Prop} (h : te σ H fun x H1 => ∃ k, x = .bl k ∧ Q k H1) : tTest te σ H Q := h
theorem w_B {Q : Bool → Hp → Prop} (h : te σ H fun x H1 => ∃ k, x = .bl k ∧ Q k H1) : tB te σ H Q := h
theorem w_bl {R : Bool → Prop} {k : Bool} (h : R k) : ∃ k', (V.bl k) = .bl k' ∧ R k' := ⟨k, rfl, h⟩
theorem w_and {Q : Bool → Hp → Prop} (h : c1 σ H fun b H1 => if b = true then c2 σ H1 Q else Q false H1) : tAnd c1 c2 σ H Q := h
theorem w_or {Q : Bool → Hp → Prop} (h : c1 σ H fun b H1 => if b = true then Q true H1 else c2 σ H1 Q) : tOr c1 c2 σ H Q := h
theorem w_not {Q : Bool → Hp → Prop} (h : c σ H fun b H1 => Q (!b) H1) : tNot c σ H Q := h
theorem w_andV (h : ta σ H fun x H1 => ∃ k, x = .bl k ∧ if k = true then tb σ H1 Q else Q (.bl false) H1) : tAndV ta tb σ H Q := h
theorem w_orV (h : ta σ H fun x H1 => ∃ k, x = .bl k ∧ if k = true then Q (.bl true) H1 else tb σ H1 Q) : tOrV ta tb σ H Q := h
theorem w_notV (h : ta σ H fun x H1 => ∃ k, x = .bl k ∧ Q (.bl (!k)) H1) : tNotV ta σ H Q := h
theorem w_ifE (h : c σ H fun b H1 => if b = true then ta σ H1 Q else tb σ H1 Q) : tIf c ta tb σ H Q := h
theorem w_isN (h : ta σ H fun x H1 => Q (.bl (decide (x = .non))) H1) : tIsN ta σ H Q := h
theorem w_notN (h : ta σ H fun x H1 => Q (.bl (!decide (x = .non))) H1) : tNotN ta σ H Q := h
theorem w_seq (h : t ⟨u D, D.rt, D.bk, D.ct⟩ σ H) : tSeq t u D σ H := h
theorem w_asg {g : TG} (h : te σ H fun x H1 => g x σ H1 D.nx) : tAsg te g D σ H := h
theorem w_gn {i : Nat} {R : L2.St → Hp → Prop} (h : R (σ.set i (some v)) H) : gName i v σ H R := h
theorem w_ret (h : te σ H D.rt) : tRet te D σ H := h
theorem w_retN (h : D.rt .non H) : tRetN D σ H := h
theorem w_drop (h : te σ H fun _ H1 => D.nx σ H1) : tDrop te D σ H := h
theorem w_next (h : D.nx σ H) : tNext D σ H := h
theorem w_brk (h : D.bk σ H) : tBreak D σ H := h
theorem w_cnt (h : D.ct σ H) : tCont D σ H := h
theorem w_if (h : c σ H fun b H1 => if b = true then t D σ H1 else u D σ H1) : tIfS c t u D σ H := h
theorem w_par {i j : Nat} (h : ts σ H fun vs H1 => ∃ v w, vs = [v, w] ∧ D.nx ((σ.set i (some v)).set j (some w)) H1) : tPar i j ts D σ H := h
theorem w_exP {R : V → V → Prop} (h : R v x) : ∃ v' x', [v, x] = [v', x'] ∧ R v' x' := ⟨v, x, rfl, h⟩
theorem w_cut (Mid : L2.St → Hp → Prop) (h : t ⟨Mid, D.rt, D.bk, D.ct⟩ σ H) (k : ∀ σ' H', Mid σ' H' → u D σ' H') : C8.tCut t u D σ H := ⟨Mid, h, k⟩
theorem w_nx {f : L2.St → Hp → Prop} {g : VK} {bk ct : L2.St → Hp → Prop} (h : f σ H) : Ends.nx ⟨f, g, bk, ct⟩ σ H := h
theorem w_bk {f : L2.St → Hp → Prop} {g : VK} {bk ct : L2.St → Hp → Prop} (h : bk σ H) : Ends.bk ⟨f, g, bk, ct⟩ σ H := h
theorem w_ct {f : L2.St → Hp → Prop} {g : VK} {bk ct : L2.St → Hp → Prop} (h : ct σ H) : Ends.ct ⟨f, g, bk, ct⟩ σ H := h
theorem w_rt {f : L2.St → Hp → Prop} {g : VK} {bk ct : L2.St → Hp → Prop} (h : g v H) : Ends.rt ⟨f, g, bk, ct⟩ v H := h
theorem w_aug {i : Nat} {ti : TIp} {z : V} (h : σ[i]? = some (some z)) (q : te σ H fun y H1 => ti z y H1 fun z H2 => D.nx (σ.set i (some z)) H2) : tAug i te ti D σ H := ⟨z, h, q⟩
theorem w_ipI {f : Int → Int → Int} {i j : Int} (q : Q (.int (f i j)) H) : ipI f (.int i) (.int j) H Q := ⟨i, j, rfl, rfl, q⟩
theorem w_I0 {g : Int → Int → V} {i j : Int} (q : Q (g i j) H) : rI0 g (.int i) (.int j) H Q := ⟨i, j, rfl, rfl, q⟩
theorem w_I {C : Int → Int → Prop} {g : Int → Int → V} {i j : Int} (hc : C i j) (q : Q (g i j) H) : rI C g (.int i) (.int j) H Q := ⟨i, j, rfl, rfl, hc, q⟩
theorem w_pow {i j z : Int} (hc : CPow i j) (hz : i ^ j.toNat = z) (q : Q (.int z) H) : rI CPow (fun i j => .int (i ^ j.toNat)) (.int i) (.int j) H Q := ⟨i, j, rfl, rfl, hc, by show Q (.int (i ^ j.toNat)) H; rw [hz]; exact q⟩
theorem w_U {g : Int → V} {i : Int} (q : Q (g i) H) : rU g (.int i) H Q := ⟨i, rfl, q⟩
theorem w_eqI {i j : Int} (q : Q (.bl (decide (i = j))) H) : rEq (.int i) (.int j) H Q := ⟨rfl, by
  have e : decide (V.int i = V.int j) = decide (i = j) := by simp
  rw [e]; exact q⟩
theorem w_neI {i j : Int} (q : Q (.bl (!decide (i = j))) H) : rNe (.int i) (.int j) H Q := ⟨rfl, by
  have e : decide (V.int i = V.int j) = decide (i = j) := by simp
  rw [e]; exact q⟩
theorem w_eqS {i j : Str} (q : Q (.bl (decide (i = j))) H) : rEq (.str i) (.str j) H Q := ⟨rfl, by
  have e : decide (V.str i = V.str j) = decide (i = j) := by simp
  rw [e]; exact q⟩
theorem w_neS {i j : Str} (q : Q (.bl (!decide (i = j))) H) : rNe (.str i) (.str j) H Q := ⟨rfl, by
  have e : decide (V.str i = V.str j) = decide (i = j) := by simp
  rw [e]; exact q⟩
theorem w_isB {a b : Bool} (q : Q (.bl (decide (a = b))) H) : rIsB (.bl a) (.bl b) H Q := ⟨a, b, rfl, rfl, q⟩
theorem w_isnB {a b : Bool} (q : Q (.bl (!decide (a = b))) H) : rNotB (.bl a) (.bl b) H Q := ⟨a, b, rfl, rfl, q⟩
/-! tests -/
theorem w_dec {p : Prop} [Decidable p] {A B : Prop} (h1 : p → A) (h2 : ¬ p → B) : if decide p = true then A else B := by
  by_cases h : p
  · rw [decide_eq_true h]; exact h1 h
  · rw [decide_eq_false h]; exact h2 h
theorem w_ndec {p : Prop} [Decidable p] {A B : Prop} (h1 : ¬ p → A) (h2 : p → B) : if (!decide p) = true then A else B := by
  by_cases h : p
  · rw [decide_eq_true h]; exact h2 h
  · rw [decide_eq_false h]; exact h1 h
theorem w_decT {p : Prop} [Decidable p] {A B : Prop} (hp : p) (h : A) : if decide p = true then A else B := w_dec (fun _ => h) (fun n => absurd hp n)
theorem w_decF {p : Prop} [Decidable p] {A B : Prop} (hp : ¬ p) (h : B) : if decide p = true then A else B := w_dec (fun n => absurd n hp) (fun _ => h)
theorem w_ndecT {p : Prop} [Decidable p] {A B : Prop} (hp : ¬ p) (h : A) : if (!decide p) = true then A else B := w_ndec (fun _ => h) (fun n => absurd n hp)
theorem w_ndecF {p : Prop} [Decidable p] {A B : Prop} (hp : p) (h : B) : if (!decide p) = true then A else B := w_ndec (fun n => absurd hp n) (fun _ => h)
theorem w_bool {b : Bool} {A B : Prop} (h1 : b = true → A) (h2 : b = false → B) : if b = true then A else B := by
  cases b
  · exact h2 rfl
  · exact h1 rfl
theorem w_nbool {b : Bool} {A B : Prop} (h1 : b = false → A) (h2 : b = true → B) : if (!b) = true then A else B := by
  cases b
  · exact h1 rfl
  · exact h2 rfl
theorem w_T {A B : Prop} (h : A) : if true = true then A else B := h
theorem w_F {A B : Prop} (h : B) : if false = true then A else B := h
theorem w_nT {A B : Prop} (h : B) : if (!true) = true then A else B := h
theorem w_nF {A B : Prop} (h : A) : if (!false) = true then A else B := h

/-! new objects: the heap behind is named, what is known of it is said -/
theorem w_newT {xs : List V} (hz : xs.length ≤ sizeLine) (q : ∀ p H2, Fr H p → Ex H H2 → At H2 p (.tup xs) → Q (.ref p) H2) : nT Q xs H :=
  ⟨hz, fun p hp => q p _ hp (Ex.new hp) upd_same⟩
theorem w_newL {xs : List V} (hz : xs.length ≤ sizeLine) (q : ∀ p H2, Fr H p → Ex H H2 → At H2 p (.lst xs) → Q (.ref p) H2) : nL Q xs H :=
  ⟨hz, fun p hp => q p _ hp (Ex.new hp) upd_same⟩
end
/-! ### operators of several kinds -/
/-- a product that the model reckons -/
def CM (i j : Int) : Prop := CMul i j ∨ CMulX i j
theorem CM.of_left {i j : Int} (h : i.natAbs < 2 ^ 64) : CM i j := .inl (.inl ⟨by omega, by omega⟩)
theorem CM.of_right {i j : Int} (h : j.natAbs < 2 ^ 64) : CM i j := .inl (.inr ⟨by omega, by omega⟩)
theorem CM.of_pow {i j : Int} {a b : Nat} (ha : i.natAbs < 2 ^ a) (hb : j.natAbs < 2 ^ b) (h : a + b ≤ 134217728) : CM i j := .inr (mulx_ok ha hb h)
/-- bits of ints -/
theorem bt_mul {a b : Int} {n m : Nat} (ha : a.natAbs < 2 ^ n) (hb : b.natAbs < 2 ^ m) : (a * b).natAbs < 2 ^ (n + m) := by
  rw [Int.natAbs_mul, Nat.pow_add]
  exact Nat.mul_lt_mul'' ha hb
theorem bt_mono {a : Int} {n m : Nat} (ha : a.natAbs < 2 ^ n) (h : n ≤ m) : a.natAbs < 2 ^ m := Nat.lt_of_lt_of_le ha (Nat.pow_le_pow_right (by decide) h)
theorem bt_add {a b : Int} {n m : Nat} (ha : a.natAbs < 2 ^ n) (hb : b.natAbs < 2 ^ m) : (a + b).natAbs < 2 ^ (n + m + 1) := by
  have h := Int.natAbs_add_le a b
  have h1 : a.natAbs < 2 ^ (n + m) := bt_mono ha (by omega)
  have h2 : b.natAbs < 2 ^ (n + m) := bt_mono hb (by omega)
  rw [Nat.pow_succ]
  omega
theorem bt_addL {a b : Int} {n m k : Nat} (ha : a.natAbs < 2 ^ n) (hb : b.natAbs < 2 ^ m) (h1 : n ≤ k) (h2 : m ≤ k) : (a + b).natAbs < 2 ^ (k + 1) := by
  have h := Int.natAbs_add_le a b
  have h1 : a.natAbs < 2 ^ k := bt_mono ha h1
  have h2 : b.natAbs < 2 ^ k := bt_mono hb h2
  rw [Nat.pow_succ]
  omega
theorem bt_neg {a : Int} {n : Nat} (ha : a.natAbs < 2 ^ n) : (-a).natAbs < 2 ^ n := by rw [Int.natAbs_neg]; exact ha
theorem bt_sub {a b : Int} {n m : Nat} (ha : a.natAbs < 2 ^ n) (hb : b.natAbs < 2 ^ m) : (a - b).natAbs < 2 ^ (n + m + 1) := by
  rw [Int.sub_eq_add_neg]; exact bt_add ha (bt_neg hb)
theorem bt_subL {a b : Int} {n m k : Nat} (ha : a.natAbs < 2 ^ n) (hb : b.natAbs < 2 ^ m) (h1 : n ≤ k) (h2 : m ≤ k) : (a - b).natAbs < 2 ^ (k + 1) := by
  rw [Int.sub_eq_add_neg]; exact bt_addL ha (bt_neg hb) h1 h2
theorem bt_abs {a : Int} {n : Nat} (ha : a.natAbs < 2 ^ n) : ((a.natAbs : Int)).natAbs < 2 ^ n := by rw [Int.natAbs_natCast]; exact ha
theorem bt_fdiv {a b : Int} {n : Nat} (ha : a.natAbs < 2 ^ n) : (a / b).natAbs < 2 ^ n := Nat.lt_of_le_of_lt (Int.natAbs_ediv_le_natAbs _ _) ha
theorem cm {a b : Int} {n m : Nat} (ha : a.natAbs < 2 ^ n) (hb : b.natAbs < 2 ^ m) (h : n + m ≤ 100000) : CM a b := CM.of_pow ha hb (by omega)
def rInt1 : List V → Hp → VK → Prop := fun xs H Q => (∃ i, xs = [.int i] ∧ Q (.int i) H) ∨ ∃ k, xs = [.bl k] ∧ Q (.int (if k then 1 else 0)) H
def rTupOf (K : PySem.W.Frag) : List V → Hp → VK → Prop := fun xs H Q => ∃ p ys, xs = [.ref p] ∧ ((SqL K H p ys ∧ ∀ l, Fr H l → Q (.ref l) (upd H l (.tup ys))) ∨ (SqT K H p ys ∧ Q (.ref p) H))
def rListOf (K : PySem.W.Frag) : List V → Hp → VK → Prop := fun xs H Q => ∃ p ys, xs = [.ref p] ∧ (SqL K H p ys ∨ SqT K H p ys) ∧ ∀ l, Fr H l → Q (.ref l) (upd H l (.lst ys))
def rIns : V → List V → Hp → VK → Prop := fun x vs H Q => ∃ (l : Addr) (xs : List V) (i : Int) (y : V), x = .ref l ∧ vs = [.int i, y] ∧ At H l (.lst xs) ∧ xs.length < sizeLine ∧ 0 ≤ i ∧ i < 2 ^ 63 ∧ Q .non (upd H l (.lst (xs.take i.toNat ++ [y] ++ xs.drop i.toNat)))
def rShl : R2 := fun x y H Q => ∃ k : Nat, x = .int 1 ∧ y = .int (k : Int) ∧ k ≤ 134217727 ∧ Q (.int (2 ^ k)) H
def rShr : R2 := fun x y H Q => ∃ (n k : Nat), x = .int (n : Int) ∧ y = .int (k : Int) ∧ Q (.int ((n / 2 ^ k : Nat) : Int)) H
def rOdd : R2 := fun x y H Q => ∃ n : Nat, x = .int (n : Int) ∧ y = .int 1 ∧ Q (.int ((n % 2 : Nat) : Int)) H
def rMax2 : List V → Hp → VK → Prop := fun xs H Q => ∃ i j, xs = [.int i, .int j] ∧ Q (.int (if j > i then j else i)) H
def rMin2 : List V → Hp → VK → Prop := fun xs H Q => ∃ i j, xs = [.int i, .int j] ∧ Q (.int (if j < i then j else i)) H
def rAddZ : R2 := fun x y H Q => (rI0 fun i j => .int (i + j)) x y H Q ∨ rCat x y H Q
def rMulZ : R2 := fun x y H Q => rI CMul (fun i j => .int (i * j)) x y H Q ∨ rI CMulX (fun i j => .int (i * j)) x y H Q
def rEqZ (K : PySem.W.Frag) : R2 := fun x y H Q => rEq x y H Q ∨ rEqD K x y H Q
def rNeZ (K : PySem.W.Frag) : R2 := fun x y H Q => rNe x y H Q ∨ rNeD K x y H Q
section
variable {X : Cx}
theorem op_add : OpR X (binaryOp .Add) rAddZ := L2.op_add.or op_cat
theorem op_sub : OpR X (binaryOp .Sub) (rI0 fun i j => .int (i - j)) := L2.op_sub
theorem op_mul : OpR X (binaryOp .Mult) rMulZ := L2.op_mul.or op_mulX
theorem op_fdiv : OpR X (binaryOp .FloorDiv) (rI CDivW fun i j => .int (i / j)) := op_fdivW
theorem op_mod : OpR X (binaryOp .Mod) (rI (fun _ j => 0 < j) fun i j => .int (i % j)) := L2.op_mod
theorem un_neg : UnR X (unaryOp .USub) (rU fun i => .int (-i)) := L2.un_neg
theorem op_lt : OpR X (compareOp .Lt) (rI0 fun i j => .bl (decide (i < j))) := L2.op_lt
theorem op_le : OpR X (compareOp .LtE) (rI0 fun i j => .bl (decide (i ≤ j))) := L2.op_le
theorem op_gt : OpR X (compareOp .Gt) (rI0 fun i j => .bl (decide (j < i))) := L2.op_gt
theorem op_ge : OpR X (compareOp .GtE) (rI0 fun i j => .bl (decide (j ≤ i))) := L2.op_ge
theorem call_max2 (hc : X.calm = true) : CallR X (.builtin "max") rMax2 := L2.call_max2 hc
theorem call_min2 (hc : X.calm = true) : CallR X (.builtin "min") rMin2 := L2.call_min2 hc
theorem op_shl : OpR X (binaryOp .LShift) rShl := op_oneShl
theorem op_shr : OpR X (binaryOp .RShift) rShr := by
  intro pins s σ H x y u v Q I rx ry h
  obtain ⟨n, k, rfl, rfl, q⟩ := h
  refine op_shrN pins s σ H _ _ u v Q I rx ry ⟨(n : Int), k, rfl, rfl, ?_⟩
  have e : (n : Int) / 2 ^ k = ((n / 2 ^ k : Nat) : Int) := by rw [Int.natCast_ediv, Int.natCast_pow]; rfl
  rw [e]
  exact q
theorem op_and1 : OpR X (binaryOp .BitAnd) rOdd := op_odd
variable {K : PySem.W.Frag}
theorem op_eq (hK : X.K = K) (hu : X.A.units + 64 < cLine) : OpR X (compareOp .Eq) (rEqZ K) := hK ▸ L2.op_eq.or (op_eqD hu)
theorem op_ne (hK : X.K = K) (hu : X.A.units + 64 < cLine) : OpR X (compareOp .NotEq) (rNeZ K) := hK ▸ L2.op_ne.or (op_neD hu)
theorem op_in (hK : X.K = K) : OpR X (compareOp .In) (rIn K false) := hK ▸ op_in_seq
theorem op_notin (hK : X.K = K) : OpR X (compareOp .NotIn) (rIn K true) := hK ▸ op_notIn_seq
theorem ix (hK : X.K = K) : IxR X (rIx K) := hK ▸ ix_seq
theorem slL (hK : X.K = K) : SlR X (rSlL K) := hK ▸ sl_list
theorem slT (hK : X.K = K) : SlR X (rSlT K) := hK ▸ sl_tup
theorem call_len (hK : X.K = K) : CallR X (.builtin "len") (rLen K) := hK ▸ L2.call_len
theorem mt_ins : MtR X "list.insert" rIns := mt_insert
theorem call_int : CallR X (.type "int") rInt1 := call_int1
theorem call_tuple (hK : X.K = K) : CallR X (.type "tuple") (rTupOf K) := hK ▸ call_tuple_of
theorem call_list (hK : X.K = K) : CallR X (.type "list") (rListOf K) := hK ▸ call_list_of
theorem call_isi (hK : X.K = K) : CallR X (.builtin "isinstance") (rIsi K) := hK ▸ L2.call_isi
theorem call_sum (hK : X.K = K) (hc : X.calm = true) : CallR X (.builtin "sum") (rSum K) := hK ▸ cr_sum hc
theorem call_min (hK : X.K = K) (hc : X.calm = true) : CallR X (.builtin "min") (rMin K) := hK ▸ cr_min hc
theorem call_max (hK : X.K = K) (hc : X.calm = true) : CallR X (.builtin "max") (rMax K) := hK ▸ cr_max hc
theorem call_any (hK : X.K = K) (hc : X.calm = true) : CallR X (.builtin "any") (rAny K) := hK ▸ cr_any hc
theorem call_all (hK : X.K = K) (hc : X.calm = true) : CallR X (.builtin "all") (rAll K) := hK ▸ cr_all hc
theorem call_sorted (hK : X.K = K) : CallR X (.builtin "sorted") (rSorted K) := hK ▸ cr_sorted
theorem piL (hK : X.K = K) {tg l : Expr} {tl : TE} (hl : PE X l tl) : PI X tg l (iList K tl) := hK ▸ pi_list hl
theorem piT (hK : X.K = K) {tg l : Expr} {tl : TE} (hl : PE X l tl) : PI X tg l (iTup K tl) := hK ▸ pi_tup hl
theorem fld (hK : X.K = K) {e : Expr} {ta : TE} {f : Str} {pos : Pos} (he : PE X e ta) (hb : attributeBase e f X.env (eval e X.env) = eval e X.env) : PE X (.Attribute e f pos) (tFld K ta f) := hK ▸ pe_fld he hb
theorem con (hK : X.K = K) {e : Expr} {ta : TE} {f : Str} {pos : Pos} (he : PE X e ta) (hb : attributeBase e f X.env (eval e X.env) = eval e X.env) : PE X (.Attribute e f pos) (tCon K ta f) := hK ▸ pe_con he hb
end
section
variable {K : PySem.W.Frag} {σ : L2.St} {H H' : Hp} {Q : VK} {v x y : V} {a b p : Addr} {xs ys : List V} {i j : Int}
theorem w_addI (q : Q (.int (i + j)) H) : rAddZ (.int i) (.int j) H Q := .inl ⟨i, j, rfl, rfl, q⟩
theorem w_addL (h1 : At H a (.lst xs)) (h2 : At H b (.lst ys)) (hz : xs.length + ys.length ≤ sizeLine) (q : ∀ p H2, Fr H p → Ex H H2 → At H2 p (.lst (xs ++ ys)) → Q (.ref p) H2) : rAddZ (.ref a) (.ref b) H Q :=
  .inr ⟨a, b, xs, ys, rfl, rfl, h1, h2, hz, fun p hp => q p _ hp (Ex.new hp) upd_same⟩
theorem w_mulI (hc : CM i j) (q : Q (.int (i * j)) H) : rMulZ (.int i) (.int j) H Q := hc.elim (fun h => .inl ⟨i, j, rfl, rfl, h, q⟩) fun h => .inr ⟨i, j, rfl, rfl, h, q⟩
theorem w_eqZI (q : Q (.bl (decide (i = j))) H) : rEqZ K (.int i) (.int j) H Q := .inl (w_eqI q)
theorem w_neZI (q : Q (.bl (!decide (i = j))) H) : rNeZ K (.int i) (.int j) H Q := .inl (w_neI q)
theorem w_eqZS {i j : Str} (q : Q (.bl (decide (i = j))) H) : rEqZ K (.str i) (.str j) H Q := .inl (w_eqS q)
theorem w_neZS {i j : Str} (q : Q (.bl (!decide (i = j))) H) : rNeZ K (.str i) (.str j) H Q := .inl (w_neS q)
theorem w_int1 (q : Q (.int i) H) : rInt1 [.int i] H Q := .inl ⟨i, rfl, q⟩
theorem w_tupL (h : SqL K H a xs) (q : ∀ p H2, Fr H p → Ex H H2 → At H2 p (.tup xs) → Q (.ref p) H2) : rTupOf K [.ref a] H Q := ⟨a, xs, rfl, .inl ⟨h, fun p hp => q p _ hp (Ex.new hp) upd_same⟩⟩
theorem w_tupT (h : SqT K H a xs) (q : Q (.ref a) H) : rTupOf K [.ref a] H Q := ⟨a, xs, rfl, .inr ⟨h, q⟩⟩
theorem w_listL (h : SqL K H a xs) (q : ∀ p H2, Fr H p → Ex H H2 → At H2 p (.lst xs) → Q (.ref p) H2) : rListOf K [.ref a] H Q := ⟨a, xs, rfl, .inl h, fun p hp => q p _ hp (Ex.new hp) upd_same⟩
theorem w_listT (h : SqT K H a xs) (q : ∀ p H2, Fr H p → Ex H H2 → At H2 p (.lst xs) → Q (.ref p) H2) : rListOf K [.ref a] H Q := ⟨a, xs, rfl, .inr h, fun p hp => q p _ hp (Ex.new hp) upd_same⟩
theorem w_lenL (h : SqL K H a xs) (q : Q (.int xs.length) H) : rLen K [.ref a] H Q := ⟨_, _, rfl, .inl ⟨xs, h, rfl⟩, q⟩
theorem w_lenT (h : SqT K H a xs) (q : Q (.int xs.length) H) : rLen K [.ref a] H Q := ⟨_, _, rfl, .inr ⟨xs, h, rfl⟩, q⟩
theorem w_lenLI {ns : List Int} (h : SqL K H a (ns.map V.int)) (q : Q (.int ns.length) H) : rLen K [.ref a] H Q := w_lenL h (by rw [List.length_map]; exact q)
theorem w_lenTI {ns : List Int} (h : SqT K H a (ns.map V.int)) (q : Q (.int ns.length) H) : rLen K [.ref a] H Q := w_lenT h (by rw [List.length_map]; exact q)
theorem atI_int {ns : List Int} (h0 : 0 ≤ i) (h1 : i < ns.length) : atI (ns.map V.int) i = some (.int (ns.getD i.toNat 0)) := by
  unfold atI ixN
  rw [if_pos h0, List.length_map, if_pos h1]
  show (ns.map V.int)[i.toNat]? = _
  have h : i.toNat < ns.length := by omega
  rw [List.getElem?_map, List.getD_eq_getElem?_getD, List.getElem?_eq_getElem h]
  rfl
theorem w_ixLI {ns : List Int} {k : Nat} (h : SqL K H a (ns.map V.int)) (hk : i.toNat = k) (h0 : 0 ≤ i) (h1 : i < ns.length) (q : Q (.int (ns.getD k 0)) H) : rIx K (.ref a) (.int i) H Q := .inl ⟨a, _, i, _, rfl, rfl, h, atI_int h0 h1, hk ▸ q⟩
theorem w_ixTI {ns : List Int} {k : Nat} (h : SqT K H a (ns.map V.int)) (hk : i.toNat = k) (h0 : 0 ≤ i) (h1 : i < ns.length) (q : Q (.int (ns.getD k 0)) H) : rIx K (.ref a) (.int i) H Q := .inr (.inl ⟨a, _, i, _, rfl, rfl, h, atI_int h0 h1, hk ▸ q⟩)
theorem w_ixL (h : SqL K H a xs) (ha : atI xs i = some v) (q : Q v H) : rIx K (.ref a) (.int i) H Q := .inl ⟨a, _, i, _, rfl, rfl, h, ha, q⟩
theorem w_ixT (h : SqT K H a xs) (ha : atI xs i = some v) (q : Q v H) : rIx K (.ref a) (.int i) H Q := .inr (.inl ⟨a, _, i, _, rfl, rfl, h, ha, q⟩)
theorem w_bm {T : String} {r : V → List V → Hp → VK → Prop} {to : TE} {t : TA} (h : to σ H fun x H1 => tyV K T x H1 ∧ t σ H1 fun xs H2 => r x xs H2 Q) : tBM K T r to t σ H Q := h
theorem w_bm0 {T : String} {r : V → List V → Hp → VK → Prop} {to : TE} (h : to σ H fun x H1 => tyV K T x H1 ∧ r x [] H1 Q) : tBM0 K T r to σ H Q := h
/-- the object of a list's method stands -/
theorem w_tyL {A : Prop} (h : At H a (.lst xs)) (k : A) : tyV K "list" (.ref a) H ∧ A := ⟨.inl ⟨rfl, _, sq_of h⟩, k⟩
theorem w_app (h : At H a (.lst xs)) (hz : xs.length < sizeLine) (q : ∀ H2, At H2 a (.lst (xs ++ [v])) → Nl H H2 → (∀ H0, Ex H0 H → Fr H0 a → Ex H0 H2) → (∀ b o, b ≠ a → At H b o → At H2 b o) → Q .non H2) : rAppend (.ref a) [v] H Q :=
  ⟨a, xs, v, rfl, rfl, h, hz, q _ upd_same (Nl.upd h) (fun H0 e n => Ex.mut e n) (fun b o hb e => by unfold At; rw [upd_ne hb]; exact e)⟩
theorem w_sl {r : V → Option Int → Option Int → Hp → VK → Prop} {te : TE} {tl th : TO} (h : te σ H fun x H1 => tl σ H1 fun l H2 => th σ H2 fun u H3 => r x l u H3 Q) : tSl r te tl th σ H Q := h
theorem w_noPart {Q : Option Int → Hp → Prop} (h : Q none H) : tNoPart σ H Q := h
theorem w_part {t : TE} {Q : Option Int → Hp → Prop} (h : t σ H fun x H1 => ∃ i, x = .int i ∧ Q (some i) H1) : tPart t σ H Q := h
theorem w_exI {R : Int → Prop} (h : R i) : ∃ i', V.int i = .int i' ∧ R i' := ⟨i, rfl, h⟩
theorem w_slL {lo hi : Option Int} (h : SqL K H a xs) (q : ∀ p H2, Fr H p → Ex H H2 → At H2 p (.lst (cutV xs lo hi)) → Q (.ref p) H2) : rSlL K (.ref a) lo hi H Q := ⟨a, xs, rfl, h, fun p hp => q p _ hp (Ex.new hp) upd_same⟩
theorem cut_from {xs : List V} (h : 0 ≤ i) : cutV xs (some i) none = xs.drop i.toNat := by
  obtain ⟨k, rfl⟩ := Int.eq_ofNat_of_zero_le h
  unfold cutV
  rw [HT.sIx_nat, HT.sIx_none, Int.toNat_natCast]
  by_cases hk : k ≤ xs.length
  · rw [Nat.min_eq_left hk, List.take_of_length_le]
    rw [List.length_drop]
    exact Nat.le_refl _
  · rw [Nat.min_eq_right (by omega), Nat.sub_self, List.take_zero, List.drop_eq_nil_of_le (by omega)]
theorem cut_to {xs : List V} (h : 0 ≤ i) : cutV xs none (some i) = xs.take i.toNat := by
  obtain ⟨k, rfl⟩ := Int.eq_ofNat_of_zero_le h
  unfold cutV
  rw [HT.sIx_nat, HT.sIx_none, Int.toNat_natCast, List.drop_zero, Nat.sub_zero]
  by_cases hk : k ≤ xs.length
  · rw [Nat.min_eq_left hk]
  · rw [Nat.min_eq_right (by omega), List.take_of_length_le (Nat.le_refl _), List.take_of_length_le (by omega)]
theorem cut_ft {xs : List V} (h : 0 ≤ i) (h2 : 0 ≤ j) : cutV xs (some i) (some j) = (xs.drop i.toNat).take (j.toNat - i.toNat) := by
  obtain ⟨k, rfl⟩ := Int.eq_ofNat_of_zero_le h
  obtain ⟨l, rfl⟩ := Int.eq_ofNat_of_zero_le h2
  unfold cutV
  rw [HT.sIx_nat, HT.sIx_nat, Int.toNat_natCast, Int.toNat_natCast]
  by_cases hk : k ≤ xs.length
  · rw [Nat.min_eq_left hk]
    by_cases hl : l ≤ xs.length
    · rw [Nat.min_eq_left hl]
    · rw [Nat.min_eq_right (by omega), List.take_of_length_le (by rw [List.length_drop]; exact Nat.le_refl _), List.take_of_length_le (by rw [List.length_drop]; omega)]
  · rw [Nat.min_eq_right (by omega : xs.length ≤ k), List.drop_eq_nil_of_le (Nat.le_refl _), List.drop_eq_nil_of_le (by omega), List.take_nil, List.take_nil]
theorem w_slLIf {ns : List Int} (h : SqL K H a (ns.map V.int)) (h0 : 0 ≤ i) (q : ∀ p H2, Fr H p → Ex H H2 → At H2 p (.lst ((ns.drop i.toNat).map V.int)) → Q (.ref p) H2) : rSlL K (.ref a) (some i) none H Q := w_slL h fun p H2 a b c => q p H2 a b (by unfold At at *; rw [c, cut_from h0, List.map_drop])
theorem w_slLIt {ns : List Int} (h : SqL K H a (ns.map V.int)) (h0 : 0 ≤ i) (q : ∀ p H2, Fr H p → Ex H H2 → At H2 p (.lst ((ns.take i.toNat).map V.int)) → Q (.ref p) H2) : rSlL K (.ref a) none (some i) H Q := w_slL h fun p H2 a b c => q p H2 a b (by unfold At at *; rw [c, cut_to h0, List.map_take])
theorem w_slLIft {ns : List Int} (h : SqL K H a (ns.map V.int)) (h0 : 0 ≤ i) (h1 : 0 ≤ j) (q : ∀ p H2, Fr H p → Ex H H2 → At H2 p (.lst (((ns.drop i.toNat).take (j.toNat - i.toNat)).map V.int)) → Q (.ref p) H2) : rSlL K (.ref a) (some i) (some j) H Q := w_slL h fun p H2 a b c => q p H2 a b (by unfold At at *; rw [c, cut_ft h0 h1, List.map_take, List.map_drop])
theorem w_ins {k : Nat} (h : At H a (.lst xs)) (hz : xs.length < sizeLine) (hk : i.toNat = k) (h0 : 0 ≤ i) (h1 : i < 2 ^ 63) (q : ∀ H2, At H2 a (.lst (xs.take k ++ [v] ++ xs.drop k)) → Nl H H2 → (∀ H0, Ex H0 H → Fr H0 a → Ex H0 H2) → (∀ b o, b ≠ a → At H b o → At H2 b o) → Q .non H2) : rIns (.ref a) [.int i, v] H Q :=
  ⟨a, xs, i, v, rfl, rfl, h, hz, h0, h1, q _ (by unfold At; rw [upd_same, hk]) (Nl.upd h) (fun H0 e n => Ex.mut e n) (fun b o hb e => by unfold At; rw [upd_ne hb]; exact e)⟩
theorem w_gT {n : Nat} {t : TGs} {R : L2.St → Hp → Prop} (h : SqT K H a xs) (hn : xs.length = n) (q : t xs σ H R) : gTup K n t (.ref a) σ H R := ⟨a, xs, rfl, h, hn, q⟩
theorem w_gC {g : TG} {u : TGs} {R : L2.St → Hp → Prop} (q : g v σ H fun σ' H' => u xs σ' H' R) : gCons g u (v :: xs) σ H R := ⟨v, xs, rfl, q⟩
theorem w_gN {R : L2.St → Hp → Prop} (q : R σ H) : gNil [] σ H R := ⟨rfl, q⟩
theorem w_yes {Q : Bool → Hp → Prop} (h : Q true H) : tYes σ H Q := h
theorem w_wp {A : Prop} {vs : List Nat} {σ1 σ2 : L2.St} (h : wipe σ1 vs = wipe σ2 vs) (k : A) : wipe σ1 vs = wipe σ2 vs ∧ A := ⟨h, k⟩
theorem w_setL {k : Nat} {R : Hp → Prop} (h : At H a (.lst xs)) (h0 : ixN xs.length i = some k) (q : ∀ H2, At H2 a (.lst (xs.set k v)) → Nl H H2 → (∀ H0, Ex H0 H → Fr H0 a → Ex H0 H2) → (∀ b o, b ≠ a → At H b o → At H2 b o) → R H2) : rSetL (.ref a) (.int i) v H R :=
  ⟨a, xs, i, k, rfl, rfl, h, h0, q _ upd_same (Nl.upd h) (fun H0 e n => Ex.mut e n) (fun b o hb e => by unfold At; rw [upd_ne hb]; exact e)⟩
/-! == of lists and tuples of ints that are the same -/
theorem dpAll_ints : ∀ ns : List Int, DpAll K H (ns.map V.int) (ns.map PyData.int)
  | [] => .nil
  | n :: r => .cons (.int n) (dpAll_ints r)
theorem eqvAll_ints : ∀ ns ms : List Int, PyData.eqvAll (ns.map PyData.int) (ms.map PyData.int) = decide (ns = ms)
  | [], [] => by simp [PyData.eqvAll]
  | [], _ :: _ => by simp [PyData.eqvAll]
  | _ :: _, [] => by simp [PyData.eqvAll]
  | a :: r, b :: t => by
    simp only [List.map_cons, PyData.eqvAll, PyData.eqv, eqvAll_ints r t]
    by_cases h : a = b <;> by_cases h' : r = t <;> simp [h, h']
theorem shaped_tup (ns : List Int) : SeqAt.shaped (.tuple (ns.map PyData.int)) = true := by
  simp [SeqAt.shaped, PyData.canLay0, PyData.depth, PySem.W.ke_canLayAll0, PySem.W.ke_depthAll]
theorem w_eqLI {ns ms : List Int} (h1 : SqL K H a (ns.map V.int)) (h2 : SqL K H b (ms.map V.int)) (q : Q (.bl (decide (ns = ms))) H) : rEqZ K (.ref a) (.ref b) H Q :=
  .inr ⟨_, _, .lst h1 (dpAll_ints ns), .lst h2 (dpAll_ints ms), PySem.W.ke_shaped_ints ns, PySem.W.ke_shaped_ints ms, by simp only [PyData.eqv, eqvAll_ints]; exact q⟩
theorem w_neLI {ns ms : List Int} (h1 : SqL K H a (ns.map V.int)) (h2 : SqL K H b (ms.map V.int)) (q : Q (.bl (!decide (ns = ms))) H) : rNeZ K (.ref a) (.ref b) H Q :=
  .inr ⟨_, _, .lst h1 (dpAll_ints ns), .lst h2 (dpAll_ints ms), PySem.W.ke_shaped_ints ns, PySem.W.ke_shaped_ints ms, by simp only [PyData.eqv, eqvAll_ints]; exact q⟩
theorem w_eqTI {ns ms : List Int} (h1 : SqT K H a (ns.map V.int)) (h2 : SqT K H b (ms.map V.int)) (q : Q (.bl (decide (ns = ms))) H) : rEqZ K (.ref a) (.ref b) H Q :=
  .inr ⟨_, _, .tup h1 (dpAll_ints ns), .tup h2 (dpAll_ints ms), shaped_tup ns, shaped_tup ms, by simp only [PyData.eqv, eqvAll_ints]; exact q⟩
theorem w_neTI {ns ms : List Int} (h1 : SqT K H a (ns.map V.int)) (h2 : SqT K H b (ms.map V.int)) (q : Q (.bl (!decide (ns = ms))) H) : rNeZ K (.ref a) (.ref b) H Q :=
  .inr ⟨_, _, .tup h1 (dpAll_ints ns), .tup h2 (dpAll_ints ms), shaped_tup ns, shaped_tup ms, by simp only [PyData.eqv, eqvAll_ints]; exact q⟩
theorem w_shl {k : Nat} (hk : k ≤ 134217727) (q : Q (.int (2 ^ k)) H) : rShl (.int 1) (.int (k : Int)) H Q := ⟨k, rfl, rfl, hk, q⟩
theorem w_shr {n k : Nat} (q : Q (.int ((n / 2 ^ k : Nat) : Int)) H) : rShr (.int (n : Int)) (.int (k : Int)) H Q := ⟨n, k, rfl, rfl, q⟩
theorem w_odd {n : Nat} (q : Q (.int ((n % 2 : Nat) : Int)) H) : rOdd (.int (n : Int)) (.int 1) H Q := ⟨n, rfl, rfl, q⟩
theorem w_sum {ns : List Int} (h : SqL K H a (ns.map V.int)) (q : Q (.int ns.sum) H) : rSum K [.ref a] H Q := ⟨a, ns, rfl, h, q⟩
theorem w_max2 (q : Q (.int (max i j)) H) : rMax2 [.int i, .int j] H Q := ⟨i, j, rfl, by
  have e : (if j > i then j else i) = max i j := by split <;> omega
  rw [e]; exact q⟩
theorem w_min2 (q : Q (.int (min i j)) H) : rMin2 [.int i, .int j] H Q := ⟨i, j, rfl, by
  have e : (if j < i then j else i) = min i j := by split <;> omega
  rw [e]; exact q⟩
/-! membership among ints -/
theorem inV_int {ns : List Int} : inV (.int i) (ns.map V.int) = decide (i ∈ ns) := by
  unfold inV
  induction ns with
  | nil => simp
  | cons n r ih =>
    rw [List.map_cons, List.any_cons, ih]
    have e : eqV (.int n) (.int i) = decide (n = i) := by unfold eqV; rfl
    rw [e]
    by_cases h : n = i
    · subst h; simp
    · have h' : ¬ i = n := fun z => h z.symm
      simp [h, h']
theorem flat_ints {ns : List Int} : (ns.map V.int).all flatV = true := by
  rw [List.all_map]
  exact List.all_eq_true.mpr fun _ _ => rfl
theorem w_inT {ns : List Int} (h : SqT K H a (ns.map V.int)) (q : Q (.bl (decide (i ∈ ns))) H) : rIn K false (.int i) (.ref a) H Q := ⟨a, _, rfl, .inr h, rfl, flat_ints, by rw [inV_int]; exact q⟩
theorem w_ninT {ns : List Int} (h : SqT K H a (ns.map V.int)) (q : Q (.bl (!decide (i ∈ ns))) H) : rIn K true (.int i) (.ref a) H Q := ⟨a, _, rfl, .inr h, rfl, flat_ints, by rw [inV_int]; exact q⟩
theorem w_inL {ns : List Int} (h : SqL K H a (ns.map V.int)) (q : Q (.bl (decide (i ∈ ns))) H) : rIn K false (.int i) (.ref a) H Q := ⟨a, _, rfl, .inl h, rfl, flat_ints, by rw [inV_int]; exact q⟩
theorem w_ninL {ns : List Int} (h : SqL K H a (ns.map V.int)) (q : Q (.bl (!decide (i ∈ ns))) H) : rIn K true (.int i) (.ref a) H Q := ⟨a, _, rfl, .inl h, rfl, flat_ints, by rw [inV_int]; exact q⟩
/-- the ints of a list of ints -/
def unI : List V → Option (List Int)
  | [] => some []
  | .int i :: r => match unI r with
    | some l => some (i :: l)
    | none => none
  | _ => none
theorem unI_ok : ∀ {xs : List V} {ns : List Int}, unI xs = some ns → xs = ns.map V.int
  | [], ns, h => by cases h; rfl
  | x :: r, ns, h => by
    cases x <;> simp only [unI, reduceCtorEq] at h
    split at h
    · rename_i l e
      cases h
      rw [unI_ok e]
      rfl
    · cases h
theorem lU {ns : List Int} (h : SqL K H a xs) (e : unI xs = some ns) : SqL K H a (ns.map V.int) := unI_ok e ▸ h
theorem tU {ns : List Int} (h : SqT K H a xs) (e : unI xs = some ns) : SqT K H a (ns.map V.int) := unI_ok e ▸ h
/-! lists of naturals -/
theorem getD_map_cast (os : List Nat) (k : Nat) : (os.map (fun n : Nat => (n : Int))).getD k 0 = ((os.getD k 0 : Nat) : Int) := by
  simp only [List.getD_eq_getElem?_getD, List.getElem?_map]
  cases os[k]? <;> rfl
theorem getD_get {α : Type} (xs : List α) (k : Nat) (d : α) (h : k < xs.length) : xs.getD k d = xs[k] := by
  rw [List.getD_eq_getElem?_getD, List.getElem?_eq_getElem h]; rfl
theorem w_ixTN {os : List Nat} {k : Nat} (h : SqT K H a ((os.map fun n : Nat => (n : Int)).map V.int)) (hk : i.toNat = k) (h0 : 0 ≤ i) (h1 : i < os.length) (q : Q (.int ((os.getD k 0 : Nat) : Int)) H) : rIx K (.ref a) (.int i) H Q :=
  w_ixTI h hk h0 (by rw [List.length_map]; exact h1) (by rw [getD_map_cast]; exact q)
theorem w_ixLN {os : List Nat} {k : Nat} (h : SqL K H a ((os.map fun n : Nat => (n : Int)).map V.int)) (hk : i.toNat = k) (h0 : 0 ≤ i) (h1 : i < os.length) (q : Q (.int ((os.getD k 0 : Nat) : Int)) H) : rIx K (.ref a) (.int i) H Q :=
  w_ixLI h hk h0 (by rw [List.length_map]; exact h1) (by rw [getD_map_cast]; exact q)
theorem get_nat {os : List Nat} {k : Nat} {x : V} (h : ((os.map fun n : Nat => (n : Int)).map V.int)[k]? = some x) : k < os.length ∧ x = .int ((os.getD k 0 : Nat) : Int) := by
  have h1 : k < os.length := by simpa using (List.getElem?_eq_some_iff.mp h).1
  have h2 : x = ((os.map fun n : Nat => (n : Int)).map V.int)[k]'(by simpa using h1) := by
    rw [List.getElem?_eq_getElem (by simpa using h1)] at h; exact (Option.some.inj h).symm
  refine ⟨h1, ?_⟩
  rw [h2, List.getElem_map, List.getElem_map, getD_get _ _ _ h1]
theorem get_int {ns : List Int} {k : Nat} {x : V} (h : (ns.map V.int)[k]? = some x) : k < ns.length ∧ x = .int (ns.getD k 0) := by
  rw [List.getElem?_map] at h
  cases e : ns[k]? with
  | none => rw [e] at h; cases h
  | some y =>
    rw [e] at h
    cases h
    exact ⟨(List.getElem?_eq_some_iff.mp e).1, by rw [List.getD_eq_getElem?_getD, e]; rfl⟩
theorem range_map {α : Type} (es : List Int) (f : Int → α) : (List.range es.length).map (fun i => f (es.getD i 0)) = es.map f := by
  apply List.ext_getElem
  · simp
  · intro i h1 h2
    simp at h1 h2
    simp [h1]
theorem range_filter {α : Type} (es : List Int) (P : Int → Bool) (f : Int → α) : ((List.range es.length).filter fun i => P (es.getD i 0)).map (fun i => f (es.getD i 0)) = (es.filter P).map f := by
  have e : (List.range es.length).map (fun i => es.getD i 0) = es := (range_map es id).trans (List.map_id es)
  conv => rhs; rw [← e]
  rw [List.filter_map, List.map_map]
  rfl
theorem range_id (es : List Int) : (List.range es.length).map (fun i => es.getD i 0) = es := (range_map es id).trans (List.map_id es)
/-! isinstance with a built-in class -/
theorem w_isiB {a b : String} {r : Bool} (ty : TyX K H x (.type a)) (h : kitB a b = some r) (q : Q (.bl r) H) : rIsi K [x, .ty b] H Q := ⟨x, _, _, _, r, rfl, .ty b, ty, kit_ty h, q⟩
theorem w_isiII (q : Q (.bl true) H) : rIsi K [.int i, .ty "int"] H Q := w_isiB (.base (.int _)) (by decide +kernel) q
theorem w_isiIB (q : Q (.bl false) H) : rIsi K [.int i, .ty "bool"] H Q := w_isiB (.base (.int _)) (by decide +kernel) q
theorem w_isiBI {k : Bool} (q : Q (.bl true) H) : rIsi K [.bl k, .ty "int"] H Q := w_isiB (.base (.bl _)) (by decide +kernel) q
theorem w_isiBB {k : Bool} (q : Q (.bl true) H) : rIsi K [.bl k, .ty "bool"] H Q := w_isiB (.base (.bl _)) (by decide +kernel) q
theorem w_isiTT (h : At H a (.tup xs)) (q : Q (.bl true) H) : rIsi K [.ref a, .ty "tuple"] H Q := w_isiB (.base (.tup h)) (by decide +kernel) q
theorem w_isiLL (h : At H a (.lst xs)) (q : Q (.bl true) H) : rIsi K [.ref a, .ty "list"] H Q := w_isiB (.base (.lst h)) (by decide +kernel) q
theorem w_isiSS {z : Str} (q : Q (.bl true) H) : rIsi K [.str z, .ty "str"] H Q := w_isiB (.base (.str _)) (by decide +kernel) q
end
/-! ### loops: what is walked (Src), the loop's goal (FG), a comprehension's (CG) -/
/-- J takes n turns while Φ holds; the i-th thing x stands in the heap behind as Y says -/
structure Src (J : It) (Φ : Hp → Prop) (n : Nat) (Y : Nat → V → Hp → Prop) : Prop where
  go : ∀ i H', Φ H' → i < n → J.go i H'
  stop : ∀ H', Φ H' → J.stop n H'
  yld : ∀ i H' x H'', Φ H' → i < n → J.yld i H' x H'' → Ex H' H'' ∧ Y i x H''
def FG (J : It) (g : TG) (tb : TS) (D : Ends) (σ : L2.St) (H1 : Hp) : Prop := ∃ W : Nat → Nat → L2.St → Hp → Prop, (∃ m, W 0 m σ H1) ∧ ∀ i m σ H, W i m σ H →
  (J.stop i H ∧ D.nx σ H) ∨ (J.go i H ∧ ∃ N : L2.St → Hp → Prop, (∀ σ' H', N σ' H' → ∃ m', m' < m ∧ W (i + 1) m' σ' H') ∧ ∀ x H', J.yld i H x H' → g x σ H' fun σ2 H2 => tb { D with nx := N, ct := N, bk := D.nx } σ2 H2)
def CG (J : It) (g : TG) (tt : TT) (te : TE) (vs : List Nat) (σ : L2.St) (H1 : Hp) (Q : VK) : Prop := ∀ D, H1 D = none → ∃ W : Nat → Nat → Hp → Prop, (∃ m, W 0 m (upd H1 D (.lst []))) ∧ ∀ i m H, W i m H →
  (J.stop i H ∧ Q (.ref D) H) ∨ (J.go i H ∧ ∃ Nx : Hp → Prop, (∀ H', Nx H' → ∃ m', m' < m ∧ W (i + 1) m' H') ∧ ∀ x H', J.yld i H x H' → g x (wipe σ vs) H' fun σ2 H2 => wipe σ2 vs = wipe σ vs ∧ tt σ2 H2 fun b H3 =>
    if b = true then te σ2 H3 fun y H4 => ∃ acc, H4 D = some (.lst acc) ∧ acc.length < sizeLine ∧ Nx (upd H4 D (.lst (acc ++ [y]))) else Nx H3)
section
variable {K : PySem.W.Frag} {σ : L2.St} {H H' : Hp} {Q : VK} {v x y : V} {a b p : Addr} {xs ys : List V} {i j : Int} {J : It} {Φ : Hp → Prop} {n : Nat} {Y : Nat → V → Hp → Prop} {g : TG} {tb : TS} {D : Ends} {R : It → Hp → Prop} {tt : TT} {te : TE} {vs : List Nat} {ta : TA}
def dL (K : PySem.W.Frag) (R : It → Hp → Prop) : VK := fun x H1 => ∃ a, x = .ref a ∧ (∃ xs, SqL K H1 a xs) ∧ R (Itl K a) H1
def dT (K : PySem.W.Frag) (R : It → Hp → Prop) : VK := fun x H1 => ∃ a, x = .ref a ∧ (∃ xs, SqT K H1 a xs) ∧ R (Itt K a) H1
def dR1 (R : It → Hp → Prop) : List V → Hp → Prop := fun vs H1 => ∃ j : Int, vs = [.int j] ∧ -(2 ^ 62) ≤ j ∧ j < 2 ^ 62 ∧ R (Itr 0 j.toNat) H1
def dR2 (R : It → Hp → Prop) : List V → Hp → Prop := fun vs H1 => ∃ i j : Int, vs = [.int i, .int j] ∧ (-(2 ^ 62) ≤ i ∧ i < 2 ^ 62 ∧ -(2 ^ 62) ≤ j ∧ j < 2 ^ 62) ∧ R (Itr i (j - i).toNat) H1
def dE (K : PySem.W.Frag) (R : It → Hp → Prop) : List V → Hp → Prop := fun vs H1 => ∃ a xs, vs = [.ref a] ∧ SqL K H1 a xs ∧ R (Ite K a) H1
theorem w_for {wi : TI} (h : wi σ H fun J H1 => FG J g tb D σ H1) : tFor wi g tb D σ H := h
theorem w_lc {wi : TI} (h : wi σ H fun J H1 => CG J g tt te vs σ H1 Q) : tLc wi g tt te vs σ H Q := h
theorem w_iL (h : te σ H (dL K R)) : iList K te σ H R := h
theorem w_iT (h : te σ H (dT K R)) : iTup K te σ H R := h
theorem w_iR1 (h : ta σ H (dR1 R)) : iRng1 ta σ H R := h
theorem w_iR2 (h : ta σ H (dR2 R)) : iRng2 ta σ H R := h
theorem w_iE (h : ta σ H (dE K R)) : iEnum K ta σ H R := h
theorem i_L (h : SqL K H a xs) (k : ∀ J, Src J (fun H' => SqL K H' a xs) xs.length (fun i x _ => xs[i]? = some x) → R J H) : dL K R (.ref a) H :=
  ⟨a, rfl, ⟨xs, h⟩, k _ ⟨fun i H' hp hi => ⟨xs, xs[i], hp, List.getElem?_eq_getElem hi⟩, fun H' hp => ⟨xs, hp, Nat.le_refl _⟩, fun i H' x H'' hp hi hy => by
    obtain ⟨e, f⟩ := hy
    exact ⟨by rw [e]; exact Ex.refl _, f xs hp⟩⟩⟩
theorem i_T (h : SqT K H a xs) (k : ∀ J, Src J (fun H' => SqT K H' a xs) xs.length (fun i x _ => xs[i]? = some x) → R J H) : dT K R (.ref a) H :=
  ⟨a, rfl, ⟨xs, h⟩, k _ ⟨fun i H' hp hi => ⟨xs, xs[i], hp, List.getElem?_eq_getElem hi⟩, fun H' hp => ⟨xs, hp, Nat.le_refl _⟩, fun i H' x H'' hp hi hy => by
    obtain ⟨e, f⟩ := hy
    exact ⟨by rw [e]; exact Ex.refl _, f xs hp⟩⟩⟩
theorem i_R1 (h1 : -(2 ^ 62) ≤ i) (h2 : i < 2 ^ 62) (k : ∀ J, Src J (fun _ => True) i.toNat (fun k x _ => x = .int (k : Nat)) → R J H) : dR1 R [.int i] H :=
  ⟨i, rfl, h1, h2, k _ ⟨fun i H' _ hi => hi, fun H' _ => Nat.le_refl _, fun i H' x H'' _ hi hy => by
    obtain ⟨e, f⟩ := hy
    exact ⟨by rw [e]; exact Ex.refl _, by rw [f, Int.zero_add]⟩⟩⟩
theorem i_R2 (h1 : -(2 ^ 62) ≤ i ∧ i < 2 ^ 62 ∧ -(2 ^ 62) ≤ j ∧ j < 2 ^ 62) (k : ∀ J, Src J (fun _ => True) (j - i).toNat (fun k x _ => x = .int (i + (k : Nat))) → R J H) : dR2 R [.int i, .int j] H :=
  ⟨i, j, rfl, h1, k _ ⟨fun i H' _ hi => hi, fun H' _ => Nat.le_refl _, fun i H' x H'' _ hi hy => by
    obtain ⟨e, f⟩ := hy
    exact ⟨by rw [e]; exact Ex.refl _, f⟩⟩⟩
theorem i_E (h : SqL K H a xs) (k : ∀ J, Src J (fun H' => SqL K H' a xs) xs.length (fun i x H'' => ∃ T y, x = .ref T ∧ At H'' T (.tup [.int (i : Nat), y]) ∧ xs[i]? = some y) → R J H) : dE K R [.ref a] H :=
  ⟨a, xs, rfl, h, k _ ⟨fun i H' hp hi => ⟨xs, xs[i], hp, List.getElem?_eq_getElem hi⟩, fun H' hp => ⟨xs, hp, Nat.le_refl _⟩, fun i H' x H'' hp hi hy => by
    obtain ⟨T, y, e1, e2, e3, f⟩ := hy
    exact ⟨by rw [e3]; exact Ex.new e2, T, y, e1, by rw [e3]; exact upd_same, f xs hp⟩⟩⟩
/-- a for loop by its invariant -/
theorem fg (S : Src J Φ n Y) (Pv : Nat → L2.St → Hp → Prop) (h0 : Pv 0 σ H) (hx : ∀ i σ' H', i ≤ n → Pv i σ' H' → Φ H')
    (hs : ∀ i x σ' H' H'', i < n → Pv i σ' H' → Ex H' H'' → Y i x H'' → g x σ' H'' fun σ2 H2 => tb ⟨Pv (i + 1), D.rt, D.nx, Pv (i + 1)⟩ σ2 H2) (hd : ∀ σ' H', Pv n σ' H' → D.nx σ' H') : FG J g tb D σ H := by
  refine ⟨fun i m σ H => m = n - i ∧ i ≤ n ∧ Pv i σ H, ⟨n, by simp, Nat.zero_le _, h0⟩, ?_⟩
  rintro i m σ H ⟨rfl, hi, p⟩
  have hp := hx i σ H hi p
  by_cases hlt : i < n
  · refine Or.inr ⟨S.go i H hp hlt, Pv (i + 1), fun σ' H' q => ⟨n - (i + 1), by omega, rfl, hlt, q⟩, fun x H' hy => ?_⟩
    obtain ⟨e, y⟩ := S.yld i H x H' hp hlt hy
    exact hs i x σ H H' hlt p e y
  · have e : i = n := by omega
    subst e
    exact Or.inl ⟨S.stop H hp, hd σ H p⟩
/-- a for loop that stores nothing but its own name (slot j) and changes nothing that stood -/
def EndE (H : Hp) (σ : L2.St) (j : Nat) : L2.St → Hp → Prop := fun σ' G' => (∃ v, σ' = σ.set j v) ∧ Ex H G'
theorem fgE (j : Nat) {v0 : Option V} (S : Src J Φ n Y) (hj : σ[j]? = some v0) (hx : ∀ G, Ex H G → Φ G) (hs : ∀ i x G v, i < n → Ex H G → Y i x G → g x (σ.set j v) G fun σ2 H2 => tb ⟨EndE H σ j, D.rt, D.nx, EndE H σ j⟩ σ2 H2) (hd : ∀ v G, Ex H G → D.nx (σ.set j v) G) : FG J g tb D σ H := by
  refine fg S (fun _ σ' G => EndE H σ j σ' G) ⟨⟨v0, ?_⟩, Ex.refl H⟩ (fun i σ' G _ z => hx G z.2) ?_ ?_
  · obtain ⟨h1, h2⟩ := List.getElem?_eq_some_iff.mp hj
    rw [← h2, List.set_getElem_self]
  · rintro i x σ' G G2 hi ⟨⟨v, rfl⟩, e⟩ e2 y
    exact hs i x G2 v hi (e.trans e2) y
  · rintro σ' G ⟨⟨v, rfl⟩, e⟩
    exact hd v G e
/-- a comprehension's list at Dl, between two turns -/
structure CD (H : Hp) (Dl : Addr) (acc : List V) (H' : Hp) : Prop where
  new : Fr H Dl
  ex : Ex H H'
  at_ : At H' Dl (.lst acc)
theorem CD.up {H H' H'' : Hp} {Dl : Addr} {acc : List V} (c : CD H Dl acc H') (e : Ex H' H'') : CD H Dl acc H'' := ⟨c.new, c.ex.trans e, e.get c.at_⟩
/-- behind a turn's element -/
def ElE (H : Hp) (Dl : Addr) (acc : List V) : VK := fun y H4 => ∃ acc', At H4 Dl (.lst acc') ∧ acc'.length < sizeLine ∧ CD H Dl acc (upd H4 Dl (.lst (acc' ++ [y])))
theorem ele {H H' H4 : Hp} {Dl : Addr} {acc : List V} {y : V} (c : CD H Dl acc H') (hz : acc.length < sizeLine) (e : Ex H' H4) : ElE H Dl (acc ++ [y]) y H4 :=
  ⟨acc, e.get c.at_, hz, c.new, Ex.mut (c.ex.trans e) c.new, upd_same⟩
/-- a comprehension without a test; the elements are values that hang on no object -/
theorem cgF (S : Src J Φ n Y) (f : Nat → V) (hx : ∀ H', Ex H H' → Φ H') (hz : n ≤ sizeLine)
    (hs : ∀ Dl i x H', i < n → Ex H H' → CD H Dl ((List.range i).map f) H' → Y i x H' → g x (wipe σ vs) H' fun σ2 H2 => wipe σ2 vs = wipe σ vs ∧ tt σ2 H2 fun b H3 => if b = true then te σ2 H3 (ElE H Dl ((List.range i).map f ++ [f i])) else False)
    (q : ∀ p H2, Fr H p → Ex H H2 → At H2 p (.lst ((List.range n).map f)) → Q (.ref p) H2) (htt : tt = tYes) : CG J g tt te vs σ H Q := by
  subst htt
  have er : ∀ i, (List.range i).map f ++ [f i] = (List.range (i + 1)).map f := fun i => by rw [List.range_succ, List.map_append]; rfl
  intro Dl hD
  refine ⟨fun i m H' => m = n - i ∧ i ≤ n ∧ CD H Dl ((List.range i).map f) H', ⟨n, by simp, Nat.zero_le _, hD, Ex.new hD, upd_same⟩, ?_⟩
  rintro i m H1 ⟨rfl, hi, c⟩
  have hp := hx H1 c.ex
  by_cases hlt : i < n
  · refine Or.inr ⟨S.go i H1 hp hlt, fun H' => CD H Dl ((List.range i).map f ++ [f i]) H', fun H' q => ⟨n - (i + 1), by omega, rfl, hlt, er i ▸ q⟩, fun x H' hy => ?_⟩
    obtain ⟨e', y⟩ := S.yld i H1 x H' hp hlt hy
    exact hs Dl i x H' hlt (c.ex.trans e') ⟨c.new, c.ex.trans e', e'.get c.at_⟩ y
  · have e2 : i = n := by omega
    subst e2
    exact Or.inl ⟨S.stop H1 hp, q Dl H1 hD c.ex c.at_⟩
/-- .. ints -/
theorem cgI (S : Src J Φ n Y) (f : Nat → Int) (hx : ∀ H', Ex H H' → Φ H') (hz : n ≤ sizeLine)
    (hs : ∀ Dl i x H', i < n → Ex H H' → CD H Dl ((List.range i).map fun k => V.int (f k)) H' → Y i x H' → g x (wipe σ vs) H' fun σ2 H2 => wipe σ2 vs = wipe σ vs ∧ tt σ2 H2 fun b H3 => if b = true then te σ2 H3 (ElE H Dl ((List.range i).map (fun k => V.int (f k)) ++ [V.int (f i)])) else False)
    (q : ∀ p H2, Fr H p → Ex H H2 → At H2 p (.lst (((List.range n).map f).map V.int)) → Q (.ref p) H2) (htt : tt = tYes) : CG J g tt te vs σ H Q :=
  cgF S (fun k => V.int (f k)) hx hz hs (fun p H2 hn he hp => q p H2 hn he (hp.l (by rw [List.map_map]; rfl))) htt
/-- .. one int again and again -/
theorem cgK {c : Int} (S : Src J Φ n Y) (hx : ∀ H', Ex H H' → Φ H') (hz : n ≤ sizeLine)
    (hs : ∀ Dl i x H' acc, i < n → Ex H H' → CD H Dl acc H' → acc.length < sizeLine → Y i x H' → g x (wipe σ vs) H' fun σ2 H2 => wipe σ2 vs = wipe σ vs ∧ tt σ2 H2 fun b H3 => if b = true then te σ2 H3 (ElE H Dl (acc ++ [V.int c])) else False)
    (q : ∀ p H2, Fr H p → Ex H H2 → At H2 p (.lst ((List.replicate n c).map V.int)) → Q (.ref p) H2) (htt : tt = tYes) : CG J g tt te vs σ H Q :=
  cgF S (fun _ => V.int c) hx hz (fun Dl i x H' hi ec cd y => hs Dl i x H' _ hi ec cd (by rw [List.length_map, List.length_range]; omega) y) (fun p H2 hn he hp => q p H2 hn he (hp.l (by
    apply List.ext_getElem
    · simp
    · intro i h1 h2; simp))) htt
/-- a comprehension with a test: which turns give an element (p), and which (f) -/
theorem cgP (S : Src J Φ n Y) (p : Nat → Bool) (f : Nat → V) (hx : ∀ H', Ex H H' → Φ H') (hz : n ≤ sizeLine)
    (hs : ∀ Dl i x H', i < n → Ex H H' → CD H Dl (((List.range i).filter p).map f) H' → (((List.range i).filter p).map f).length < sizeLine → Y i x H' → g x (wipe σ vs) H' fun σ2 H2 => wipe σ2 vs = wipe σ vs ∧ tt σ2 H2 fun b H3 => if b = true then te σ2 H3 (ElE H Dl (((List.range (i + 1)).filter p).map f)) else CD H Dl (((List.range (i + 1)).filter p).map f) H3)
    (q : ∀ p' H2, Fr H p' → Ex H H2 → At H2 p' (.lst (((List.range n).filter p).map f)) → Q (.ref p') H2) : CG J g tt te vs σ H Q := by
  intro Dl hD
  refine ⟨fun i m H' => m = n - i ∧ i ≤ n ∧ CD H Dl (((List.range i).filter p).map f) H', ⟨n, by simp, Nat.zero_le _, hD, Ex.new hD, upd_same⟩, ?_⟩
  rintro i m H1 ⟨rfl, hi, c⟩
  have hp := hx H1 c.ex
  by_cases hlt : i < n
  · refine Or.inr ⟨S.go i H1 hp hlt, fun H' => CD H Dl (((List.range (i + 1)).filter p).map f) H', fun H' q => ⟨n - (i + 1), by omega, rfl, hlt, q⟩, fun x H' hy => ?_⟩
    obtain ⟨e', y⟩ := S.yld i H1 x H' hp hlt hy
    refine hs Dl i x H' hlt (c.ex.trans e') ⟨c.new, c.ex.trans e', e'.get c.at_⟩ ?_ y
    rw [List.length_map]
    exact Nat.lt_of_le_of_lt (List.length_filter_le _ _) (by rw [List.length_range]; omega)
  · have e2 : i = n := by omega
    subst e2
    exact Or.inl ⟨S.stop H1 hp, q Dl H1 hD c.ex c.at_⟩
theorem fr_T {α : Type} {p : Nat → Bool} {f : Nat → α} {i : Nat} (h : p i = true) : ((List.range (i + 1)).filter p).map f = ((List.range i).filter p).map f ++ [f i] := by
  rw [List.range_succ, List.filter_append, List.map_append]
  simp [h]
theorem fr_F {α : Type} {p : Nat → Bool} {f : Nat → α} {i : Nat} (h : p i = false) : ((List.range (i + 1)).filter p).map f = ((List.range i).filter p).map f := by
  rw [List.range_succ, List.filter_append, List.map_append]
  simp [h]
/-- a comprehension without a test by an invariant of what it has made -/
def ElX (H : Hp) (Dl : Addr) (i : Nat) (Pv : Nat → List V → Hp → Prop) : VK := fun y H4 => ∃ acc, At H4 Dl (.lst acc) ∧ acc.length < sizeLine ∧ ∃ acc', CD H Dl acc' (upd H4 Dl (.lst (acc ++ [y]))) ∧ acc'.length = i + 1 ∧ Pv (i + 1) acc' (upd H4 Dl (.lst (acc ++ [y])))
theorem elx {H H' H4 : Hp} {Dl : Addr} {acc : List V} {y : V} {i : Nat} {Pv : Nat → List V → Hp → Prop} (c : CD H Dl acc H') (hl : acc.length = i) (hz : acc.length < sizeLine) (e : Ex H' H4) (hp : ∀ H5, Nl H4 H5 → Pv (i + 1) (acc ++ [y]) H5) : ElX H Dl i Pv y H4 :=
  ⟨acc, e.get c.at_, hz, acc ++ [y], ⟨c.new, Ex.mut (c.ex.trans e) c.new, upd_same⟩, by simp [hl], hp _ (Nl.upd (e.get c.at_))⟩
theorem cgX (S : Src J Φ n Y) (Pv : Nat → List V → Hp → Prop) (h0 : ∀ H', Ex H H' → Pv 0 [] H') (st : ∀ i acc H1 H2, Pv i acc H1 → Ex H1 H2 → Pv i acc H2) (hx : ∀ H', Ex H H' → Φ H') (hz : n ≤ sizeLine)
    (hs : ∀ Dl i x H' acc, i < n → Ex H H' → CD H Dl acc H' → acc.length = i → Pv i acc H' → Y i x H' → g x (wipe σ vs) H' fun σ2 H2 => wipe σ2 vs = wipe σ vs ∧ tt σ2 H2 fun b H3 => if b = true then te σ2 H3 (ElX H Dl i Pv) else ∃ acc', CD H Dl acc' H3 ∧ acc'.length = i + 1 ∧ Pv (i + 1) acc' H3)
    (q : ∀ p H2 acc, Fr H p → Ex H H2 → At H2 p (.lst acc) → acc.length = n → Pv n acc H2 → Q (.ref p) H2) (htt : tt = tYes) : CG J g tt te vs σ H Q := by
  subst htt
  intro Dl hD
  refine ⟨fun i m H' => m = n - i ∧ i ≤ n ∧ ∃ acc, CD H Dl acc H' ∧ acc.length = i ∧ Pv i acc H', ⟨n, by simp, Nat.zero_le _, [], ⟨hD, Ex.new hD, upd_same⟩, rfl, h0 _ (Ex.new hD)⟩, ?_⟩
  rintro i m H1 ⟨rfl, hi, acc, c, hl, hP⟩
  have hp := hx H1 c.ex
  by_cases hlt : i < n
  · refine Or.inr ⟨S.go i H1 hp hlt, fun H' => ∃ acc, CD H Dl acc H' ∧ acc.length = i + 1 ∧ Pv (i + 1) acc H', fun H' q => ⟨n - (i + 1), by omega, rfl, hlt, q⟩, fun x H' hy => ?_⟩
    obtain ⟨e', y⟩ := S.yld i H1 x H' hp hlt hy
    exact hs Dl i x H' acc hlt (c.ex.trans e') ⟨c.new, c.ex.trans e', e'.get c.at_⟩ hl (st _ _ _ _ hP e') y
  · have e2 : i = n := by omega
    subst e2
    exact Or.inl ⟨S.stop H1 hp, q Dl H1 acc hD c.ex c.at_ hl hP⟩
/-- a while by an invariant that tells a falling number -/
def WB (W : Nat → L2.St → Hp → Prop) (t : TS) (D : Ends) (m : Nat) (σ' : L2.St) : Bool → Hp → Prop := fun b H1 => if b = true then ∃ N : L2.St → Hp → Prop, (∀ σ' H', N σ' H' → ∃ m', m' < m ∧ W m' σ' H') ∧ t { D with nx := N, ct := N, bk := D.nx } σ' H1 else D.nx σ' H1
theorem w_while {c : TT} {t : TS} (W : Nat → L2.St → Hp → Prop) (m0 : Nat) (h0 : W m0 σ H) (hs : ∀ m σ' H', W m σ' H' → c σ' H' (WB W t D m σ')) : tWhile c t D σ H := ⟨W, ⟨m0, h0⟩, hs⟩
section
variable {W : Nat → L2.St → Hp → Prop} {t : TS} {m : Nat}
theorem wb_T (h : t ⟨fun σ2 H2 => ∃ m', m' < m ∧ W m' σ2 H2, D.rt, D.nx, fun σ2 H2 => ∃ m', m' < m ∧ W m' σ2 H2⟩ σ H) : WB W t D m σ true H := ⟨_, fun _ _ h => h, h⟩
theorem wb_F (h : D.nx σ H) : WB W t D m σ false H := h
theorem wb_dec {p : Prop} [Decidable p] (h1 : p → t ⟨fun σ2 H2 => ∃ m', m' < m ∧ W m' σ2 H2, D.rt, D.nx, fun σ2 H2 => ∃ m', m' < m ∧ W m' σ2 H2⟩ σ H) (h2 : ¬ p → D.nx σ H) : WB W t D m σ (decide p) H := by
  by_cases h : p
  · rw [decide_eq_true h]; exact wb_T (h1 h)
  · rw [decide_eq_false h]; exact wb_F (h2 h)
end
end
end Z
namespace Z
open PySem L2
/-! ### own classes: what the top says of one, as one truth value -/
structure OwnC (K : PySem.W.Frag) (C : Addr) : Prop where
  cl : Cls K C
  sf : PySem.W.selfFirst K C = true
  ca : PySem.W.findIn K (.ref C) "__class__" = some (some (.builtin "object.__class__"))
  cn : PySem.W.specialIn K (.builtin "object.__class__") "__get__" = some (some (.builtin "getset_descriptor.__get__"))
  ct : PySem.W.takesIn K (.builtin "object.__class__") = some true
  cm : PySem.W.mroIn K C (.type "object") = some true
  ni : PySem.W.subIn K (.type "int") (.ref C) = some false
  ni' : PySem.W.subIn K (.ref C) (.type "int") = some false
  kCI : PySem.W.kitOne K (.ref C) (.type "int") = some false
  kIC : PySem.W.kitOne K (.type "int") (.ref C) = some false
  kCC : PySem.W.kitOne K (.ref C) (.ref C) = some true
def ownB (K : PySem.W.Frag) (x : Str) : Bool := (He.Fa.cls x).ok K && (PySem.W.selfFirst K (He.ga K x) && (decide (PySem.W.findIn K (.ref (He.ga K x)) "__class__" = some (some (.builtin "object.__class__"))) &&
  (decide (PySem.W.specialIn K (.builtin "object.__class__") "__get__" = some (some (.builtin "getset_descriptor.__get__"))) && (decide (PySem.W.takesIn K (.builtin "object.__class__") = some true) && (decide (PySem.W.mroIn K (He.ga K x) (.type "object") = some true) &&
  (decide (PySem.W.subIn K (.type "int") (.ref (He.ga K x)) = some false) && (decide (PySem.W.subIn K (.ref (He.ga K x)) (.type "int") = some false) && (decide (PySem.W.kitOne K (.ref (He.ga K x)) (.type "int") = some false) &&
  (decide (PySem.W.kitOne K (.type "int") (.ref (He.ga K x)) = some false) && decide (PySem.W.kitOne K (.ref (He.ga K x)) (.ref (He.ga K x)) = some true))))))))))
theorem ownB_ok {K : PySem.W.Frag} {x : Str} (h : ownB K x = true) : OwnC K (He.ga K x) := by
  obtain ⟨h1, h⟩ := He.ba h
  obtain ⟨h2, h⟩ := He.ba h
  obtain ⟨h3, h⟩ := He.ba h
  obtain ⟨h4, h⟩ := He.ba h
  obtain ⟨h5, h⟩ := He.ba h
  obtain ⟨h6, h⟩ := He.ba h
  obtain ⟨h7, h⟩ := He.ba h
  obtain ⟨h8, h⟩ := He.ba h
  obtain ⟨h9, h⟩ := He.ba h
  obtain ⟨h10, h11⟩ := He.ba h
  exact ⟨He.cls_ok h1, h2, of_decide_eq_true h3, of_decide_eq_true h4, of_decide_eq_true h5, of_decide_eq_true h6, of_decide_eq_true h7, of_decide_eq_true h8, of_decide_eq_true h9, of_decide_eq_true h10, of_decide_eq_true h11⟩
/-! ### own operators -/
section
variable {X : Cx} {CX : CXT} {n : Nat} {C g : Addr} {sp : Sp} {E : XK}
theorem inst_of {pins : List (Addr × Obj)} {σ : L2.St} {H : Hp} {s : Shared} {a dx : Addr} {fs : List (Str × V)} (I : Inv X pins σ H s) (h : At H a (.ins C dx fs)) : ∃ od, PySem.W.InstAt s.heap a (PySem.W.instObj C dx) C (some od) := by
  obtain ⟨mA, O, _⟩ := ins_get I.hok h
  obtain ⟨od, J, _⟩ := O.look
  exact ⟨od, J⟩
/-- int has both slots of an operator, or it is known that it lacks one -/
def IntHas (nm : String) : Prop := ∀ K : PySem.W.Frag, (∃ fo, PySem.W.findIn K (.type "int") (PySem.dunder nm) = some fo) ∧ ∃ ro, PySem.W.findIn K (.type "int") (dunderR nm) = some ro
theorem has_add : IntHas "add" := fun _ => ⟨⟨some (.builtin "int.__add__"), by kernel_rfl⟩, some (.builtin "int.__radd__"), by kernel_rfl⟩
theorem has_sub : IntHas "sub" := fun _ => ⟨⟨some (.builtin "int.__sub__"), by kernel_rfl⟩, some (.builtin "int.__rsub__"), by kernel_rfl⟩
theorem has_mul : IntHas "mul" := fun _ => ⟨⟨some (.builtin "int.__mul__"), by kernel_rfl⟩, some (.builtin "int.__rmul__"), by kernel_rfl⟩
theorem has_floordiv : IntHas "floordiv" := fun _ => ⟨⟨some (.builtin "int.__floordiv__"), by kernel_rfl⟩, some (.builtin "int.__rfloordiv__"), by kernel_rfl⟩
theorem has_mod : IntHas "mod" := fun _ => ⟨⟨some (.builtin "int.__mod__"), by kernel_rfl⟩, some (.builtin "int.__rmod__"), by kernel_rfl⟩
/-- a op b, both of the class at C -/
def rOO (C : Addr) (sp : Sp) (E : XK) : R2 := fun x y H Q => ∃ a dx fs b dy gs, x = .ref a ∧ y = .ref b ∧ At H a (.ins C dx fs) ∧ At H b (.ins C dy gs) ∧ sp [x, y] H Q E
/-- a op i, a of the class at C, i an int -/
def rOI (C : Addr) (sp : Sp) (E : XK) : R2 := fun x y H Q => ∃ a dx fs i, x = .ref a ∧ y = .int i ∧ At H a (.ins C dx fs) ∧ sp [x, y] H Q E
theorem op_OO {op : Operator} (O : OwnC X.K C) (hs : PySem.W.findIn X.K (.ref C) (PySem.dunder op.info.2) = some (some (.ref g))) (hf : PySem.W.isFn X.K (.ref g) = true) (F : FnR X.prog X.w X.K X.mg X.base CX n g sp) (hr : Room n X.A) (hx : Passes CX X E) :
    OpR X (binaryOp op) (rOO C sp E) := by
  intro pins s σ H x y v u Q I rx ry h
  obtain ⟨a, dx, fs, b, dy, gs, rfl, rfl, ha, hb, q⟩ := h
  cases (show v = Value.ref a from rx)
  cases (show u = Value.ref b from ry)
  obtain ⟨od, J⟩ := inst_of I ha
  obtain ⟨od', J'⟩ := inst_of I hb
  obtain ⟨m, hF⟩ := I.fr
  refine PySem.W.binop_K hF I.ok.mod.kin J J'.type O.sf hs hf (wpAny_mono (wpAny_call (run_fnR (us := [.ref a, .ref b]) (vs := [.ref a, .ref b]) F hr hx I (.cons rfl (.cons rfl .nil)) q)) (fun w s' z => ?_) fun _ _ x => x)
  obtain ⟨z', H', I', rz, qz⟩ := z
  exact SlX.cmpback rz ⟨z', H', I', rz, qz⟩
theorem op_OI {op : Operator} {rc : Option Value} (O : OwnC X.K C) (hs : PySem.W.findIn X.K (.ref C) (PySem.dunder op.info.2) = some (some (.ref g))) (hf : PySem.W.isFn X.K (.ref g) = true)
    (hr' : PySem.W.findIn X.K (.ref C) (dunderR op.info.2) = some rc) (hp : rc = none ∨ ∃ g : Addr, rc = some (.ref g)) (h12 : IntHas op.info.2)
    (F : FnR X.prog X.w X.K X.mg X.base CX n g sp) (hr : Room n X.A) (hx : Passes CX X E) : OpR X (binaryOp op) (rOI C sp E) := by
  intro pins s σ H x y v u Q I rx ry h
  obtain ⟨a, dx, fs, i, rfl, rfl, ha, q⟩ := h
  cases (show v = Value.ref a from rx)
  obtain ⟨t, rfl⟩ := (show ∃ t, u = Value.int i t from ry)
  obtain ⟨od, J⟩ := inst_of I ha
  obtain ⟨m, hF⟩ := I.fr
  refine PySem.W.ksp_binT (T := "int") hF I.ok.mod.kin J rfl O.sf hs hf hr' hp (h12 X.K).1.choose_spec (h12 X.K).2.choose_spec O.ni (wpAny_mono (wpAny_call (run_fnR (us := [.ref a, .int i t]) (vs := [.ref a, .int i]) F hr hx I (.cons rfl (.cons ⟨t, rfl⟩ .nil)) q)) (fun w s' z => ?_) fun _ _ x => x)
  obtain ⟨z', H', I', rz, qz⟩ := z
  exact SlX.cmpback rz ⟨z', H', I', rz, qz⟩
/-- -a -/
def rUO (C : Addr) (sp : Sp) (E : XK) : V → Hp → VK → Prop := fun x H Q => ∃ a dx fs, x = .ref a ∧ At H a (.ins C dx fs) ∧ sp [x] H Q E
theorem un_O (hs : PySem.W.findIn X.K (.ref C) "__neg__" = some (some (.ref g))) (hf : PySem.W.isFn X.K (.ref g) = true) (F : FnR X.prog X.w X.K X.mg X.base CX n g sp) (hr : Room n X.A) (hx : Passes CX X E) : UnR X (unaryOp .USub) (rUO C sp E) := by
  intro pins s σ H x v Q I rx h
  obtain ⟨a, dx, fs, rfl, ha, q⟩ := h
  cases (show v = Value.ref a from rx)
  obtain ⟨od, J⟩ := inst_of I ha
  obtain ⟨m, hF⟩ := I.fr
  exact PySem.W.ksp_neg hF I.ok.mod.kin J hs hf (wpAny_call (run_fnR (us := [.ref a]) (vs := [.ref a]) F hr hx I (.cons rfl .nil) q))
/-- a op b by an own comparison, b of the same class or an int -/
theorem cmp_OO {op : CmpOp} (hop : ∀ a b, compareOp op a b = richCompare op a b) (O : OwnC X.K C) (hs : PySem.W.findIn X.K (.ref C) (cmpInfo op).2.1 = some (some (.ref g))) (hf : PySem.W.isFn X.K (.ref g) = true) (F : FnR X.prog X.w X.K X.mg X.base CX n g sp) (hr : Room n X.A) (hx : Passes CX X E) :
    OpR X (compareOp op) (rOO C sp E) := by
  intro pins s σ H x y v u Q I rx ry h
  obtain ⟨a, dx, fs, b, dy, gs, rfl, rfl, ha, hb, q⟩ := h
  cases (show v = Value.ref a from rx)
  cases (show u = Value.ref b from ry)
  obtain ⟨od, J⟩ := inst_of I ha
  obtain ⟨od', J'⟩ := inst_of I hb
  obtain ⟨m, hF⟩ := I.fr
  rw [hop]
  refine PySem.W.cmp_K (op := op) (tb := .ref C) hr.units0 hF I.ok.mod.kin J J'.type (by simp [PySem.W.notFirst]) hs hf (wpAny_mono (wpAny_call (run_fnR (us := [.ref a, .ref b]) (vs := [.ref a, .ref b]) F hr hx I (.cons rfl (.cons rfl .nil)) q)) (fun w s' z => ?_) fun _ _ x => x)
  obtain ⟨z', H', I', rz, qz⟩ := z
  exact SlX.cmpback rz ⟨z', H', I', rz, qz⟩
theorem cmp_OI {op : CmpOp} (hop : ∀ a b, compareOp op a b = richCompare op a b) (O : OwnC X.K C) (hs : PySem.W.findIn X.K (.ref C) (cmpInfo op).2.1 = some (some (.ref g))) (hf : PySem.W.isFn X.K (.ref g) = true) (F : FnR X.prog X.w X.K X.mg X.base CX n g sp) (hr : Room n X.A) (hx : Passes CX X E) :
    OpR X (compareOp op) (rOI C sp E) := by
  intro pins s σ H x y v u Q I rx ry h
  obtain ⟨a, dx, fs, i, rfl, rfl, ha, q⟩ := h
  cases (show v = Value.ref a from rx)
  obtain ⟨t, rfl⟩ := (show ∃ t, u = Value.int i t from ry)
  obtain ⟨od, J⟩ := inst_of I ha
  obtain ⟨m, hF⟩ := I.fr
  rw [hop]
  refine PySem.W.cmp_K (op := op) (tb := .type "int") hr.units0 hF I.ok.mod.kin J (PySem.W.Looks.of_pure rfl) (by simp [PySem.W.notFirst, O.ni]) hs hf (wpAny_mono (wpAny_call (run_fnR (us := [.ref a, .int i t]) (vs := [.ref a, .int i]) F hr hx I (.cons rfl (.cons ⟨t, rfl⟩ .nil)) q)) (fun w s' z => ?_) fun _ _ x => x)
  obtain ⟨z', H', I', rz, qz⟩ := z
  exact SlX.cmpback rz ⟨z', H', I', rz, qz⟩
/-! an int on the left: its own slot hands back NotImplemented -/
theorem asInt_ref {M : Model} {A : Around} {E : Value → Shared → Prop} {s : Shared} {x dx C : Addr} {Q : Option Int → Shared → Prop} (ho : s.heap.get? x = some (PySem.W.instObj C dx)) (h : Q none s) : wpAny M A (asInt? (.ref x)) Q E s := by
  unfold asInt?
  exact wpAny_bind (wpAny_load ho (wpAny_pure h))
theorem intBinary_ni {M : Model} {A : Around} {E : Value → Shared → Prop} {s : Shared} {x dx C : Addr} {nm : String} {f : Int → Int → Sem Fin} {i : Int} {t : Tok} {Q : Fin → Shared → Prop} (ho : s.heap.get? x = some (PySem.W.instObj C dx))
    (h : Q (.done (.ret .notImplemented)) s) : wpAny M A (Builtin.Int.intBinary nm f false ⟨[.int i t, .ref x], []⟩) Q E s := by
  unfold Builtin.Int.intBinary
  refine wpAny_bind (wpAny_of_eq (a := ((Value.int i t : Value), [Value.ref x])) (by first | rfl | (simp only [slotArgs]; rfl)) ?_)
  refine wpAny_bind (wpAny_of_eq (a := i) (by first | rfl | (simp only [Builtin.intOfSelf]; rfl)) ?_)
  refine wpAny_bind (asInt_ref ho ?_)
  exact wpAny_bind (wpAny_rule (wpAny_pure h))
theorem int_ni {prog : Program} {w : World} {A : Around} {E : Value → Shared → Prop} {s : Shared} {x dx C : Addr} {id : String} {name : Str} {B : Builtin} {i : Int} {t : Tok} {Q : Value → Shared → Prop} (slot : Slot "int" name id) (entry : entryFor table id = some B)
    (args : argsOk id ⟨[.int i t, .ref x], []⟩) (hB : ∃ nm f, B = Builtin.Int.intBinary nm f false) (ho : s.heap.get? x = some (PySem.W.instObj C dx)) (h : Q .notImplemented s) : wpAny (model prog w) A (call (.builtin id) [.int i t, .ref x]) Q E s := by
  obtain ⟨nm, f, rfl⟩ := hB
  exact call_meets (S := fun _ R s' => s' = s ∧ R (.ok (.ret .notImplemented)) s) slot (typeIs_int s i t) entry args (fun prog w A R s' hs => by
    obtain ⟨rfl, hs⟩ := hs
    exact intBinary_ni ho hs) ⟨rfl, h⟩
theorem bin_IO {prog : Program} {w : World} {A : Around} {E : Value → Shared → Prop} {s : Shared} {K : PySem.W.Frag} {x dx C f f' : Addr} {od : Option Obj} {op : Operator} {id : String} {B : Builtin} {i : Int} {t : Tok} {Q : Value → Shared → Prop}
    (X : K.In s.heap) (I : PySem.W.InstAt s.heap x (PySem.W.instObj C dx) C od) (hc : PySem.W.selfFirst K C = true) (fills : fillsNumberSlot (.type "int") op.info.2 = pure true) (slot : Slot "int" (PySem.dunder op.info.2) id) (entry : entryFor table id = some B)
    (args : argsOk id ⟨[.int i t, .ref x], []⟩) (hB : ∃ nm f, B = Builtin.Int.intBinary nm f false) (hs : PySem.W.findIn K (.ref C) (PySem.dunder op.info.2) = some (some (.ref f'))) (hR : PySem.W.findIn K (.ref C) (dunderR op.info.2) = some (some (.ref f))) (hf : PySem.W.isFn K (.ref f) = true)
    (hsub : PySem.W.subIn K (.ref C) (.type "int") = some false) (h : wpAny (model prog w) A (call (.ref f) [.ref x, .int i t]) (PySem.W.CmpBack Q) E s) : wpAny (model prog w) A (binaryOp op (.int i t) (.ref x)) Q E s := by
  obtain ⟨cd, rest, hcd, hm⟩ := PySem.W.ksp_first hc
  rcases hi : op.info with ⟨sym, nm⟩
  rw [hi] at fills slot hs hR
  dsimp only at fills slot hs hR
  have hx : s.heap.get? x = some (PySem.W.instObj C dx) := I.1
  have two := PySem.W.ksp_try X I hR hf h
  have one : wpAny (model prog w) A (tryMethod (.int i t) (PySem.dunder nm) (.ref x)) (fun r s' => r = none ∧ s' = s) E s := by
    simp only [tryMethod]
    exact wpAny_bind (wpAny_callSpecial?_slot (typeIs_int s i t) slot (int_ni slot entry args hB hx (wpAny_pure ⟨rfl, rfl⟩)))
  have L1 : PySem.W.Looks (model prog w) s.heap (typeOf (.ref x)) (.ref C) := I.type
  have L3 : PySem.W.Looks (model prog w) s.heap (fillsNumberSlot (.ref C) nm) true := PySem.W.fills_K X hcd hm hs
  have L5 : PySem.W.Looks (model prog w) s.heap (isSubtype (.ref C) (.type "int")) false := PySem.W.looks_subIn X hsub
  have L7 : numberSlotInPython (.type "int") nm = pure false := rfl
  have ne : (Value.type "int" == Value.ref C) = false := Bool.eq_false_iff.mpr fun q => by cases beq_iff_eq.mp q
  simp only [binaryOp, hi]
  refine wpAny_holding (wpAny_bind ?_)
  unfold binaryOp1
  refine wpAny_bind (wpAny_typeOf (typeIs_int s i t) (wpAny_bind (L1.here (wpAny_bind (wpAny_of_eq fills ?_)))))
  simp only [ne, Bool.false_eq_true, if_false]
  refine wpAny_bind (L3.here ?_)
  simp only [Bool.and_self, if_true]
  refine wpAny_bind (L5.here ?_)
  simp only [Bool.false_eq_true, if_false, Bool.not_false, Bool.and_self, if_true, pure_bind, L7]
  refine wpAny_bind (wpAny_mono one (fun r s' hr => ?_) fun _ _ e => e)
  obtain ⟨rfl, rfl⟩ := hr
  dsimp only
  refine wpAny_bind (wpAny_mono two (fun r s' hr => ?_) fun _ _ e => e)
  obtain ⟨v, rfl, hq⟩ := hr
  exact wpAny_bind (wpAny_rule (wpAny_pure (wpAny_pure hq)))
/-- i op a -/
def rIO (C : Addr) (sp : Sp) (E : XK) : R2 := fun x y H Q => ∃ a dx fs i, x = .int i ∧ y = .ref a ∧ At H a (.ins C dx fs) ∧ sp [y, x] H Q E
theorem op_IO {op : Operator} {id : String} {B : Builtin} {f' : Addr} (O : OwnC X.K C) (hR : PySem.W.findIn X.K (.ref C) (dunderR op.info.2) = some (some (.ref g))) (hf : PySem.W.isFn X.K (.ref g) = true) (hs : PySem.W.findIn X.K (.ref C) (PySem.dunder op.info.2) = some (some (.ref f')))
    (fills : fillsNumberSlot (.type "int") op.info.2 = pure true) (slot : Slot "int" (PySem.dunder op.info.2) id) (entry : entryFor table id = some B) (args : ∀ a b, argsOk id ⟨[a, b], []⟩) (hB : ∃ nm f, B = Builtin.Int.intBinary nm f false)
    (F : FnR X.prog X.w X.K X.mg X.base CX n g sp) (hr : Room n X.A) (hx : Passes CX X E) : OpR X (binaryOp op) (rIO C sp E) := by
  intro pins s σ H x y v u Q I rx ry h
  obtain ⟨a, dx, fs, i, rfl, rfl, ha, q⟩ := h
  obtain ⟨t, rfl⟩ := (show ∃ t, v = Value.int i t from rx)
  cases (show u = Value.ref a from ry)
  obtain ⟨od, J⟩ := inst_of I ha
  refine bin_IO I.kIn J O.sf fills slot entry (args _ _) hB hs hR hf O.ni' (wpAny_mono (wpAny_call (run_fnR (us := [.ref a, .int i t]) (vs := [.ref a, .int i]) F hr hx I (.cons rfl (.cons ⟨t, rfl⟩ .nil)) q)) (fun w s' z => ?_) fun _ _ x => x)
  obtain ⟨z', H', I', rz, qz⟩ := z
  exact SlX.cmpback rz ⟨z', H', I', rz, qz⟩
theorem addIO {f' : Addr} (O : OwnC X.K C) (hR : PySem.W.findIn X.K (.ref C) "__radd__" = some (some (.ref g))) (hf : PySem.W.isFn X.K (.ref g) = true) (hs : PySem.W.findIn X.K (.ref C) "__add__" = some (some (.ref f'))) (F : FnR X.prog X.w X.K X.mg X.base CX n g sp) (hr : Room n X.A) (hx : Passes CX X E) : OpR X (binaryOp .Add) (rIO C sp E) :=
  op_IO (op := .Add) O hR hf hs PySem.F.fills_int_add PySem.F.slot_int_add PySem.F.entry_int_add PySem.F.args_int_add_2 ⟨_, _, rfl⟩ F hr hx
theorem subIO {f' : Addr} (O : OwnC X.K C) (hR : PySem.W.findIn X.K (.ref C) "__rsub__" = some (some (.ref g))) (hf : PySem.W.isFn X.K (.ref g) = true) (hs : PySem.W.findIn X.K (.ref C) "__sub__" = some (some (.ref f'))) (F : FnR X.prog X.w X.K X.mg X.base CX n g sp) (hr : Room n X.A) (hx : Passes CX X E) : OpR X (binaryOp .Sub) (rIO C sp E) :=
  op_IO (op := .Sub) O hR hf hs PySem.F.fills_int_sub PySem.F.slot_int_sub PySem.F.entry_int_sub PySem.F.args_int_sub_2 ⟨_, _, rfl⟩ F hr hx
theorem mulIO {f' : Addr} (O : OwnC X.K C) (hR : PySem.W.findIn X.K (.ref C) "__rmul__" = some (some (.ref g))) (hf : PySem.W.isFn X.K (.ref g) = true) (hs : PySem.W.findIn X.K (.ref C) "__mul__" = some (some (.ref f'))) (F : FnR X.prog X.w X.K X.mg X.base CX n g sp) (hr : Room n X.A) (hx : Passes CX X E) : OpR X (binaryOp .Mult) (rIO C sp E) :=
  op_IO (op := .Mult) O hR hf hs PySem.F.fills_int_mul PySem.F.slot_int_mul PySem.F.entry_int_mul PySem.F.args_int_mul_2 ⟨_, _, rfl⟩ F hr hx
/-- abs(a) by an own __abs__ -/
def rC1 (C : Addr) (sp : Sp) (E : XK) : List V → Hp → VK → Prop := fun xs H Q => ∃ a dx fs, xs = [V.ref a] ∧ At H a (.ins C dx fs) ∧ sp [.ref a] H Q E
theorem call_absO (hs : PySem.W.findIn X.K (.ref C) "__abs__" = some (some (.ref g))) (hf : PySem.W.isFn X.K (.ref g) = true) (F : FnR X.prog X.w X.K X.mg X.base CX n g sp) (hr : Room (n + 1) X.A) (hx : Passes CX X E) : CallR X (.builtin "abs") (rC1 C sp E) := by
  intro pins s σ H xs us Q I r h
  obtain ⟨a, dx, fs, rfl, ha, q⟩ := h
  obtain ⟨u, rfl, ru⟩ := r.one
  cases (show u = Value.ref a from ru)
  obtain ⟨od, J⟩ := inst_of I ha
  refine PySem.Calls.call_function_entry PyProof.Rows.kind_abs PyProof.Rows.plain_abs PyProof.Rows.entry_abs (PyProof.Rows.args_abs _) ?_
  unfold Builtin.«abs»
  refine wpAny_bind (m := oneArg "abs" _) (wpAny_pure (wpAny_bind (PySem.W.special_fn I.kIn J hs (beq_iff_eq.mp hf) (wpAny_mono (wpAny_call (SlX.run_at (us := [.ref a]) (ws := [.ref a]) F hr.in1 I.env0.in1 hx I (.cons rfl .nil) q)) (fun w s' z => ?_) fun _ _ x => x))))
  exact wpAny_pure ⟨w, rfl, z⟩
end
/-! ### readings: fields, new instances, own operators -/
def dF (K : PySem.W.Frag) (f : Str) (Q : VK) : VK := fun x H1 => ∃ a C dx fs v, x = .ref a ∧ At H1 a (.ins C dx fs) ∧ Cls K C ∧ NoAttr K C f ∧ fs.lookup f = some v ∧ Q v H1
def dSF (K : PySem.W.Frag) (f : Str) (y : V) (R : Hp → Prop) : VK := fun x H2 => ∃ a C dx fs, x = .ref a ∧ At H2 a (.ins C dx fs) ∧ Cls K C ∧ NoAttr K C f ∧ fs.length < 1000 ∧ R (upd H2 a (.ins C dx (putF f y fs)))
section
variable {K : PySem.W.Frag} {σ : L2.St} {H H' : Hp} {Q : VK} {v x y : V} {a b C dx dy : Addr} {fs gs : List (Str × V)} {f : Str} {i j : Int} {sp : Sp} {E : XK} {D : Ends} {ts : TA}
theorem w_fld {ta : TE} (h : ta σ H (dF K f Q)) : tFld K ta f σ H Q := h
theorem w_dF (h : At H a (.ins C dx fs)) (cl : Cls K C) (na : NoAttr K C f) (hl : fs.lookup f = some v) (q : Q v H) : dF K f Q (.ref a) H := ⟨a, C, dx, fs, v, rfl, h, cl, na, hl, q⟩
theorem w_sfld {ta tv : TE} (h : tv σ H fun y H1 => ta σ H1 (dSF K f y (D.nx σ))) : sFld K ta tv f D σ H := h
theorem w_dSF {R : Hp → Prop} (h : At H a (.ins C dx fs)) (cl : Cls K C) (na : NoAttr K C f) (hl : fs.length < 1000) (q : ∀ H2, At H2 a (.ins C dx (putF f y fs)) → (∀ b o, b ≠ a → At H b o → At H2 b o) → (∀ b, Fr H2 b → Fr H b) → R H2) : dSF K f y R (.ref a) H :=
  ⟨a, C, dx, fs, rfl, h, cl, na, hl, q _ upd_same (fun b o hb e => by unfold At; rw [upd_ne hb]; exact e) fun b e => by
    unfold Fr at *
    by_cases hb : b = a
    · subst hb; rw [upd_same] at e; cases e
    · rwa [upd_ne hb] at e⟩
/-- a new instance, ahead of its __init__ -/
structure New (C : Addr) (H : Hp) (p dx : Addr) (H2 : Hp) : Prop where
  new : Fr H p
  dnew : Fr H dx
  ne : dx ≠ p
  ex : Ex H H2
  at_ : At H2 p (.ins C dx [])
  own : At H2 dx (.own p)
def dMk (C : Addr) (sp : Sp) (dvs : List V) (E : XK) (Q : VK) : List V → Hp → Prop := fun vs H1 => ∀ x dx, Fr H1 x → Fr H1 dx → dx ≠ x → sp (.ref x :: (vs ++ dvs)) (upd (upd H1 dx (.own x)) x (.ins C dx [])) (fun v H2 => v = .non ∧ Q (.ref x) H2) E
theorem w_make {dvs : List V} (h : ts σ H (dMk C sp dvs E Q)) : tMake C sp dvs E ts σ H Q := h
theorem w_dMk {dvs vs : List V} (h : ∀ p dx H2, New C H p dx H2 → sp (.ref p :: (vs ++ dvs)) H2 (fun v H3 => v = .non ∧ Q (.ref p) H3) E) : dMk C sp dvs E Q vs H := fun p dx hp hd hne =>
  h p dx _ ⟨hp, hd, hne, (Ex.new hd).trans (Ex.new (by unfold Fr; rw [upd_ne (Ne.symm hne)]; exact hp)), upd_same, by unfold At; rw [upd_ne hne, upd_same]⟩
theorem w_OO (ha : At H a (.ins C dx fs)) (hb : At H b (.ins C dy gs)) (q : sp [.ref a, .ref b] H Q E) : rOO C sp E (.ref a) (.ref b) H Q := ⟨a, dx, fs, b, dy, gs, rfl, rfl, ha, hb, q⟩
theorem w_OI (ha : At H a (.ins C dx fs)) (q : sp [.ref a, .int i] H Q E) : rOI C sp E (.ref a) (.int i) H Q := ⟨a, dx, fs, i, rfl, rfl, ha, q⟩
theorem w_IO (ha : At H a (.ins C dx fs)) (q : sp [.ref a, .int i] H Q E) : rIO C sp E (.int i) (.ref a) H Q := ⟨a, dx, fs, i, rfl, rfl, ha, q⟩
theorem w_UO (ha : At H a (.ins C dx fs)) (q : sp [.ref a] H Q E) : rUO C sp E (.ref a) H Q := ⟨a, dx, fs, rfl, ha, q⟩
theorem w_C1 (ha : At H a (.ins C dx fs)) (q : sp [.ref a] H Q E) : rC1 C sp E [.ref a] H Q := ⟨a, dx, fs, rfl, ha, q⟩
theorem w_gcd (q : Q (.int ((Nat.gcd i.natAbs j.natAbs : Nat) : Int)) H) : rGcd [.int i, .int j] H Q := ⟨i, j, rfl, q⟩
def rAbsI : List V → Hp → VK → Prop := fun xs H Q => ∃ i, xs = [.int i] ∧ Q (.int (if i < 0 then -i else i)) H
theorem call_absI {X : Cx} : CallR X (.builtin "abs") rAbsI := L2.call_abs
theorem w_absI (q : Q (.int (i.natAbs : Int)) H) : rAbsI [.int i] H Q := ⟨i, rfl, by
  have e : (if i < 0 then -i else i) = (i.natAbs : Int) := by split <;> omega
  rw [e]; exact q⟩
/-- isinstance of an instance, with an own class -/
theorem w_isiOC (O : OwnC K C) (ha : At H a (.ins C dx fs)) (q : Q (.bl true) H) : rIsi K [.ref a, .ref C] H Q := ⟨_, _, .ref C, .ref C, true, rfl, .own C, .base (.ins ha O.cl O.ca O.cn O.ct O.cm), O.kCC, q⟩
theorem w_isiOI (O : OwnC K C) (ha : At H a (.ins C dx fs)) (q : Q (.bl false) H) : rIsi K [.ref a, .ty "int"] H Q := ⟨_, _, .ref C, .type "int", false, rfl, .ty "int", .base (.ins ha O.cl O.ca O.cn O.ct O.cm), O.kCI, q⟩
theorem w_isiIC (O : OwnC K C) (q : Q (.bl false) H) : rIsi K [.int i, .ref C] H Q := ⟨_, _, .type "int", .ref C, false, rfl, .own C, .base (.int _), O.kIC, q⟩
end
theorem rawOk {P : Program} {w : World} {K : PySem.W.Frag} {mg : Str → Option Value} {base : Heap} {CX : CXT} {k : Nat} {f : Addr} {fd : FuncData} {ps : List Str} {sp : Sp} (F : FnOk P w K mg base CX k f fd ps sp) (hb : Binds K fd ps []) : FnR P w K mg base CX k f sp :=
  (F.raw hb .nil).imp fun vs H Q E h => by rw [List.append_nil]; exact h
/-! ### the head's facts as truth values of the written part -/
open He in
def obsZ (n : Nat) (ex : List (PySem.W.Frag → Bool)) (fn : List DefD) (g : Addr → Option Obj) : AlD := ((ex.all fun f => f (frG g (asD g n))) && fn.all fun d => d.ok (frG g (asD g n)), fn.map fun d => fnW (frG g (asD g n)) d.at_)
structure SaysZ (ex : List (PySem.W.Frag → Bool)) (fn : List He.DefD) (K : PySem.W.Frag) : Prop where
  facts : ∀ f ∈ ex, f K = true
  d : He.SaysD [] fn K
theorem SaysZ.fact {ex : List (PySem.W.Frag → Bool)} {fn : List He.DefD} {K : PySem.W.Frag} (c : SaysZ ex fn K) (i : Nat) {f : PySem.W.Frag → Bool} (h : ex[i]? = some f := by rfl) : f K = true := c.facts f (List.mem_of_getElem? h)
def hookZ (n : Nat) (ex : List (PySem.W.Frag → Bool)) (fn : List He.DefD) : PySem.W.Hook where
  α := He.AlD
  obs := fun s => obsZ n ex fn s.heap.get?
  val := fun _ => He.valD fn
  says := fun _ h => ∃ K : PySem.W.Frag, K.In h ∧ SaysZ ex fn K
  of := fun _ s e => by
    have e1 := congrArg (fun z : He.AlD => z.1) e
    have e2 := congrArg (fun z : He.AlD => z.2) e
    obtain ⟨h1, h2⟩ := He.ba e1
    refine ⟨He.frG s.heap.get? (He.asD s.heap.get? n), He.frG_in, fun f hf => List.all_eq_true.mp h1 f hf, ?_⟩
    show ((([] : List He.Fa).all fun f => f.ok _) && fn.all fun d => d.ok _, fn.map fun d => He.fnW _ d.at_) = (true, fn.map He.DefD.val)
    rw [h2]
    exact congrArg (fun z => (true, z)) e2
  keeps := fun _ _ _ ⟨K, hK, c⟩ k => ⟨K, PySem.W.Frag.In.keeps hK k, c⟩
theorem obsZ_eq {n : Nat} {ex : List (PySem.W.Frag → Bool)} {fn : List He.DefD} {g : Addr → Option Obj} {s : Shared} (h : ∀ a, g a = s.heap.get? a) : obsZ n ex fn g = (hookZ n ex fn).obs s := by
  have e : g = s.heap.get? := funext h
  rw [e]
  rfl
def bltB (x : Str) (id : String) (K : PySem.W.Frag) : Bool := He.eqO (PySem.W.nsIn K mainGlobals x) (some (some (.builtin id)))
theorem blt_ok {K : PySem.W.Frag} {h : Heap} {mg : Str → Option Value} (X : K.In h) (G : h.Ns mainGlobals mg) {x : Str} {id : String} (c : bltB x id K = true) : mg x = some (.builtin id) := PySem.W.mg_of X G (He.eqO_ok c)
def nometB (x f : Str) (K : PySem.W.Frag) : Bool := He.eqO (PySem.W.findIn K (.ref (He.ga K x)) f) (some none)
theorem nomet_ok {K : PySem.W.Frag} {x f : Str} (c : nometB x f K = true) : PySem.W.findIn K (.ref (He.ga K x)) f = some none := He.eqO_ok c
end Z
namespace Z
open PySem L2 PySem.Spec PyProof.Rows
/-! ### calls whose errors are wished for at the caller's slots -/
section
variable {X : Cx} {CX : CXT} {k : Nat} {f g C : Addr} {fd : FuncData} {ps : List Str} {sp : Sp} {dvs : List V} {ds : List Value} {E : L2.St → XK} {x m : Str} {p pos apos : Pos} {e o : Expr} {es : List Expr} {ta tb : TE} {t : TA} {a b : Expr}
theorem runR {pins : List (Addr × Obj)} {σ : L2.St} {G : Hp} {s : Shared} {Q : VK} {us : List Value} {vs : List V} (F : FnR X.prog X.w X.K X.mg X.base CX k f sp) (hr : Room k X.A) (hx : PassesAt CX X σ (E σ)) (I : Inv X pins σ G s) (r : Vals vs us) (h : sp vs G Q (E σ)) :
    codeAny (model X.prog X.w) X.A (.call (.ref f) ⟨us, []⟩) (fun r s' => match r with | .ok (.ret v) => EP X pins σ Q v s' | .ok _ => False | .error e => X.xe e s') s :=
  codeAny_mono (F X.A X.stack s G us vs Q (E σ) hr I.env0 r h) fun r s' hq => match r, hq with
    | .error e, hq => hx pins G s e s' I hq
    | .ok (.ret u), hq => I.after hq
    | .ok .next, hq => hq
    | .ok .brk, hq => hq
    | .ok .cont, hq => hq
def tCallZ (sp : Sp) (dvs : List V) (E : L2.St → XK) (t : TA) : TE := fun σ H Q => tCall sp dvs (E σ) t σ H Q
theorem pe_callZ (F : FnOk X.prog X.w X.K X.mg X.base CX k f fd ps sp) (hr : Room k X.A) (hg : Gl X x) (hm : X.mg x = some (.ref f)) (hk : PySem.W.keepIn X.K (.ref f) = true) (hb : Binds X.K fd ps ds) (hd : Vals dvs ds) (hx : ∀ σ, PassesAt CX X σ (E σ)) (ha : PA X (e :: es) t)
    (hdb : (x == ("__debug__" : Str)) = false := by decide) (hst : starEach (e :: es) X.env = (false, eval e X.env) :: starEach es X.env := by rfl) (hpl : (backTo pos (starEach es X.env)).any (·.1) = false := by rfl) : PE X (.Call (.Name x p) (e :: es) [] pos) (tCallZ sp dvs E t) :=
  pe_callSD F hr hg hm hk hb hd hx ha hdb hst hpl
theorem pe_callZ0 (F : FnOk X.prog X.w X.K X.mg X.base CX k f fd ps sp) (hr : Room k X.A) (hg : Gl X x) (hm : X.mg x = some (.ref f)) (hk : PySem.W.keepIn X.K (.ref f) = true) (hb : Binds X.K fd ps ds) (hd : Vals dvs ds) (hx : ∀ σ, PassesAt CX X σ (E σ))
    (hdb : (x == ("__debug__" : Str)) = false := by decide) : PE X (.Call (.Name x p) [] [] pos) (tCallZ sp dvs E tNil) :=
  ⟨fun pins s σ G Q I h => wpAny_Call_Name_kw (ld_glob I hg hm (PySem.W.callWith_K0 I.kIn hk (run_fnSD (us := []) F hr hb hd (hx σ) I .nil h)) hdb)⟩
def tMethZ (C : Addr) (m : Str) (sp : Sp) (dvs : List V) (E : L2.St → XK) (ta : TE) (t : TA) : TE := fun σ H Q => tMeth C m sp dvs (E σ) ta t σ H Q
theorem pe_methZ {pl : Sem Bool} (he : PE X o ta) (c : Cls X.K C) (hm : Meth X.K C m f) (F : FnOk X.prog X.w X.K X.mg X.base CX k f fd ps sp) (hr : Room k X.A) (hb : Binds X.K fd ps ds) (hd : Vals dvs ds) (hx : ∀ σ, PassesAt CX X σ (E σ)) (ha : PA X (e :: es) t)
    (hst : starEach (e :: es) X.env = (false, eval e X.env) :: starEach es X.env := by rfl) (hpl : (backTo pos (starEach es X.env)).any (·.1) = false := by rfl)
    (ht : eval (.Call (.Attribute o m apos) (e :: es) [] pos) X.env = (do let ov ← eval o X.env; standAt apos.atName; let (f, first) ← holding [ov] (getMethod ov m pl); callWith pos f first (backTo pos (starEach (e :: es) X.env)) (backToKw pos (keywordEach [] X.env))) := by rfl) :
    PE X (.Call (.Attribute o m apos) (e :: es) [] pos) (tMethZ C m sp dvs E ta t) :=
  ⟨fun pins s σ G Q I h => PySem.W.methodCall_KW (pl := pl) (thn (he.run pins s σ G _ I h) fun u s1 ⟨z, H1, I1, rx, a, dx, fs, ex, ea, l, q⟩ => by
    subst ex
    obtain rfl : u = Value.ref a := rx
    exact getmeth_ok I1 ea c hm l (PySem.W.callWith_K (first := [.ref a]) (h₀ := X.base) I.ok.mod.kin hm.kp (thn (ha.run pos pins s1 σ H1 _ I1 q) fun us s2 ⟨vs, H2, I2, r, q2⟩ => ⟨I2.kIn, run_fnSD (us := .ref a :: us) (vs := .ref a :: vs) F hr hb hd (hx σ) I2 (.cons rfl r) q2⟩) hst hpl)) ht⟩
theorem pe_methZ0 {pl : Sem Bool} (he : PE X o ta) (c : Cls X.K C) (hm : Meth X.K C m f) (F : FnOk X.prog X.w X.K X.mg X.base CX k f fd ps sp) (hr : Room k X.A) (hb : Binds X.K fd ps ds) (hd : Vals dvs ds) (hx : ∀ σ, PassesAt CX X σ (E σ))
    (ht : eval (.Call (.Attribute o m apos) [] [] pos) X.env = (do let ov ← eval o X.env; standAt apos.atName; let (f, first) ← holding [ov] (getMethod ov m pl); callWith pos f first (backTo pos (starEach [] X.env)) (backToKw pos (keywordEach [] X.env))) := by rfl) :
    PE X (.Call (.Attribute o m apos) [] [] pos) (tMethZ C m sp dvs E ta tNil) :=
  ⟨fun pins s σ G Q I h => PySem.W.methodCall_KW (pl := pl) (thn (he.run pins s σ G _ I h) fun u s1 ⟨z, H1, I1, rx, a, dx, fs, ex, ea, l, q⟩ => by
    subst ex
    obtain rfl : u = Value.ref a := rx
    exact getmeth_ok I1 ea c hm l (PySem.W.callWith_K0 (first := [.ref a]) I1.kIn hm.kp (run_fnSD (us := [.ref a]) (vs := [.ref a]) F hr hb hd (hx σ) I1 (.cons rfl .nil) q))) ht⟩
theorem run_makeZ {pins : List (Addr × Obj)} {σ : L2.St} {G : Hp} {s : Shared} {Q : VK} {us : List Value} {vs : List V} (M : Mk X.K C f) (F : FnOk X.prog X.w X.K X.mg X.base CX k f fd ps sp) (hr : Room (k + 1) X.A) (hb : Binds X.K fd ps ds) (hd : Vals dvs ds) (hx : PassesAt CX X σ (E σ)) (I : Inv X pins σ G s) (r : Vals vs us)
    (h : ∀ x dx, G x = none → G dx = none → dx ≠ x → sp (.ref x :: (vs ++ dvs)) (upd (upd G dx (.own x)) x (.ins C dx [])) (fun v H2 => v = .non ∧ Q (.ref x) H2) (E σ)) : wpAny (model X.prog X.w) X.A (call (.ref C) us) (EP X pins σ Q) X.xe s := by
  have hq := h (s.heap.objs.size + 1) s.heap.objs.size (I.hok.fresh (Nat.le_succ _)) (I.hok.fresh (Nat.le_refl _)) (Nat.ne_of_lt (Nat.lt_succ_self _))
  have J := Inv.made (C := C) I
  have w2 : Vals (V.ref (s.heap.objs.size + 1) :: (vs ++ dvs)) (Value.ref (s.heap.objs.size + 1) :: (us ++ ds)) := .cons rfl (r.append hd)
  have hn : (Value.ref (s.heap.objs.size + 1) :: us ++ ds).length = ps.length := (w2.length.symm.trans (F.len _ _ _ _ hq) : _)
  refine wpAny_call (make_map (f := f) I.kIn M.makes M.init (beq_iff_eq.mp M.fn) (codeAny_mono (F.run _ X.stack _ _ ⟨Value.ref (s.heap.objs.size + 1) :: us, []⟩ _ _ _ (E σ) (hr.make C us []) (J.env0.make C us []) (hb _ (Value.ref (s.heap.objs.size + 1) :: us) J.kIn hn) w2 hq) fun r s' z => ?_))
  match r, z with
  | .error e, z => exact hx pins _ _ e s' J z
  | .ok (.ret u), z =>
    obtain ⟨v, H', I3, rv, ev, q3⟩ := J.after z
    subst ev
    exact ⟨rv, V.ref (s.heap.objs.size + 1), H', I3, rfl, q3⟩
  | .ok .next, z => exact z.elim
  | .ok .brk, z => exact z.elim
  | .ok .cont, z => exact z.elim
def tMakeZ (C : Addr) (sp : Sp) (dvs : List V) (E : L2.St → XK) (t : TA) : TE := fun σ H Q => tMake C sp dvs (E σ) t σ H Q
theorem pe_makeZ (M : Mk X.K C f) (F : FnOk X.prog X.w X.K X.mg X.base CX k f fd ps sp) (hr : Room (k + 1) X.A) (hg : Gl X x) (hm : X.mg x = some (.ref C)) (hb : Binds X.K fd ps ds) (hd : Vals dvs ds) (hx : ∀ σ, PassesAt CX X σ (E σ)) (ha : PA X (e :: es) t)
    (hdb : (x == ("__debug__" : Str)) = false := by decide) (hst : starEach (e :: es) X.env = (false, eval e X.env) :: starEach es X.env := by rfl) (hpl : (backTo pos (starEach es X.env)).any (·.1) = false := by rfl) : PE X (.Call (.Name x p) (e :: es) [] pos) (tMakeZ C sp dvs E t) :=
  ⟨fun pins s σ G Q I h => wpAny_Call_Name_kw (ld_glob I hg hm (PySem.W.callWith_K (h₀ := X.base) I.ok.mod.kin M.kp (thn (ha.run pos pins s σ G _ I h) fun us s1 ⟨vs, H1, I1, r, q⟩ => ⟨I1.kIn, run_makeZ M F hr hb hd (hx σ) I1 r q⟩) hst hpl) hdb)⟩
theorem pe_makeZ0 (M : Mk X.K C f) (F : FnOk X.prog X.w X.K X.mg X.base CX k f fd ps sp) (hr : Room (k + 1) X.A) (hg : Gl X x) (hm : X.mg x = some (.ref C)) (hb : Binds X.K fd ps ds) (hd : Vals dvs ds) (hx : ∀ σ, PassesAt CX X σ (E σ))
    (hdb : (x == ("__debug__" : Str)) = false := by decide) : PE X (.Call (.Name x p) [] [] pos) (tMakeZ C sp dvs E tNil) :=
  ⟨fun pins s σ G Q I h => wpAny_Call_Name_kw (ld_glob I hg hm (PySem.W.callWith_K0 I.kIn M.kp (run_makeZ (us := []) M F hr hb hd (hx σ) I .nil h)) hdb)⟩
/-- an operator at the slots σ -/
def OpS (X : Cx) (op : Operator) (r : L2.St → R2) : Prop := ∀ (pins : List (Addr × Obj)) (s : Shared) (σ : L2.St) (G : Hp) (x y : V) (v u : Value) (Q : VK), Inv X pins σ G s → RelV x v → RelV y u → r σ x y G Q → wpAny (model X.prog X.w) X.A (binaryOp op v u) (EP X pins σ Q) X.xe s
def tOpS (r : L2.St → R2) (ta tb : TE) : TE := fun σ H Q => tOp (r σ) ta tb σ H Q
theorem pe_opS {op : Operator} {r : L2.St → R2} (ho : OpS X op r) (ha : PE X a ta) (hb : PE X b tb) : PE X (.BinOp a op b pos) (tOpS r ta tb) :=
  ⟨fun pins s σ G Q I h => wpAny_BinOp (binT ha hb I h fun v u s2 x y H2 I2 rx ry q => ho pins s2 σ H2 x y v u Q I2 rx ry q)⟩
theorem OpS.or {op : Operator} {r q : L2.St → R2} (h : OpS X op r) (g : OpS X op q) : OpS X op (fun σ x y H Q => r σ x y H Q ∨ q σ x y H Q) := fun pins s σ G x y v u Q I rx ry z => z.elim (h pins s σ G x y v u Q I rx ry) (g pins s σ G x y v u Q I rx ry)
theorem OpS.of {op : Operator} {r : R2} (h : OpR X (binaryOp op) r) : OpS X op (fun _ => r) := fun pins s σ G x y v u Q I rx ry z => h pins s σ G x y v u Q I rx ry z
theorem opS_OO {op : Operator} (O : OwnC X.K C) (hs : PySem.W.findIn X.K (.ref C) (PySem.dunder op.info.2) = some (some (.ref g))) (hf : PySem.W.isFn X.K (.ref g) = true) (F : FnR X.prog X.w X.K X.mg X.base CX k g sp) (hr : Room k X.A) (hx : ∀ σ, PassesAt CX X σ (E σ)) :
    OpS X op (fun σ => rOO C sp (E σ)) := by
  intro pins s σ G x y v u Q I rx ry h
  obtain ⟨a, dx, fs, b, dy, gs, rfl, rfl, ha, hb, q⟩ := h
  cases (show v = Value.ref a from rx)
  cases (show u = Value.ref b from ry)
  obtain ⟨od, J⟩ := inst_of I ha
  obtain ⟨od', J'⟩ := inst_of I hb
  obtain ⟨m, hF⟩ := I.fr
  exact PySem.W.binop_K hF I.ok.mod.kin J J'.type O.sf hs hf (wpAny_mono (wpAny_call (runR (us := [.ref a, .ref b]) (vs := [.ref a, .ref b]) F hr (hx σ) I (.cons rfl (.cons rfl .nil)) q)) (fun w s' ⟨z', H', I', rz, qz⟩ => SlX.cmpback rz ⟨z', H', I', rz, qz⟩) fun _ _ x => x)
theorem opS_OI {op : Operator} {rc : Option Value} (O : OwnC X.K C) (hs : PySem.W.findIn X.K (.ref C) (PySem.dunder op.info.2) = some (some (.ref g))) (hf : PySem.W.isFn X.K (.ref g) = true) (hr' : PySem.W.findIn X.K (.ref C) (dunderR op.info.2) = some rc) (hp : rc = none ∨ ∃ g : Addr, rc = some (.ref g)) (h12 : IntHas op.info.2)
    (F : FnR X.prog X.w X.K X.mg X.base CX k g sp) (hr : Room k X.A) (hx : ∀ σ, PassesAt CX X σ (E σ)) : OpS X op (fun σ => rOI C sp (E σ)) := by
  intro pins s σ G x y v u Q I rx ry h
  obtain ⟨a, dx, fs, i, rfl, rfl, ha, q⟩ := h
  cases (show v = Value.ref a from rx)
  obtain ⟨t, rfl⟩ := (show ∃ t, u = Value.int i t from ry)
  obtain ⟨od, J⟩ := inst_of I ha
  obtain ⟨m, hF⟩ := I.fr
  exact PySem.W.ksp_binT (T := "int") hF I.ok.mod.kin J rfl O.sf hs hf hr' hp (h12 X.K).1.choose_spec (h12 X.K).2.choose_spec O.ni (wpAny_mono (wpAny_call (runR (us := [.ref a, .int i t]) (vs := [.ref a, .int i]) F hr (hx σ) I (.cons rfl (.cons ⟨t, rfl⟩ .nil)) q)) (fun w s' ⟨z', H', I', rz, qz⟩ => SlX.cmpback rz ⟨z', H', I', rz, qz⟩) fun _ _ x => x)
end
/-! ### try .. except X as n; isinstance of the caught error -/
section
variable {X : Cx} {x n : Str} {c : Value} {i : Nat} {body suite : List Stmt} {b₀ : Stmt} {np pos pos' : Pos} {tb : WX → TS} {ts : Addr → Value → Option Addr → TS} {Wout : WX}
def tTryA (K : PySem.W.Frag) (c : Value) (i : Nat) (tb : WX → TS) (ts : Addr → Value → Option Addr → TS) (Wout : WX) : TS := fun D σ H => tb (wAs K c i ts Wout D) D σ H
theorem ps_tryA (hs : X.stack = X.env :: X.outer) (hf : X.env.frame = some X.env.locals) (hN : X.N.Nodup) (hi : X.N[i]? = some n) (hln : X.env.kindOf n = some .local) (hc : Names X x c) (tk : Takes X Wout)
    (hb : ∀ (W : WX) (pn : List (Addr × Obj)) (xe : Value → Shared → Prop), Takes (X.tr pn xe) W → PassesOwn (model X.prog X.w) X.A X.env xe → PSs (X.tr pn xe) body (tb W))
    (hsu : ∀ (a : Addr) (oe : Obj) (cls : Value) (d : Option Addr) (pn : List (Addr × Obj)), Zc cls d oe → (∃ vs, oe.data = .fields vs) → PSs (X.suite a ((a, oe) :: pn)) (b₀ :: suite) (ts a cls d)) :
    PS X (.Try body [.ExceptHandler (some (.Name x np)) (some n) (b₀ :: suite) pos'] [] [] pos) (tTryA X.K c i tb ts Wout) := ps_try_as hs hf hN hi hln hc tk hb hsu
def tTryO (K : PySem.W.Frag) (c : Value) (tb : WX → TS) (ts : Addr → Value → Option Addr → TS) (Wout : WX) : TS := fun D σ H => tb (wOnly K c ts Wout D) D σ H
theorem ps_tryO (hs : X.stack = X.env :: X.outer) (hf : X.env.frame = some X.env.locals) (hc : Names X x c) (tk : Takes X Wout)
    (hb : ∀ (W : WX) (pn : List (Addr × Obj)) (xe : Value → Shared → Prop), Takes (X.tr pn xe) W → PassesOwn (model X.prog X.w) X.A X.env xe → PSs (X.tr pn xe) body (tb W))
    (hsu : ∀ (a : Addr) (oe : Obj) (cls : Value) (d : Option Addr) (pn : List (Addr × Obj)), Zc cls d oe → (∃ vs, oe.data = .fields vs) → PSs (X.suite a ((a, oe) :: pn)) (b₀ :: suite) (ts a cls d)) :
    PS X (.Try body [.ExceptHandler (some (.Name x np)) none (b₀ :: suite) pos'] [] [] pos) (tTryO X.K c tb ts Wout) := ps_try_only hs hf hc tk hb hsu
def rIsZ (K : PySem.W.Frag) (cls : Value) (d : Option Addr) (a : Addr) : List V → Hp → VK → Prop := fun xs H Q => ∃ D, cls = .ref D ∧ d = none ∧ ExcC K D ∧ rIsE K D a xs H Q
theorem call_isZ {a : Addr} {oe : Obj} {cls : Value} {d : Option Addr} {pn : List (Addr × Obj)} (hz : Zc cls d oe) (hf : ∃ vs, oe.data = .fields vs) : CallR (X.suite a ((a, oe) :: pn)) (.builtin "isinstance") (rIsZ X.K cls d a) := by
  intro pins s σ G xs us Q I r h
  obtain ⟨D, rfl, rfl, C, h⟩ := h
  exact call_isE C hz hf pins s σ G xs us Q I r h
end
section
variable {K : PySem.W.Frag} {σ : L2.St} {H : Hp} {Q : VK} {D : Ends} {tb : WX → TS} {ts : Addr → Value → Option Addr → TS} {Wout : WX} {c cls : Value} {d : Option Addr} {i : Nat} {ta : TE} {t : TA} {sp : Sp} {dvs : List V} {E : L2.St → XK} {C a b dx : Addr} {m : Str} {fs : List (Str × V)}
theorem w_tryA (h : tb (wAs K c i ts Wout D) D σ H) : tTryA K c i tb ts Wout D σ H := h
theorem w_tryO (h : tb (wOnly K c ts Wout D) D σ H) : tTryO K c tb ts Wout D σ H := h
/-- behind an except suite with a name -/
def endAs (D : Ends) (i : Nat) : Ends := { nx := fun σ' H' => D.nx (σ'.set i none) H', rt := D.rt, bk := fun σ' H' => D.bk (σ'.set i none) H', ct := fun σ' H' => D.ct (σ'.set i none) H' }
theorem w_as (h : PySem.W.exmOne K cls c = some true) (q : ∀ a, Fr H a → ts a cls d (endAs D i) (σ.set i (some (.ref a))) H) : WE (wAs K c i ts Wout D) σ cls d H := ⟨true, h, fun _ a ha => q a ha, fun z => nomatch z⟩
theorem w_asN (h : PySem.W.exmOne K cls c = some false) (q : Wout cls d σ H) : WE (wAs K c i ts Wout D) σ cls d H := ⟨false, h, fun z => (nomatch z), fun _ => q⟩
theorem w_only (h : PySem.W.exmOne K cls c = some true) (q : ∀ a, Fr H a → ts a cls d D σ H) : WE (wOnly K c ts Wout D) σ cls d H := ⟨true, h, fun _ a ha => q a ha, fun z => nomatch z⟩
theorem w_onlyN (h : PySem.W.exmOne K cls c = some false) (q : Wout cls d σ H) : WE (wOnly K c ts Wout D) σ cls d H := ⟨false, h, fun z => (nomatch z), fun _ => q⟩
theorem w_enx (h : D.nx (σ.set i none) H) : (endAs D i).nx σ H := h
theorem w_ert {v : V} (h : D.rt v H) : (endAs D i).rt v H := h
theorem w_ebk (h : D.bk (σ.set i none) H) : (endAs D i).bk σ H := h
theorem w_ect (h : D.ct (σ.set i none) H) : (endAs D i).ct σ H := h
theorem w_callZ0 (h : t σ H fun vs H1 => sp vs H1 Q (E σ)) : tCallZ sp [] E t σ H Q := by
  show t σ H fun vs H1 => sp (vs ++ []) H1 Q (E σ)
  simp only [List.append_nil]
  exact h
theorem w_callZ (h : t σ H fun vs H1 => sp (vs ++ dvs) H1 Q (E σ)) : tCallZ sp dvs E t σ H Q := h
def dMe (C : Addr) (m : Str) (sp : Sp) (dvs : List V) (E : XK) (t : TA) (σ : L2.St) (Q : VK) : VK := fun x H1 => ∃ a dx fs, x = .ref a ∧ H1 a = some (.ins C dx fs) ∧ fs.lookup m = none ∧ t σ H1 fun vs H2 => sp (x :: (vs ++ dvs)) H2 Q E
theorem w_methZ (h : ta σ H (dMe C m sp dvs (E σ) t σ Q)) : tMethZ C m sp dvs E ta t σ H Q := h
theorem w_meth {E : XK} (h : ta σ H (dMe C m sp dvs E t σ Q)) : tMeth C m sp dvs E ta t σ H Q := h
theorem w_dMe {E : XK} (h : At H a (.ins C dx fs)) (hl : fs.lookup m = none) (q : t σ H fun vs H2 => sp (.ref a :: (vs ++ dvs)) H2 Q E) : dMe C m sp dvs E t σ Q (.ref a) H := ⟨a, dx, fs, rfl, h, hl, q⟩
theorem w_dMe0 {E : XK} (h : At H a (.ins C dx fs)) (hl : fs.lookup m = none) (q : t σ H fun vs H2 => sp (.ref a :: vs) H2 Q E) : dMe C m sp [] E t σ Q (.ref a) H := ⟨a, dx, fs, rfl, h, hl, by simp only [List.append_nil]; exact q⟩
theorem w_makeZ (h : t σ H (dMk C sp dvs (E σ) Q)) : tMakeZ C sp dvs E t σ H Q := h
theorem w_opS {r : L2.St → R2} {tb : TE} (h : ta σ H fun x H1 => tb σ H1 fun y H2 => r σ x y H2 Q) : tOpS r ta tb σ H Q := h
/-- isinstance(e, c) of the caught error, c an own class -/
theorem w_isZ {b : Bool} {e : Addr} (x : ExcC K C) (h : PySem.W.kitOne K (.ref C) (.ref a) = some b) (q : Q (.bl b) H) : rIsZ K (.ref C) none e [.ref e, .ref a] H Q := ⟨C, rfl, rfl, x, .ref a, .ref a, b, rfl, fun u r => r, h, q⟩
theorem w_isZt {b : Bool} {e : Addr} {t : String} (x : ExcC K C) (h : PySem.W.kitOne K (.ref C) (.type t) = some b) (q : Q (.bl b) H) : rIsZ K (.ref C) none e [.ref e, .ty t] H Q := ⟨C, rfl, rfl, x, .ty t, .type t, b, rfl, fun u r => r, h, q⟩
end
def excB (x : Str) (K : PySem.W.Frag) : Bool := decide (PySem.W.findIn K (.ref (He.ga K x)) "__getattribute__" = some (some (.builtin "BaseException.__getattribute__"))) && (decide (PySem.W.findIn K (.ref (He.ga K x)) "__getattr__" = some none) && (decide (PySem.W.subIn K (.ref (He.ga K x)) (.type "BaseException") = some true) &&
  (PySem.W.hasDictIn K (He.ga K x) && (decide (PySem.W.findIn K (.ref (He.ga K x)) "__class__" = some (some (.builtin "object.__class__"))) && (decide (PySem.W.specialIn K (.builtin "object.__class__") "__get__" = some (some (.builtin "getset_descriptor.__get__"))) &&
  (decide (PySem.W.takesIn K (.builtin "object.__class__") = some true) && decide (PySem.W.mroIn K (He.ga K x) (.type "object") = some true)))))))
theorem excB_ok {K : PySem.W.Frag} {x : Str} (h : excB x K = true) : ExcC K (He.ga K x) := by
  obtain ⟨h1, h⟩ := He.ba h
  obtain ⟨h2, h⟩ := He.ba h
  obtain ⟨h3, h⟩ := He.ba h
  obtain ⟨h4, h⟩ := He.ba h
  obtain ⟨h5, h⟩ := He.ba h
  obtain ⟨h6, h⟩ := He.ba h
  obtain ⟨h7, h8⟩ := He.ba h
  exact ⟨of_decide_eq_true h1, of_decide_eq_true h2, of_decide_eq_true h3, h4, of_decide_eq_true h5, of_decide_eq_true h6, of_decide_eq_true h7, of_decide_eq_true h8⟩
/-- what the except clause 'except y' says to an error of the class x -/
def exmB (x y : Str) (b : Bool) (K : PySem.W.Frag) : Bool := decide (PySem.W.exmOne K (.ref (He.ga K x)) (.ref (He.ga K y)) = some b)
theorem exmB_ok {K : PySem.W.Frag} {x y : Str} {b : Bool} (h : exmB x y b K = true) : PySem.W.exmOne K (.ref (He.ga K x)) (.ref (He.ga K y)) = some b := of_decide_eq_true h
def kitB2 (x y : Str) (b : Bool) (K : PySem.W.Frag) : Bool := decide (PySem.W.kitOne K (.ref (He.ga K x)) (.ref (He.ga K y)) = some b)
theorem kitB2_ok {K : PySem.W.Frag} {x y : Str} {b : Bool} (h : kitB2 x y b K = true) : PySem.W.kitOne K (.ref (He.ga K x)) (.ref (He.ga K y)) = some b := of_decide_eq_true h
def kitBt (x : Str) (t : String) (b : Bool) (K : PySem.W.Frag) : Bool := decide (PySem.W.kitOne K (.ref (He.ga K x)) (.type t) = some b)
theorem kitBt_ok {K : PySem.W.Frag} {x : Str} {t : String} {b : Bool} (h : kitBt x t b K = true) : PySem.W.kitOne K (.ref (He.ga K x)) (.type t) = some b := of_decide_eq_true h
/-! ### an int on the left of a comparison -/
theorem one_int {op : CmpOp} {i : Int} {t : Tok} {x : Addr} : oneThing? op (.int i t) (.ref x) = none := by rfl
theorem cmpIO {prog : Program} {w : World} {A : Around} {E : Value → Shared → Prop} {s : Shared} {K : PySem.W.Frag} {x dx C f : Addr} {od : Option Obj} {op : CmpOp} {id : String} {B : Builtin} {i : Int} {t : Tok} {Q : Value → Shared → Prop} (hu : A.units < cLine)
    (X : K.In s.heap) (I : PySem.W.InstAt s.heap x (PySem.W.instObj C dx) C od) (slot : Slot "int" (cmpInfo op).2.1 id) (entry : entryFor table id = some B) (args : argsOk id ⟨[.int i t, .ref x], []⟩) (hB : ∃ nm f, B = Builtin.Int.intBinary nm f false)
    (hs : PySem.W.findIn K (.ref C) (cmpInfo op).2.2 = some (some (.ref f))) (hf : PySem.W.isFn K (.ref f) = true) (hsub : PySem.W.subIn K (.ref C) (.type "int") = some false)
    (h : wpAny (model prog w) A (call (.ref f) [.ref x, .int i t]) (PySem.W.CmpBack Q) E s) : wpAny (model prog w) A (richCompare op (.int i t) (.ref x)) Q E s := by
  have hx : s.heap.get? x = some (PySem.W.instObj C dx) := I.1
  have one : wpAny (model prog w) A (tryCompare (.int i t) (cmpInfo op).2.1 (.ref x)) (fun r s' => r = none ∧ s' = s) E s := by
    simp only [tryCompare]
    exact wpAny_bind (wpAny_callSpecialIfBound?_slot (typeIs_int s i t) slot (int_ni slot entry args hB hx (wpAny_pure ⟨rfl, rfl⟩)))
  have two : wpAny (model prog w) A (tryCompare (.ref x) (cmpInfo op).2.2 (.int i t)) (fun r s' => ∃ v, r = some v ∧ Q v s') E s := by
    simp only [tryCompare]
    refine wpAny_bind (PySem.W.ifBound_K X I hs hf (wpAny_mono h (fun v s' hv => ?_) fun _ _ e => e))
    cases v <;> first | exact wpAny_pure ⟨_, rfl, hv⟩ | exact hv.elim
  have ne : (Value.type "int" != Value.ref C) = true := by
    have : (Value.type "int" == Value.ref C) = false := Bool.eq_false_iff.mpr fun q => by cases beq_iff_eq.mp q
    simp only [bne, this, Bool.not_false]
  have L1 : PySem.W.Looks (model prog w) s.heap (typeOf (.ref x)) (.ref C) := I.type
  have L5 : PySem.W.Looks (model prog w) s.heap (isSubtype (.ref C) (.type "int")) false := PySem.W.looks_subIn X hsub
  unfold richCompare
  simp only [one_int]
  refine wpAny_holding (wpAny_bind (wpAny_cRoomFor hu ?_))
  refine wpAny_bind (wpAny_typeOf (typeIs_int s i t) (wpAny_bind (L1.here ?_)))
  simp only [ne, if_true]
  refine wpAny_bind (L5.here ?_)
  simp only [Bool.false_eq_true, if_false, Bool.not_false, if_true]
  refine wpAny_bind (wpAny_mono one (fun r s' hr => ?_) fun _ _ e => e)
  obtain ⟨rfl, rfl⟩ := hr
  dsimp only
  refine wpAny_bind (wpAny_mono two (fun r s' hr => ?_) fun _ _ e => e)
  obtain ⟨v, rfl, hq⟩ := hr
  exact wpAny_pure hq
section
variable {X : Cx} {CX : CXT} {n : Nat} {C g : Addr} {sp : Sp} {E : XK}
theorem cmp_IO {op : CmpOp} {id : String} {B : Builtin} (hop : ∀ a b, compareOp op a b = richCompare op a b) (O : OwnC X.K C) (slot : Slot "int" (cmpInfo op).2.1 id) (entry : entryFor table id = some B) (args : ∀ a b, argsOk id ⟨[a, b], []⟩) (hB : ∃ nm f, B = Builtin.Int.intBinary nm f false)
    (hs : PySem.W.findIn X.K (.ref C) (cmpInfo op).2.2 = some (some (.ref g))) (hf : PySem.W.isFn X.K (.ref g) = true) (F : FnR X.prog X.w X.K X.mg X.base CX n g sp) (hr : Room n X.A) (hx : Passes CX X E) : OpR X (compareOp op) (rIO C sp E) := by
  intro pins s σ G x y v u Q I rx ry h
  obtain ⟨a, dx, fs, i, rfl, rfl, ha, q⟩ := h
  obtain ⟨t, rfl⟩ := (show ∃ t, v = Value.int i t from rx)
  cases (show u = Value.ref a from ry)
  obtain ⟨od, J⟩ := inst_of I ha
  rw [hop]
  exact cmpIO hr.units0 I.kIn J slot entry (args _ _) hB hs hf O.ni' (wpAny_mono (wpAny_call (run_fnR (us := [.ref a, .int i t]) (vs := [.ref a, .int i]) F hr hx I (.cons rfl (.cons ⟨t, rfl⟩ .nil)) q)) (fun w s' ⟨z', H', I', rz, qz⟩ => SlX.cmpback rz ⟨z', H', I', rz, qz⟩) fun _ _ x => x)
theorem cmp_IO_lt (O : OwnC X.K C) (hs : PySem.W.findIn X.K (.ref C) "__gt__" = some (some (.ref g))) (hf : PySem.W.isFn X.K (.ref g) = true) (F : FnR X.prog X.w X.K X.mg X.base CX n g sp) (hr : Room n X.A) (hx : Passes CX X E) : OpR X (compareOp .Lt) (rIO C sp E) :=
  cmp_IO (op := .Lt) (fun _ _ => rfl) O PySem.F.slot_int_lt PySem.F.entry_int_lt PySem.F.args_int_lt_2 ⟨_, _, rfl⟩ hs hf F hr hx
theorem cmp_IO_le (O : OwnC X.K C) (hs : PySem.W.findIn X.K (.ref C) "__ge__" = some (some (.ref g))) (hf : PySem.W.isFn X.K (.ref g) = true) (F : FnR X.prog X.w X.K X.mg X.base CX n g sp) (hr : Room n X.A) (hx : Passes CX X E) : OpR X (compareOp .LtE) (rIO C sp E) :=
  cmp_IO (op := .LtE) (fun _ _ => rfl) O PySem.F.slot_int_le PySem.F.entry_int_le PySem.F.args_int_le_2 ⟨_, _, rfl⟩ hs hf F hr hx
theorem cmp_IO_gt (O : OwnC X.K C) (hs : PySem.W.findIn X.K (.ref C) "__lt__" = some (some (.ref g))) (hf : PySem.W.isFn X.K (.ref g) = true) (F : FnR X.prog X.w X.K X.mg X.base CX n g sp) (hr : Room n X.A) (hx : Passes CX X E) : OpR X (compareOp .Gt) (rIO C sp E) :=
  cmp_IO (op := .Gt) (fun _ _ => rfl) O PySem.F.slot_int_gt PySem.F.entry_int_gt PySem.F.args_int_gt_2 ⟨_, _, rfl⟩ hs hf F hr hx
theorem cmp_IO_ge (O : OwnC X.K C) (hs : PySem.W.findIn X.K (.ref C) "__le__" = some (some (.ref g))) (hf : PySem.W.isFn X.K (.ref g) = true) (F : FnR X.prog X.w X.K X.mg X.base CX n g sp) (hr : Room n X.A) (hx : Passes CX X E) : OpR X (compareOp .GtE) (rIO C sp E) :=
  cmp_IO (op := .GtE) (fun _ _ => rfl) O PySem.F.slot_int_ge PySem.F.entry_int_ge PySem.F.args_int_ge_2 ⟨_, _, rfl⟩ hs hf F hr hx
theorem cmp_IO_eq (O : OwnC X.K C) (hs : PySem.W.findIn X.K (.ref C) "__eq__" = some (some (.ref g))) (hf : PySem.W.isFn X.K (.ref g) = true) (F : FnR X.prog X.w X.K X.mg X.base CX n g sp) (hr : Room n X.A) (hx : Passes CX X E) : OpR X (compareOp .Eq) (rIO C sp E) :=
  cmp_IO (op := .Eq) (fun _ _ => rfl) O PySem.F.slot_int_eq PySem.F.entry_int_eq PySem.F.args_int_eq_2 ⟨_, _, rfl⟩ hs hf F hr hx
end
/-! ### bool(x) -/
theorem bool_own {prog : Program} {w : World} {A : Around} {E : Value → Shared → Prop} {s : Shared} {K : PySem.W.Frag} {x C f L : Addr} {h₀ : Heap} {m : Str → Option Value} {ox : Obj} {od : Option Obj} {Q : Value → Shared → Prop} (F : PyProof.Rows.Fr h₀ L s.heap m) (X : K.In h₀)
    (I : PySem.W.InstAt s.heap x ox C od) (hs : PySem.W.findIn K (.ref C) "__bool__" = some (some (.ref f))) (hf : PySem.W.isFn K (.ref f) = true)
    (h : wpAny (model prog w) A.in1.in1 (call (.ref f) [.ref x]) (fun r s₁ => ∃ b, r = Value.bool b ∧ Q r s₁) E s) : wpAny (model prog w) A (call (.type "bool") [.ref x]) Q E s := by
  refine callType_codes (T := "bool") (Bi := Builtin.«object.__init__») (Q₁ := fun r s₁ => ∃ b, r = Value.bool b ∧ Q r s₁) PySem.F.called_bool (PySem.F.typeCall_bool_1 _) PySem.F.entry_object_init ?_ ?_
  · refine codeAny_of_tree ?_
    show wpAny _ A.in1.in1 (do checkBuiltinCall "bool.__new__" ⟨[.type "bool", .ref x], []⟩; again (.builtin "bool.__new__" ⟨[.type "bool", .ref x], []⟩)) _ _ s
    refine wpAny_bind (wpAny_of_eq (PySem.F.newCall_bool_1 _) (wpAny_pure ⟨plainId_quiet (by decide +kernel) _, codeAny_builtin PySem.F.entry_bool_new ?_⟩))
    rw [Around.under_plainId (by decide +kernel) _]
    unfold Builtin.«bool.__new__»
    refine wpAny_bind (wpAny_of_eq (a := true) (by first | rfl | kernel_rfl) ?_)
    refine PySem.W.KFB.if_not rfl ?_
    refine wpAny_bind (wpAny_of_eq (a := true) PySem.F.conv_sub_bool ?_)
    refine PySem.W.KFB.if_not rfl ?_
    refine wpAny_bind (wpAny_of_eq (a := [Value.ref x]) (by first | rfl | kernel_rfl) ?_)
    refine wpAny_bind (PySem.W.truthy_K F X I hs hf (wpAny_mono h (fun r s₁ hr => ?_) fun _ _ y => y))
    obtain ⟨b, rfl, hq⟩ := hr
    exact wpAny_pure ⟨b, rfl, hq⟩
  · rintro obj s₁ ⟨b, rfl, hq⟩
    exact ⟨PySem.typeIs_bool _ _, PySem.F.args_object_init_2 _ _, object_init_meets PySem.F.called_bool.init.lookup PySem.F.called_bool.made (by decide) prog w A.in1 _ s₁ ⟨PySem.typeIs_bool _ _, rfl, hq⟩⟩
section
variable {X : Cx} {CX : CXT} {n : Nat} {C g : Addr} {sp : Sp} {E : XK}
/-- bool(x) of an instance -/
def rBoolO (C : Addr) (sp : Sp) (E : XK) : List V → Hp → VK → Prop := fun xs H Q => ∃ a dx fs, xs = [V.ref a] ∧ H a = some (.ins C dx fs) ∧ sp [.ref a] H (fun z H' => ∃ b, z = .bl b ∧ Q z H') E
theorem call_boolO (hs : PySem.W.findIn X.K (.ref C) "__bool__" = some (some (.ref g))) (hf : PySem.W.isFn X.K (.ref g) = true) (F : FnR X.prog X.w X.K X.mg X.base CX n g sp) (hr : Room (n + 2) X.A) (hx : Passes CX X E) : CallR X (.type "bool") (rBoolO C sp E) := by
  intro pins s σ G xs us Q I r h
  obtain ⟨a, dx, fs, rfl, ha, q⟩ := h
  obtain ⟨u, rfl, ru⟩ := r.one
  cases (show u = Value.ref a from ru)
  obtain ⟨od, J⟩ := inst_of I ha
  obtain ⟨m, hF⟩ := I.fr
  have hr2 : Room n X.A.in1.in1 := (show Room (n + 1) X.A.in1 from Room.in1 hr).in1
  refine bool_own hF I.ok.mod.kin J hs hf (wpAny_mono (wpAny_call (SlX.run_at (us := [.ref a]) (ws := [.ref a]) F hr2 I.env0.in1.in1 hx I (.cons rfl .nil) q)) (fun w s' z => ?_) fun _ _ x => x)
  obtain ⟨z', H', I', rz, b, rfl, qz⟩ := z
  cases (show w = Value.bool b from rz)
  exact ⟨b, rfl, .bl b, H', I', rfl, qz⟩
end
theorem w_boolO {C a dx : Addr} {sp : Sp} {E : XK} {H : Hp} {Q : VK} {fs : List (Str × V)} (ha : At H a (.ins C dx fs)) (q : sp [.ref a] H (fun z H' => ∃ b, z = .bl b ∧ Q z H') E) : rBoolO C sp E [.ref a] H Q := ⟨a, dx, fs, rfl, ha, q⟩
def rBool1 : List V → Hp → VK → Prop := fun xs H Q => (∃ i, xs = [.int i] ∧ Q (.bl (i != 0)) H) ∨ ∃ k, xs = [.bl k] ∧ Q (.bl k) H
theorem call_boolI {X : Cx} : CallR X (.type "bool") rBool1 := call_bool1
theorem w_bool1 {i : Int} {H : Hp} {Q : VK} (q : Q (.bl (!decide (i = 0))) H) : rBool1 [.int i] H Q := .inl ⟨i, rfl, by
  have e : (i != 0) = !decide (i = 0) := by by_cases h : i = 0 <;> simp [h]
  rw [e]; exact q⟩
section
variable {K : PySem.W.Frag} {H : Hp} {Q : VK} {a b : Bool}
theorem w_eqZB (q : Q (.bl (decide (a = b))) H) : rEqZ K (.bl a) (.bl b) H Q := .inl ⟨rfl, by
  have e : decide (V.bl a = V.bl b) = decide (a = b) := by simp
  rw [e]; exact q⟩
theorem w_neZB (q : Q (.bl (!decide (a = b))) H) : rNeZ K (.bl a) (.bl b) H Q := .inl ⟨rfl, by
  have e : decide (V.bl a = V.bl b) = decide (a = b) := by simp
  rw [e]; exact q⟩
end
end Z
namespace Z
open PySem L2 PySem.Spec PyProof.Rows
/-! ### super() -/
/-- what is known where a def of the class at D says super(); x its first parameter -/
structure SupX (X : Cx) (D f : Addr) (x : Str) : Prop where
  ks : X.env.kindOf "super" = some .globalImplicit
  kc : X.env.kindOf "__class__" = some .free
  fu : X.env.func = some f
  fn : ∃ (oc : Value) (od : Option Addr) (fd : FuncData) (osl : Array (Option Value)) (ar : Arg), X.K.lookup f = some ⟨oc, od, .func fd, osl⟩ ∧ (fd.params.posonlyargs ++ fd.params.args).head? = some ar ∧ ar.arg = x
  co : ∃ (cda : Addr) (cl : Value) (cd : Option Addr) (vs : Array Value) (cs : Array (Option Value)) (file : Str) (tf : Tok), X.env.code = .ref cda ∧ X.K.lookup cda = some ⟨cl, cd, .fields vs, cs⟩ ∧ vs[2]? = some (.str file tf) ∧ ((X.prog.main.file : Str) == file) = true
  top : (X.prog.main.scope.names.lookup ("super" : Str)).isSome = false
  nm : X.N[0]? = some x
  vis : Vis X.env.scope x
  xd : (x == ("__classdict__" : Str)) = false
  ce : ∃ (cc : Addr) (cl : Value) (cd : Option Addr) (cs : Array (Option Value)), X.env.cells.lookup ("__class__" : Str) = some cc ∧ X.K.lookup cc = some ⟨cl, cd, .cell (some (.ref D)), cs⟩
  mg : X.mg "super" = none
  cl : ∃ cd, PySem.W.clsIn X.K D = some cd
section
variable {X : Cx} {D f g a C : Addr} {x m : Str} {pins : List (Addr × Obj)} {σ : L2.St} {H : Hp} {s : Shared} {ox : Obj} {od : Option Obj} {body : List Stmt} {p0 p1 : Pos} {attr : Str} {whole : Sem Value} {E : Value → Shared → Prop}
theorem sup_base {Q : Value → Shared → Prop} (S : SupX X D f x) (I : Inv X pins σ H s) (h0 : σ[0]? = some (some (.ref a))) (J : PySem.W.InstAt s.heap a ox C od) (hsub : PySem.W.mroIn X.K C (.ref D) = some true) (hat : (attr == ("__class__" : Str)) = false)
    (hq : ∀ so h', (∀ b o, s.heap.get? b = some o → h'.get? b = some o) → h'.get? so = some (PySem.W.ks_superObj D a C) → Q (.ref so) { s with heap := h' }) :
    PySem.wpAt (model X.prog X.w) X.A (.func body X.env) (attributeBase (.Call (.Name "super" p0) [] [] p1) attr X.env whole) Q E s := by
  have KX : X.K.In s.heap := I.kIn
  obtain ⟨oc, odf, fd, osl, ar, hf, hp, rfl⟩ := S.fn
  obtain ⟨cda, ccl, ccd, vs, ccs, file, tf, hco, hcode, hvs, hfile⟩ := S.co
  obtain ⟨cc, cel, ced, ces, hcc, hcell⟩ := S.ce
  obtain ⟨cdD, hD⟩ := S.cl
  obtain ⟨mb, hb1, hb2⟩ := I.mod.blt
  obtain ⟨ml, hn, hl⟩ := I.loc
  obtain ⟨u, r, l⟩ := hl 0 ar.arg (.ref a) S.nm h0 S.vis
  cases (show u = Value.ref a from r)
  obtain ⟨oD, hD1, hD2⟩ : ∃ oD, s.heap.get? D = some oD ∧ oD.data = .cls cdD := by
    unfold PySem.W.clsIn at hD
    split at hD
    · rename_i c d cd' sl ho
      cases hD
      exact ⟨_, KX _ _ ho, rfl⟩
    · cases hD
  refine PySem.ks_wpAt_super_base (env := X.env) S.ks S.kc hat S.fu (KX _ _ hf) rfl hp hco (KX _ _ hcode) rfl hvs hfile S.top ?_
  refine PySem.W.ks_loadName_global I.ok.kind S.ks (Calls.loadGlobal_builtin (by rw [I.ok.glob]; exact I.mod.glob.keeps I.bk) S.mg (by rw [I.ok.blt]; exact hb1.keeps I.bk) ((hb2 "super" (by decide)).trans (by decide +kernel)) ⟨rfl, ?_⟩)
  refine wpAny_loadName_free I.ok.kind S.kc hcc ⟨_, KX _ _ hcell, rfl⟩ ?_
  have fin : wpAny (model X.prog X.w) X.A (isType (.ref D)) (fun b s₄ => b = true ∧ wpAny (model X.prog X.w) X.A (call (.type "super") [.ref D, .ref a]) Q E s₄) E s := by
    obtain ⟨hh, gg, dd, tt, os⟩ := s
    refine PySem.ks_wpAny_isType_cls hD1 hD2 ⟨rfl, ?_⟩
    refine PySem.ks_wpAny_call_super hD1 hD2 J.at_ J.cls (fun c e => ?_) (PySem.W.looks_mroIn KX hsub) (fun h' e k => ?_)
    · have := J.no
      unfold PySem.W.notCls at this
      rw [e] at this
      exact Bool.noConfusion this
    · exact hq _ h' k e
  rcases l with ⟨hk, hm⟩ | ⟨hk, c, hc, hce⟩
  · exact wpAny_loadName_local I.ok.kind hk hn hm fin
  · rcases hk with hk | hk
    · exact wpAny_loadName_cell I.ok.kind hk hc hce fin
    · exact wpAny_loadName_free I.ok.kind hk hc hce fin S.xd
/-- an expression in the body of the running def -/
structure PEat (X : Cx) (c : Code) (e : Expr) (t : TE) : Prop where
  run : ∀ (pins : List (Addr × Obj)) (s : Shared) (σ : L2.St) (G : Hp) (Q : VK), Inv X pins σ G s → t σ G Q → PySem.wpAt (model X.prog X.w) X.A c (eval e X.env) (EP X pins σ Q) X.xe s
structure PSat (X : Cx) (c : Code) (st : Stmt) (t : TS) : Prop where
  run : ∀ (pins : List (Addr × Obj)) (s : Shared) (σ : L2.St) (G : Hp) (D : Ends), Inv X pins σ G s → t D σ G → PySem.wpAt (model X.prog X.w) X.A c (exec st X.env) (SP X pins D) X.xe s
/-- super().m(e, ..), m a def of a class above -/
def tSup (C : Addr) (sp : Sp) (E : L2.St → XK) (t : TA) : TE := fun σ H Q => ∃ a dx fs, σ[0]? = some (some (.ref a)) ∧ H a = some (.ins C dx fs) ∧ t σ H fun vs H2 => sp (.ref a :: vs) H2 Q (E σ)
theorem pe_sup {CX : CXT} {k : Nat} {sp : Sp} {E : L2.St → XK} {e : Expr} {es : List Expr} {t : TA} {apos pos : Pos} {pl : Sem Bool} (S : SupX X D f x) (hsub : PySem.W.mroIn X.K C (.ref D) = some true) (ho : PySem.W.nsIn X.K PySem.cStatics "thirdparty.any" = some none)
    (hm : PySem.W.ks_superIn X.K C D m = some (some (.ref g))) (ht : PySem.W.typeIn X.K (.ref g) = some (.type "function")) (hfn : PySem.W.fnIn X.K g = true) (F : FnR X.prog X.w X.K X.mg X.base CX k g sp) (hr : Room k X.A) (hx : ∀ σ, PassesAt CX X σ (E σ)) (ha : PA X (e :: es) t)
    (hat : (m == ("__class__" : Str)) = false := by decide +kernel) (hst : starEach (e :: es) X.env = (false, eval e X.env) :: starEach es X.env := by rfl) (hpl : (backTo pos (starEach es X.env)).any (·.1) = false := by rfl)
    (hev : eval (.Call (.Attribute (.Call (.Name "super" p0) [] [] p1) m apos) (e :: es) [] pos) X.env = (do let ov ← attributeBase (.Call (.Name "super" p0) [] [] p1) m X.env (eval (.Call (.Name "super" p0) [] [] p1) X.env); standAt apos.atName; let (f, first) ← holding [ov] (getMethod ov m pl); callWith pos f first (backTo pos (starEach (e :: es) X.env)) []) := by rfl) :
    PEat X (.func body X.env) (.Call (.Attribute (.Call (.Name "super" p0) [] [] p1) m apos) (e :: es) [] pos) (tSup C sp E t) := by
  refine ⟨fun pins s σ G Q I h => ?_⟩
  obtain ⟨a, dx, fs, h0, hins, q⟩ := h
  obtain ⟨od, J⟩ := inst_of I hins
  refine PySem.ks_wpAt_MethodCall (pl := pl) (sup_base S I h0 J hsub hat fun so h' up hso => ?_) hev
  have I1 : Inv X pins σ G { s with heap := h' } := I.kept (t' := s.toks) up
  have KX : X.K.In h' := I1.kIn
  obtain ⟨cd, hcd⟩ : ∃ cd, PySem.W.clsIn X.K C = some cd := by
    cases hc : PySem.W.clsIn X.K C with
    | none => unfold PySem.W.ks_superIn at hm; rw [hc] at hm; cases hm
    | some cd => exact ⟨cd, rfl⟩
  have hal : PySem.W.alongIn X.K m ((cd.mro.dropWhile (· != .ref D)).drop 1) = some (some (.ref g)) := by
    unfold PySem.W.ks_superIn at hm
    rw [hcd] at hm
    exact hm
  obtain ⟨og, hog, hogc⟩ : ∃ og, h'.get? g = some og ∧ og.cls = .type "function" := by
    have ht' : (X.K.lookup g).map (·.cls) = some (.type "function") := ht
    cases z : X.K.lookup g with
    | none => rw [z] at ht'; cases ht'
    | some og => rw [z] at ht'; exact ⟨og, KX _ _ z, Option.some.inj ht'⟩
  obtain ⟨hh, gg, dd, tt, os⟩ := s
  refine PySem.ks_wpAny_getMethod_super hso (PySem.W.looks_opaque KX ho) (l₀ := cd.mro) (fun A Q E s k q => wpAny_bind ((PySem.W.looks_clsIn KX hcd) A _ E s k (wpAny_pure q))) rfl KX hal hog hogc (PySem.W.ks_ne I.kIn J hcd) hat ?_
  have I2 := ClX.met_new (g := g) (C := a) I1
  have hb := ClX.base_none I1 (Nat.le_refl _)
  refine ClX.callwith_cm I2 hb hfn (thn (ha.run pos _ _ σ G _ I2 q) fun us s2 ⟨vs, H2, I3, r, q2⟩ => ⟨⟨ClX.pin_at I3, I3.kIn⟩, ?_⟩) hst hpl
  exact thn (wpAny_call (PySem.W.method_call (ClX.pin_at I3) (runR (us := .ref a :: us) (vs := .ref a :: vs) F hr (hx σ) I3 (.cons rfl r) q2))) fun _ _ y => ClX.unpinE y
theorem ps_supE {c : Code} {e : Expr} {pos : Pos} {t : TE} (h : PEat X c e t) (hi : interactive X.env = false := by rfl) (hs : swapsWith e none pos.line X.env = pure false := by rfl) : PSat X c (.Expr e pos) (tDrop t) :=
  ⟨fun pins s σ G D I q => PySem.ks_wpAt_Expr_any (PySem.ks_wpAt_mono (h.run pins s σ G _ I q) (fun v s1 ⟨y, H1, I1, r1, q1⟩ => ⟨σ, H1, I1, q1⟩) fun _ _ z => z) hi hs⟩
theorem ps_supA {c : Code} {e : Expr} {i : Nat} {y : Str} {pos pos' : Pos} {t : TE} (hN : X.N.Nodup) (hi : X.N[i]? = some y) (hy : Loc X.env.scope y) (h : PEat X c e t) (hs : swapsWith e (some (.Name y pos')) pos.line X.env = pure false := by rfl)
    (hf : X.fn y = true ∨ X.env.scope.names.lookup y = some .local := by first | exact .inl rfl | exact .inr rfl) : PSat X c (.Assign [.Name y pos'] e pos) (tAsg t (gName i)) :=
  ⟨fun pins s σ G D I q => PySem.ks_wpAt_Assign_Name (PySem.ks_wpAt_mono (h.run pins s σ G _ I q) (fun v s1 ⟨z, H1, I1, r1, q1⟩ => store_ok I1 hN hi hy r1 (fun s2 I2 => ⟨_, H1, I2, q1⟩) hf) fun _ _ z => z) hs⟩
end
/-- the def at f, of the class at D, that captures the cell of its class -/
structure FunS (P : Program) (K : PySem.W.Frag) (x qual : Str) (params : Arguments) (body : List Stmt) (scope : Scope) (D f : Addr) (fd : FuncData) : Prop where
  ex : ∃ (oc : Value) (od : Option Addr) (doc pm : Value) (an : Option Addr) (cda : Addr) (ct : Value) (osl : Array (Option Value)) (cc : Addr), fd = PySem.W.fnX x qual params body scope [("__class__", cc)] .none .none doc pm an (.ref cda) ct ∧ K.lookup f = some ⟨oc, od, .func fd, osl⟩ ∧
    PySem.W.codeIn K (.ref cda) qual = true ∧ (∃ (cl : Value) (cd : Option Addr) (cs : Array (Option Value)), K.lookup cc = some ⟨cl, cd, .cell (some (.ref D)), cs⟩) ∧
    ∃ (cl : Value) (cd : Option Addr) (vs : Array Value) (cs : Array (Option Value)) (file : Str) (tf : Tok), K.lookup cda = some ⟨cl, cd, .fields vs, cs⟩ ∧ vs[2]? = some (.str file tf) ∧ ((P.main.file : Str) == file) = true
  kp : PySem.W.keepIn K (.ref f) = true
/-- THE RULE for such a def; its first statement says super() -/
theorem FunS.ok {CX : CXT} {P : Program} {w : World} {K : PySem.W.Frag} {mg : Str → Option Value} {base : Heap} {x qual x0 : Str} {params : Arguments} {st : Stmt} {rest : List Stmt} {scope : Scope} {D f : Addr} {fd : FuncData} {N ps : List Str} {k : Nat} {sp : Sp} {ar : Arg}
    (F : FunS P K x qual params (st :: rest) scope D f fd) (S : NdefX.NScope N ps ["__class__"] scope) (hs : scope.names.lookup ("super" : Str) = some .globalImplicit) (hp : (params.posonlyargs ++ params.args).head? = some ar) (har : ar.arg = x0) (hN : N[0]? = some x0) (hx : scope.names.lookup x0 = some .local) (hxd : (x0 == ("__classdict__" : Str)) = false)
    (top : (P.main.scope.names.lookup ("super" : Str)).isSome = false) (hm : mg "super" = none) (hD : ∃ cd, PySem.W.clsIn K D = some cd) (len : ∀ vs H Q E, sp vs H Q E → vs.length = ps.length)
    (hbody : ∀ (cc cda : Addr) (A : Around) (outer : List Env) (s : Shared) (H : Hp) (vs : List V) (Q : VK) (E : XK), Room k (A.deeper (PySem.W.envX qual scope s.heap.objs.size f (.ref cda) [("__class__", cc)])) → sp vs H Q E →
      SupX (NdefX.ncx CX P w K mg base N ⟨x, qual, params, st :: rest, scope, [("__class__", cc)], cda⟩ f A outer s H E) D f x0 →
      ∃ t1 t2, PSat (NdefX.ncx CX P w K mg base N ⟨x, qual, params, st :: rest, scope, [("__class__", cc)], cda⟩ f A outer s H E) (.func (st :: rest) (PySem.W.envX qual scope s.heap.objs.size f (.ref cda) [("__class__", cc)])) st t1 ∧
        PSs (NdefX.ncx CX P w K mg base N ⟨x, qual, params, st :: rest, scope, [("__class__", cc)], cda⟩ f A outer s H E) rest t2 ∧ tSeq t1 t2 { nx := fun _ H' => Q .non H', rt := Q } (NdefX.startF N vs [none]) H) : FnOk P w K mg base CX (k + 1) f fd ps sp := by
  obtain ⟨oc, od, doc, pm, an, cda, ct, osl, cc, rfl, lk, hcd, ⟨cl1, cd1, cs1, hcell⟩, cl2, cd2, vs2, cs2, file, tf, hcode, hvs2, hfile⟩ := F.ex
  refine ⟨len, fun A outer s H args us vs Q E hr e0 hb r hsp => ?_⟩
  have hl := len _ _ _ _ hsp
  have KX : K.In s.heap := e0.mod.kin.keeps fun b o e => (e0.bs b o e).1
  have lim : s.heap.NoLimit := e0.mod.nolimit.keeps fun b o e => (e0.bs b o e).1
  refine PySem.ks_codeAny_call_defAt (fd := PySem.W.fnX x qual params (st :: rest) scope [("__class__", cc)] .none .none doc pm an (.ref cda) ct) (body := st :: rest) (binds := ps.zip us) hr.depth (KX _ _ lk) rfl lim (PySem.W.codeRec_of KX hcd) rfl hb S.nocell (fun y hy => S.par y.1 (List.of_mem_zip hy).1) (fun h₁ hns hk₁ => ?_) S.co S.gen S.kind
  have C : NdefX.CellsAt [(("__class__" : Str), cc)] ["__class__"] [none] s.heap H := by
    refine ⟨rfl, fun y c hc => ?_, fun a b c h1 h2 => ?_, fun i y hy => ?_⟩
    · have e : y = "__class__" ∧ c = cc := by
        simp only [List.lookup] at hc
        split at hc
        · rename_i q; exact ⟨by simpa using q, (Option.some.inj hc).symm⟩
        · cases hc
      obtain ⟨rfl, rfl⟩ := e
      have z := e0.mod.kin _ _ hcell
      exact ⟨(e0.bs _ _ z).2, _, _, KX _ _ hcell, rfl⟩
    · simp only [List.lookup] at h1 h2
      split at h1
      · rename_i q1
        split at h2
        · rename_i q2
          have a1 : a = "__class__" := by simpa using q1
          have b1 : b = "__class__" := by simpa using q2
          rw [a1, b1]
        · cases h2
      · cases h1
    · cases i with
      | zero =>
        cases hy
        refine ⟨cc, by simp [List.lookup], fun v hv => ?_⟩
        cases hv
      | succ i => cases hy
  have I := NdefX.inv_startN (CX := CX) (E := E) (f := f) (F := ⟨x, qual, params, st :: rest, scope, [("__class__", cc)], cda⟩) (ws := [none]) (tk := s.toks + (ps.zip us).length) S hr.hd e0 hl r C hns hk₁
  have SX : SupX (NdefX.ncx CX P w K mg base N ⟨x, qual, params, st :: rest, scope, [("__class__", cc)], cda⟩ f A outer s H E) D f x0 :=
    ⟨hs, S.frk _ (by simp), rfl, ⟨_, _, _, _, ar, lk, hp, har⟩, ⟨cda, _, _, _, _, file, tf, rfl, hcode, hvs2, hfile⟩, top, hN, .inl hx, hxd, ⟨cc, _, _, _, by simp [List.lookup, NdefX.ncx], hcell⟩, hm, hD⟩
  obtain ⟨t1, t2, p1, p2, hq⟩ := hbody cc cda A outer s H vs Q E (hr.deeper _) hsp SX
  have fin : ∀ {σ' : L2.St} {H' : Hp} {v : V} {u : Value} {s' : Shared}, Inv (NdefX.ncx CX P w K mg base N ⟨x, qual, params, st :: rest, scope, [("__class__", cc)], cda⟩ f A outer s H E) [] σ' H' s' → RelV v u → Q v H' → CE outer P w H s Q u s' :=
    fun {σ' H' v u s'} J rv q => ⟨v, H', J.os, J.bare, J.base, J.hok, rv, q⟩
  refine PySem.ks_wpAt_execs_cons (PySem.ks_wpAt_mono (p1.run [] _ _ H _ I hq) (fun fl s' hs' => ?_) fun e s' z => z)
  cases fl with
  | ret u =>
    obtain ⟨v, σ', H', J, rv, q⟩ := hs'
    exact fin J rv q
  | brk => obtain ⟨_, _, _, q⟩ := hs'; exact q.elim
  | cont => obtain ⟨_, _, _, q⟩ := hs'; exact q.elim
  | next =>
    obtain ⟨σ', H', J, q⟩ := hs'
    refine wpAt_of_wpAny (wpAny_mono (p2.run [] s' σ' H' _ J q) (fun fl s2 h2 => ?_) fun e s2 z => z)
    cases fl with
    | ret u =>
      obtain ⟨v, σ2, H2, J2, rv, q⟩ := h2
      exact fin J2 rv q
    | next =>
      obtain ⟨σ2, H2, J2, q⟩ := h2
      exact fin (v := V.non) (u := Value.none) J2 rfl q
    | brk => obtain ⟨_, _, _, q⟩ := h2; exact q.elim
    | cont => obtain ⟨_, _, _, q⟩ := h2; exact q.elim
/-! ### an own error's super().__init__(..) -/
section
variable {X : Cx} {D f a C u : Addr} {x : Str} {pins : List (Addr × Obj)} {σ : L2.St} {H : Hp} {s : Shared} {body : List Stmt} {p0 p1 : Pos} {A : Around} {E : Value → Shared → Prop}
theorem mw_call {us : List Value} {Q : Value → Shared → Prop} (T : OexC X.K C) (I : Inv X pins σ H s) (hu : s.heap.get? u = some (PySem.W.kxs_mw "ValueError.__init__" a)) (e : H a = some (exo a C none)) (hl : us.length ≤ sizeLine) (h : ∀ s', Inv X pins σ H s' → Q .none s') :
    wpAny (model X.prog X.w) A (call (.ref u) us) Q E s := by
  obtain ⟨nm, q, N, bs, bm, sn, sub, ab, col, dd, k0, k1, k2, k3, k5, hC, hbm⟩ := T.cls
  obtain ⟨t1, ho⟩ := exo_at I.hok e
  obtain ⟨hh, gg, d, tt, os⟩ := s
  refine wpAny_call (codeAny_of_tree (show wpAny _ A.in1 (callAny (.ref u) ⟨us, []⟩) _ _ _ from ?_))
  simp only [callAny]
  refine wpAny_bind (wpAny_load hu (?_ : wpAny _ _ _ _ _ _))
  simp only [PySem.W.kxs_mw]
  refine PySem.W.KFB.if_so (by decide) (wpAny_bind (PySem.W.check_bound_init PySem.F.excBase_ValueError.toExcCallFacts (I.kIn _ _ hC) ho rfl (wpAny_bind (wpAny_pure (wpAny_pure ⟨plainId_quiet PySem.F.excBase_ValueError.init.plain _, codeAny_builtin PySem.F.excBase_ValueError.initEntry ?_⟩)))))
  refine PySem.W.exc_init_tree (cls := .ref C) (t0 := t1) (dv := none) (c2 := .none) (c3 := .none) (b4 := .bool false) ho hl fun h' k hx hy => ?_
  have J := I.write (t' := tt) (x := a) (e := a) (o := exo a C none) (by rw [e]; exact True.intro) (.inl rfl) k ⟨_, hx⟩ (exo_ok hx)
  have eu : upd H a (exo a C none) = H := by
    funext b
    by_cases hb : b = a
    · rw [hb, upd_same, e]
    · rw [upd_ne hb]
  rw [eu] at J
  exact h _ J
def tSupX (K : PySem.W.Frag) (C : Addr) (t : TA) : TE := fun σ H Q => ∃ a, σ[0]? = some (some (.ref a)) ∧ OexC K C ∧ H a = some (exo a C none) ∧ t σ H fun vs H2 => vs.length ≤ 1000 ∧ H2 a = some (exo a C none) ∧ Q .non H2
theorem pe_supX {e : Expr} {es : List Expr} {t : TA} {apos pos : Pos} {pl : Sem Bool} (S : SupX X D f x) (hsub : PySem.W.mroIn X.K C (.ref D) = some true) (ho : PySem.W.nsIn X.K PySem.cStatics "thirdparty.any" = some none)
    (hm : PySem.W.ks_superIn X.K C D "__init__" = some (some (.builtin "ValueError.__init__"))) (hI : PySem.W.subIn X.K (.ref C) (.type "ValueError") = some true) (ha : PA X (e :: es) t)
    (hst : starEach (e :: es) X.env = (false, eval e X.env) :: starEach es X.env := by rfl) (hpl : (backTo pos (starEach es X.env)).any (·.1) = false := by rfl)
    (hev : eval (.Call (.Attribute (.Call (.Name "super" p0) [] [] p1) "__init__" apos) (e :: es) [] pos) X.env = (do let ov ← attributeBase (.Call (.Name "super" p0) [] [] p1) "__init__" X.env (eval (.Call (.Name "super" p0) [] [] p1) X.env); standAt apos.atName; let (f, first) ← holding [ov] (getMethod ov "__init__" pl); callWith pos f first (backTo pos (starEach (e :: es) X.env)) []) := by rfl) :
    PEat X (.func body X.env) (.Call (.Attribute (.Call (.Name "super" p0) [] [] p1) "__init__" apos) (e :: es) [] pos) (tSupX X.K C t) := by
  refine ⟨fun pins s σ G Q I h => ?_⟩
  obtain ⟨a, h0, T, hexo, q⟩ := h
  obtain ⟨t1, hoa⟩ := exo_at I.hok hexo
  have J : PySem.W.InstAt s.heap a ({ cls := .ref C, dict := none, data := .fields #[.ref t1, .none, .none, .none, .bool false, .none] } : Obj) C none := ⟨hoa, rfl, rfl, trivial⟩
  refine PySem.ks_wpAt_MethodCall (pl := pl) (sup_base S I h0 J hsub (by decide +kernel) fun so h' up hso => ?_) hev
  have I1 : Inv X pins σ G { s with heap := h' } := I.kept (t' := s.toks) up
  have KX : X.K.In h' := I1.kIn
  obtain ⟨cd, hcd⟩ : ∃ cd, PySem.W.clsIn X.K C = some cd := by
    cases hc : PySem.W.clsIn X.K C with
    | none => unfold PySem.W.ks_superIn at hm; rw [hc] at hm; cases hm
    | some cd => exact ⟨cd, rfl⟩
  have hal : PySem.W.alongIn X.K "__init__" ((cd.mro.dropWhile (· != .ref D)).drop 1) = some (some (.builtin "ValueError.__init__")) := by
    unfold PySem.W.ks_superIn at hm
    rw [hcd] at hm
    exact hm
  have J1 : PySem.W.InstAt h' a ({ cls := .ref C, dict := none, data := .fields #[.ref t1, .none, .none, .none, .bool false, .none] } : Obj) C none := ⟨up _ _ hoa, rfl, rfl, trivial⟩
  have LI : PySem.W.Looks (model X.prog X.w) h' (isInstance (.ref a) (.type "ValueError")) true := (J1.type (M := model X.prog X.w)).andThen (PySem.W.looks_subIn KX hI)
  obtain ⟨hh, gg, dd, tt, os⟩ := s
  refine PySem.W.kxs_getMethod PySem.W.kxs_ValueError hso (PySem.W.looks_opaque KX ho) (l₀ := cd.mro) (fun A Q E s k q => wpAny_bind ((PySem.W.looks_clsIn KX hcd) A _ E s k (wpAny_pure q))) rfl KX hal LI (PySem.W.ks_ne I.kIn J hcd) (by decide +kernel) ?_
  have I2 : Inv X ((h'.objs.size, PySem.W.kxs_mw "ValueError.__init__" a) :: pins) σ G ⟨h'.push (PySem.W.kxs_mw "ValueError.__init__" a), gg, dd, tt + 1, os⟩ := ClX.pin_new I1 (fun _ _ z => Heap.get?_push_of_some _ z) (Nat.le_refl _) (Heap.get?_push_size h' rfl) (fun v z => nomatch z)
  show wpAny _ _ (callWith pos (.ref h'.objs.size) [] (backTo pos (starEach (e :: es) X.env)) []) _ _ _
  have hrun := ha.run pos _ _ σ G _ I2 q
  rw [hst] at hrun ⊢
  refine PySem.W.kxs_callWith (i := "ValueError.__init__") (x := a) (by show (false || (backTo pos (starEach es X.env)).any (·.1)) = false; rw [hpl]; rfl) (PySem.Calls.evalArgs_plain (thn hrun fun us s2 ⟨vs, H2, I3, r, hv, he2, q2⟩ => ⟨ClX.pin_at I3, ?_⟩))
  refine mw_call T I3 (ClX.pin_at I3) he2 ?_ fun s3 I4 => ⟨.non, H2, ClX.unpin I4, rfl, q2⟩
  show us.length ≤ sizeLine
  rw [← r.length, sizeLine_eq]
  omega
end
end Z
namespace Z
open PySem L2 PySem.Spec PyProof.Rows
/-! ### the head's facts of own errors and of defs that say super() -/
def oexB (x : Str) (K : PySem.W.Frag) : Bool := (match K.lookup (He.ga K x) with
  | some ⟨.type "type", _, .cls cd, sl⟩ => (match cd.mro, sl.toList with
    | .ref C' :: bm, [_, _, _, _, some (.builtin n), _] => C' == He.ga K x && n == "ValueError.__new__" && !cd.hasDel && cd.hasDict && PySem.HandSPX.refsVE bm
    | _, _ => false)
  | _ => false) && (decide (PySem.W.findIn K (.ref (He.ga K x)) "__setattr__" = some (some (.builtin "object.__setattr__"))) && (decide (PySem.W.subIn K (.ref (He.ga K x)) (.type "BaseException") = some true) && (decide (PySem.W.typeIn K (.ref (He.ga K x)) = some (.type "type")) && PySem.W.keepIn K (.ref (He.ga K x)))))
theorem oexB_ok {K : PySem.W.Frag} {x : Str} (h : oexB x K = true) : OexC K (He.ga K x) := by
  obtain ⟨q, h⟩ := He.ba h
  obtain ⟨h2, h⟩ := He.ba h
  obtain ⟨h3, h⟩ := He.ba h
  obtain ⟨h4, h5⟩ := He.ba h
  refine ⟨?_, of_decide_eq_true h2, of_decide_eq_true h3, of_decide_eq_true h4, h5⟩
  split at q
  · rename_i dd cd sl ho
    split at q
    · rename_i C' bm k0 k1 k2 k3 n k5 hm hs
      simp only [Bool.and_eq_true, beq_iff_eq, Bool.not_eq_true'] at q
      obtain ⟨⟨⟨⟨rfl, rfl⟩, hdel⟩, hdi⟩, ht⟩ := q
      obtain ⟨nm, bs, mro, ns, qn, hd, sn, sub, ab, col, del⟩ := cd
      dsimp only at hm hdel hdi
      subst hm hdel hdi
      have hsl : sl = #[k0, k1, k2, k3, some (.builtin "ValueError.__new__"), k5] := by
        obtain ⟨l⟩ := sl
        simp only at hs
        rw [hs]
      subst hsl
      exact ⟨nm, qn, ns, bs, bm, sn, sub, ab, col, dd, k0, k1, k2, k3, k5, ho, ht⟩
    · cases q
  · cases q
/-- a def with its closure left out -/
def fnWs (K : PySem.W.Frag) (p : Str × Option Str) : He.FnW := match K.lookup (He.fAd K p) with
  | some ⟨_, _, .func fd, _⟩ => some (fd.name, fd.qualname, fd.params, fd.body, fd.scope, fd.globals, [], fd.builtins)
  | _ => none
def supB (d : He.DefD) (D file : Str) (K : PySem.W.Frag) : Bool := PySem.W.keepIn K (.ref (He.fAd K d.at_)) && (match K.lookup (He.fAd K d.at_) with
  | some ⟨_, _, .func fd, _⟩ => (match fd.closure, fd.code with
    | [(n, cc)], .ref cda => (match fd.defaults, fd.kwdefaults with
      | .none, .none => true
      | _, _ => false) && (decide (n = "__class__") && (PySem.W.codeIn K (.ref cda) d.qual && ((match K.lookup cc with
        | some ⟨_, _, .cell (some (.ref D')), _⟩ => decide (D' = He.ga K D)
        | _ => false) && (match K.lookup cda with
        | some ⟨_, _, .fields vs, _⟩ => (match (vs[2]? : Option Value) with
          | some (Value.str fl _) => file == fl
          | _ => false)
        | _ => false))))
    | _, _ => false)
  | _ => false)
theorem supB_ok {P : Program} {K : PySem.W.Frag} {d : He.DefD} {D : Str} (e : fnWs K d.at_ = d.val) (c : supB d D P.main.file K = true) : ∃ fd, FunS P K d.name d.qual d.params d.body d.scope (He.ga K D) (He.fAd K d.at_) fd := by
  obtain ⟨kp, c2⟩ := He.ba c
  unfold fnWs at e
  cases q : K.lookup (He.fAd K d.at_) with
  | none =>
    rw [q] at c2
    cases c2
  | some o =>
    obtain ⟨oc, od, dt, osl⟩ := o
    rw [q] at c2 e
    cases dt with
    | func fd =>
      obtain ⟨n1, n2, n3, n4, n5, n6, n7, n8, n9, n10, n11, n12, n13, n14, n15⟩ := fd
      have e2 : (some (n1, n2, n3, n4, n5, n6, ([] : List (Str × Addr)), n15) : He.FnW) = some (d.name, d.qual, d.params, .stmts d.body, d.scope, mainGlobals, [], builtinsNs) := e
      simp only [Option.some.injEq, Prod.mk.injEq] at e2
      obtain ⟨h1, h2, h3, h4, h5, h6, _, h8⟩ := e2
      subst h1 h2 h3 h4 h5 h6 h8
      dsimp only at c2
      split at c2
      · rename_i x1 x2 n cc cda
        obtain ⟨k0, c2⟩ := He.ba c2
        obtain ⟨k1, c3⟩ := He.ba c2
        obtain ⟨k2, c4⟩ := He.ba c3
        obtain ⟨k3, k4⟩ := He.ba c4
        have en : n = "__class__" := of_decide_eq_true k1
        subst en
        split at k0
        case h_2 => cases k0
        refine ⟨_, ⟨oc, od, n10, n11, n12, cda, n14, osl, cc, rfl, q, k2, ?_, ?_⟩, kp⟩
        · split at k3
          · rename_i cl cd D' cs hc
            have eD : D' = He.ga K D := of_decide_eq_true k3
            subst eD
            exact ⟨_, _, _, hc⟩
          · cases k3
        · split at k4
          · rename_i cl cd vs cs hc
            split at k4
            · rename_i fl tf hv
              exact ⟨_, _, vs, _, fl, tf, hc, hv, k4⟩
            · cases k4
          · cases k4
      · cases c2
    | _ => cases c2
def fdOf_S {P : Program} {K : PySem.W.Frag} {x qual : Str} {params : Arguments} {body : List Stmt} {scope : Scope} {D f : Addr} (h : ∃ fd, FunS P K x qual params body scope D f fd) : FunS P K x qual params body scope D f (fdOf K f) := by
  obtain ⟨fd, F⟩ := h
  have e : fdOf K f = fd := by
    obtain ⟨_, _, _, _, _, _, _, _, _, _, lk, _⟩ := F.ex
    unfold fdOf
    rw [lk]
  rw [e]
  exact F
/-- the facts that a super() call wants -/
def clsB (x : Str) (K : PySem.W.Frag) : Bool := (PySem.W.clsIn K (He.ga K x)).isSome
theorem clsB_ok {K : PySem.W.Frag} {x : Str} (h : clsB x K = true) : ∃ cd, PySem.W.clsIn K (He.ga K x) = some cd := Option.isSome_iff_exists.mp h
def mroB (x y : Str) (K : PySem.W.Frag) : Bool := decide (PySem.W.mroIn K (He.ga K x) (.ref (He.ga K y)) = some true)
theorem mroB_ok {K : PySem.W.Frag} {x y : Str} (h : mroB x y K = true) : PySem.W.mroIn K (He.ga K x) (.ref (He.ga K y)) = some true := of_decide_eq_true h
def thirdB (K : PySem.W.Frag) : Bool := decide (PySem.W.nsIn K PySem.cStatics "thirdparty.any" = some none)
theorem thirdB_ok {K : PySem.W.Frag} (h : thirdB K = true) : PySem.W.nsIn K PySem.cStatics "thirdparty.any" = some none := of_decide_eq_true h
/-- super().m from the class at y of an object of the class at x is the def m of the class at z -/
def supmB (x y m z : Str) (K : PySem.W.Frag) : Bool := decide (PySem.W.ks_superIn K (He.ga K x) (He.ga K y) m = some (some (.ref (He.ma K (He.ga K z) m)))) && (decide (PySem.W.typeIn K (.ref (He.ma K (He.ga K z) m)) = some (.type "function")) && PySem.W.fnIn K (He.ma K (He.ga K z) m))
theorem supmB_ok {K : PySem.W.Frag} {x y m z : Str} (h : supmB x y m z K = true) : PySem.W.ks_superIn K (He.ga K x) (He.ga K y) m = some (some (.ref (He.ma K (He.ga K z) m))) ∧ PySem.W.typeIn K (.ref (He.ma K (He.ga K z) m)) = some (.type "function") ∧ PySem.W.fnIn K (He.ma K (He.ga K z) m) = true := by
  obtain ⟨h1, h⟩ := He.ba h
  obtain ⟨h2, h3⟩ := He.ba h
  exact ⟨of_decide_eq_true h1, of_decide_eq_true h2, h3⟩
def supiB (x : Str) (K : PySem.W.Frag) : Bool := decide (PySem.W.ks_superIn K (He.ga K x) (He.ga K x) "__init__" = some (some (.builtin "ValueError.__init__"))) && (decide (PySem.W.subIn K (.ref (He.ga K x)) (.type "ValueError") = some true) && (decide (PySem.W.findIn K (.ref (He.ga K x)) "__init__" = some (some (.ref (He.ma K (He.ga K x) "__init__")))) && decide (PySem.W.typeIn K (.ref (He.ma K (He.ga K x) "__init__")) = some (.type "function"))))
theorem supiB_ok {K : PySem.W.Frag} {x : Str} (h : supiB x K = true) : PySem.W.ks_superIn K (He.ga K x) (He.ga K x) "__init__" = some (some (.builtin "ValueError.__init__")) ∧ PySem.W.subIn K (.ref (He.ga K x)) (.type "ValueError") = some true ∧ PySem.W.findIn K (.ref (He.ga K x)) "__init__" = some (some (.ref (He.ma K (He.ga K x) "__init__"))) ∧ PySem.W.typeIn K (.ref (He.ma K (He.ga K x) "__init__")) = some (.type "function") := by
  obtain ⟨h1, h⟩ := He.ba h
  obtain ⟨h2, h⟩ := He.ba h
  obtain ⟨h3, h4⟩ := He.ba h
  exact ⟨of_decide_eq_true h1, of_decide_eq_true h2, of_decide_eq_true h3, of_decide_eq_true h4⟩
/-! the hook with such defs -/
open He in
def obsY (n : Nat) (ex : List (PySem.W.Frag → Bool)) (fn fs : List DefD) (g : Addr → Option Obj) : AlD := ((ex.all fun f => f (frG g (PySem.cStatics :: asD g n))) && fn.all fun d => d.ok (frG g (PySem.cStatics :: asD g n)), (fn.map fun d => fnW (frG g (PySem.cStatics :: asD g n)) d.at_) ++ fs.map fun d => fnWs (frG g (PySem.cStatics :: asD g n)) d.at_)
structure SaysY (ex : List (PySem.W.Frag → Bool)) (fn fs : List He.DefD) (K : PySem.W.Frag) : Prop where
  facts : ∀ f ∈ ex, f K = true
  d : He.SaysD [] fn K
  s : fs.map (fun d => fnWs K d.at_) = fs.map He.DefD.val
theorem SaysY.fact {ex : List (PySem.W.Frag → Bool)} {fn fs : List He.DefD} {K : PySem.W.Frag} (c : SaysY ex fn fs K) (i : Nat) {f : PySem.W.Frag → Bool} (h : ex[i]? = some f := by rfl) : f K = true := c.facts f (List.mem_of_getElem? h)
theorem SaysY.sup {ex : List (PySem.W.Frag → Bool)} {fn fs : List He.DefD} {K : PySem.W.Frag} (c : SaysY ex fn fs K) (i : Nat) {d : He.DefD} (h : fs[i]? = some d := by rfl) : fnWs K d.at_ = d.val := by
  have e : (fs.map fun d => fnWs K d.at_)[i]? = (fs.map He.DefD.val)[i]? := by rw [c.s]
  rw [List.getElem?_map, List.getElem?_map, h] at e
  exact Option.some.inj e
def hookY (n : Nat) (ex : List (PySem.W.Frag → Bool)) (fn fs : List He.DefD) : PySem.W.Hook where
  α := He.AlD
  obs := fun s => obsY n ex fn fs s.heap.get?
  val := fun _ => (true, fn.map He.DefD.val ++ fs.map He.DefD.val)
  says := fun _ h => ∃ K : PySem.W.Frag, K.In h ∧ SaysY ex fn fs K
  of := fun _ s e => by
    have e1 := congrArg (fun z : He.AlD => z.1) e
    have e2 := congrArg (fun z : He.AlD => z.2) e
    obtain ⟨h1, h2⟩ := He.ba e1
    obtain ⟨e3, e4⟩ := List.append_inj e2 (by rw [List.length_map, List.length_map])
    refine ⟨He.frG s.heap.get? (PySem.cStatics :: He.asD s.heap.get? n), He.frG_in, fun f hf => List.all_eq_true.mp h1 f hf, ?_, e4⟩
    show ((([] : List He.Fa).all fun f => f.ok _) && fn.all fun d => d.ok _, fn.map fun d => He.fnW _ d.at_) = (true, fn.map He.DefD.val)
    rw [h2]
    exact congrArg (fun z => (true, z)) e3
  keeps := fun _ _ _ ⟨K, hK, c⟩ k => ⟨K, PySem.W.Frag.In.keeps hK k, c⟩
theorem obsY_eq {n : Nat} {ex : List (PySem.W.Frag → Bool)} {fn fs : List He.DefD} {g : Addr → Option Obj} {s : Shared} (h : ∀ a, g a = s.heap.get? a) : obsY n ex fn fs g = (hookY n ex fn fs).obs s := by
  have e : g = s.heap.get? := funext h
  rw [e]
  rfl
/-! ### own errors with fields -/
/-- __init__ of an error: super().__init__(text), then self.f = v for each of the names -/
def spX (C : Addr) (names : List Str) : Sp := fun vs H Q _ => ∃ (a : Addr) (ws : List V), vs = .ref a :: ws ∧ ws.length = names.length ∧ H a = some (exo a C none) ∧ ∀ dx, H dx = none → dx ≠ a → Q .non (upd (upd H dx (exd dx (names.zip ws).reverse)) a (exo a C (some dx)))
section
variable {K : PySem.W.Frag} {σ : L2.St} {H : Hp} {Q : VK} {D : Ends} {C a dx : Addr} {f : Str} {y : V} {fs : List (Str × V)} {t : TA} {to te : TE}
theorem w_supX (h0 : σ[0]? = some (some (.ref a))) (T : OexC K C) (ha : H a = some (exo a C none)) (q : t σ H fun vs H2 => vs.length ≤ 1000 ∧ H2 a = some (exo a C none) ∧ Q .non H2) : tSupX K C t σ H Q := ⟨a, h0, T, ha, q⟩
theorem upd_swap {H : Hp} {p q : Addr} {o u u' : HO} (h : p ≠ q) : upd (upd (upd H p u) q o) p u' = upd (upd H p u') q o := by
  funext b
  by_cases hp : b = p
  · subst hp; rw [upd_same, upd_ne h, upd_same]
  · by_cases hq : b = q
    · subst hq; rw [upd_ne hp, upd_same, upd_same]
    · rw [upd_ne hp, upd_ne hq, upd_ne hp, upd_ne hq, upd_ne hp]
end
/-- raise C(v, ..) -/
theorem mkX {C : Addr} {names : List Str} {H : Hp} {Q : XK} {vs : List V} (hl : vs.length = names.length) (hn : names.length ≤ 1000) (q : ∀ d H', Fr H d → Ex H H' → At H' d (.xd (names.zip vs).reverse) → Q (.ref C) (some d) H') :
    vs.length ≤ 1000 ∧ ∀ a, H a = none → spX C names (.ref a :: (vs ++ [])) (upd H a (exo a C none)) (fun v H2 => v = .non ∧ ∃ (d : Addr) (fs : List (Str × V)), H2 a = some (exo a C (some d)) ∧ H2 d = some (exd d fs) ∧ H d = none ∧ Q (.ref C) (some d) (upd (del H2 a) d (.xd fs))) (fun _ _ _ => False) := by
  refine ⟨by omega, fun a ha => ⟨a, vs, by rw [List.append_nil], hl, upd_same, fun dx hd hne => ⟨rfl, dx, _, upd_same, by rw [upd_ne hne, upd_same], by rw [upd_ne hne] at hd; exact hd, ?_⟩⟩⟩
  have hd' : H dx = none := by rw [upd_ne hne] at hd; exact hd
  have e : upd (del (upd (upd (upd H a (exo a C none)) dx (exd dx (names.zip vs).reverse)) a (exo a C (some dx))) a) dx (.xd (names.zip vs).reverse) = upd H dx (.xd (names.zip vs).reverse) := by
    funext b
    by_cases hb : b = dx
    · subst hb; rw [upd_same, upd_same]
    · rw [upd_ne hb, upd_ne hb]
      by_cases hba : b = a
      · subst hba; rw [del_same, ha]
      · rw [del_ne hba, upd_ne hba, upd_ne hb, upd_ne hba]
  rw [e]
  exact q dx _ hd' (Ex.new hd') upd_same
theorem FunS.binds {P : Program} {K : PySem.W.Frag} {x qual : Str} {params : Arguments} {body : List Stmt} {scope : Scope} {D f : Addr} {fd : FuncData} {ps : List Str} (F : FunS P K x qual params body scope D f fd)
    (h : ∀ (cl : List (Str × Addr)) (doc pm : Value) (an : Option Addr) (c1 c2 : Value) (us : List Value), us.length = ps.length → bindArgs (PySem.W.fnX x qual params body scope cl .none .none doc pm an c1 c2) ⟨us, []⟩ = pure (ps.zip us)) : Binds K fd ps [] := by
  obtain ⟨oc, od, doc, pm, an, cda, ct, osl, cc, rfl, _⟩ := F.ex
  intro s us _ hl
  rw [List.append_nil] at hl ⊢
  have e := h [("__class__", cc)] doc pm an (.ref cda) ct us hl
  intro M A Q E hq
  rw [e]
  exact wpAny_pure hq
/-! ### the caught error: isinstance, with or without fields; its fields -/
section
variable {X : Cx} {a : Addr} {oe : Obj} {cls : Value} {d : Option Addr} {pn : List (Addr × Obj)}
def rIsY (K : PySem.W.Frag) (cls : Value) (d : Option Addr) (a : Addr) : List V → Hp → VK → Prop := fun xs H Q => ∃ D, cls = .ref D ∧ ExcC K D ∧ (d = none ∨ ∃ dd fs, d = some dd ∧ H dd = some (.xd fs)) ∧ rIsE K D a xs H Q
theorem call_isY (hz : Zc cls d oe) (hf : ∃ vs, oe.data = .fields vs) : CallR (X.suite a ((a, oe) :: pn)) (.builtin "isinstance") (rIsY X.K cls d a) := by
  intro pins s σ G xs us Q I r h
  obtain ⟨D, rfl, C, hd, h⟩ := h
  rcases hd with rfl | ⟨dd, fs, rfl, hxd⟩
  · exact call_isE C hz hf pins s σ G xs us Q I r h
  · obtain ⟨c, cv, b, rfl, hcv, e, q⟩ := h
    cases r with
    | cons rx rr =>
      cases rr with
      | cons rt rr =>
        cases rr
        cases rx
        have ec := hcv _ rt
        subst ec
        obtain ⟨hget, _⟩ := I.pin (a, oe) (List.mem_append.mpr (.inl List.mem_cons_self))
        obtain ⟨vs, hv⟩ := hf
        obtain ⟨mA, hns, hr⟩ := (show ObjOk X.prog X.w G s.heap dd (.xd fs) from I.hok dd _ hxd)
        obtain ⟨od, ho, hl⟩ := lookIn_ns hns
        have J : PySem.W.InstAt s.heap a oe D (some od) := ⟨hget, hz.1, by unfold PySem.W.notCls; rw [hv] <;> rfl, by rw [hz.2]; exact ho⟩
        have hcl : (PySem.W.clsIn X.K D).isSome = true := by
          obtain ⟨cd, hc, _⟩ := PySem.W.any_some C.hd
          rw [hc]; rfl
        exact PySem.W.kia_one (PySem.W.kitx_exc hcl C.hg C.hk C.hs C.ha C.hn C.ht C.hm) I.kIn J e (fun z => nomatch z) fun tk => ⟨.bl b, G, I.kept (t' := tk) fun _ _ z => z, rfl, q⟩
end
section
variable {K : PySem.W.Frag} {σ : L2.St} {H : Hp} {Q : VK} {C a dd : Addr} {f : Str} {v : V} {fs : List (Str × V)} {te : TE} {b : Bool}
theorem w_isY (x : ExcC K C) (h : PySem.W.kitOne K (.ref C) (.ref a) = some b) (q : Q (.bl b) H) {e : Addr} : rIsY K (.ref C) none e [.ref e, .ref a] H Q := ⟨C, rfl, x, .inl rfl, .ref a, .ref a, b, rfl, fun u r => r, h, q⟩
theorem w_isYt {t : String} (x : ExcC K C) (h : PySem.W.kitOne K (.ref C) (.type t) = some b) (q : Q (.bl b) H) {e : Addr} : rIsY K (.ref C) none e [.ref e, .ty t] H Q := ⟨C, rfl, x, .inl rfl, .ty t, .type t, b, rfl, fun u r => r, h, q⟩
theorem w_isYd (x : ExcC K C) (hd : At H dd (.xd fs)) (h : PySem.W.kitOne K (.ref C) (.ref a) = some b) (q : Q (.bl b) H) {e : Addr} : rIsY K (.ref C) (some dd) e [.ref e, .ref a] H Q := ⟨C, rfl, x, .inr ⟨dd, fs, rfl, hd⟩, .ref a, .ref a, b, rfl, fun u r => r, h, q⟩
theorem w_isYdt {t : String} (x : ExcC K C) (hd : At H dd (.xd fs)) (h : PySem.W.kitOne K (.ref C) (.type t) = some b) (q : Q (.bl b) H) {e : Addr} : rIsY K (.ref C) (some dd) e [.ref e, .ty t] H Q := ⟨C, rfl, x, .inr ⟨dd, fs, rfl, hd⟩, .ty t, .type t, b, rfl, fun u r => r, h, q⟩
/-- e.f of the caught error -/
def dXf (a : Addr) (cls : Value) (d : Option Addr) (C : Addr) (f : Str) (Q : VK) : VK := fun x H1 => x = .ref a ∧ cls = .ref C ∧ ∃ (dd : Addr) (fs : List (Str × V)) (v : V), d = some dd ∧ H1 dd = some (.xd fs) ∧ fs.lookup f = some v ∧ Q v H1
theorem w_xf {cls : Value} {d : Option Addr} (h : te σ H (dXf a cls d C f Q)) : tXf a cls d C f te σ H Q := h
theorem w_dXf (hd : At H dd (.xd fs)) (hl : fs.lookup f = some v) (q : Q v H) : dXf a (.ref C) (some dd) C f Q (.ref a) H := ⟨rfl, rfl, dd, fs, v, rfl, hd, hl, q⟩
end
def xfcB (x : Str) (K : PySem.W.Frag) : Bool := xfB K (He.ga K x)
theorem xfcB_ok {K : PySem.W.Frag} {x : Str} (h : xfcB x K = true) : XfC K (He.ga K x) := xfB_ok h
/-! ### raise -/
def tRaise (t : L2.St → Hp → XK → Prop) (W : WX) : TS := fun _ σ H => t σ H fun cls d H' => W cls d σ H'
theorem ps_raiseZ {X : Cx} {W : WX} {e : Expr} {t : L2.St → Hp → XK → Prop} {pos : Pos} (hc : X.calm = true) (tk : Takes X W) (he : PMk X e t) : PS X (.Raise (some e) none pos) (tRaise t W) := ps_raise hc tk he
def dMX (C : Addr) (sp : Sp) (dvs : List V) (Q : XK) : List V → Hp → Prop := fun vs H1 => vs.length ≤ 1000 ∧ ∀ a, H1 a = none → sp (.ref a :: (vs ++ dvs)) (upd H1 a (exo a C none)) (fun v H2 => v = .non ∧ ∃ (d : Addr) (fs : List (Str × V)), H2 a = some (exo a C (some d)) ∧ H2 d = some (exd d fs) ∧ H1 d = none ∧ Q (.ref C) (some d) (upd (del H2 a) d (.xd fs))) (fun _ _ _ => False)
section
variable {σ : L2.St} {H : Hp} {Q : XK} {D : Ends} {C : Addr} {sp : Sp} {dvs vs : List V} {ta : TA} {names : List Str} {t : L2.St → Hp → XK → Prop} {W : WX}
theorem w_raise (h : t σ H fun cls d H' => W cls d σ H') : tRaise t W D σ H := h
theorem w_mkO (h : ta σ H (dMX C sp dvs Q)) : tMkO C sp dvs ta σ H Q := h
theorem w_dMX (hl : vs.length = names.length) (hn : names.length ≤ 1000) (q : ∀ d H', Fr H d → Ex H H' → At H' d (.xd (names.zip vs).reverse) → Q (.ref C) (some d) H') : dMX C (spX C names) [] Q vs H := mkX hl hn q
end
/-! ### slices of tuples, sorted -/
theorem slA {X : Cx} {K : PySem.W.Frag} (hK : X.K = K) : SlR X (rSlA K) := hK ▸ sl_tupA
theorem call_sortI {X : Cx} {K : PySem.W.Frag} (hK : X.K = K) : CallR X (.builtin "sorted") (rSortedI K) := hK ▸ cr_sortedI
section
variable {K : PySem.W.Frag} {H : Hp} {Q : VK} {a : Addr} {i : Int} {ns : List Int}
theorem w_slTo (h : SqT K H a (ns.map V.int)) (h0 : 0 ≤ i) (q : ∀ p H2, Ex H H2 → SqT K H2 p ((ns.take i.toNat).map V.int) → Q (.ref p) H2) : rSlA K (.ref a) none (some i) H Q := by
  refine ⟨a, _, rfl, h, fun hw => ?_, fun hw p hp => q p _ (Ex.new hp) (st_of ?_)⟩
  · refine q a H (Ex.refl H) ?_
    have e : ns.take i.toNat = ns := by
      have := hw.2
      obtain ⟨k, rfl⟩ := Int.eq_ofNat_of_zero_le h0
      rw [HT.sIx_nat, List.length_map] at this
      rw [Int.toNat_natCast]
      exact List.take_of_length_le (by omega)
    rw [e]; exact h
  · show upd H p _ p = _
    rw [upd_same, cut_to h0, List.map_take]
theorem w_slFrom (h : SqT K H a (ns.map V.int)) (h0 : 0 ≤ i) (q : ∀ p H2, Ex H H2 → SqT K H2 p ((ns.drop i.toNat).map V.int) → Q (.ref p) H2) : rSlA K (.ref a) (some i) none H Q := by
  refine ⟨a, _, rfl, h, fun hw => ?_, fun hw p hp => q p _ (Ex.new hp) (st_of ?_)⟩
  · refine q a H (Ex.refl H) ?_
    have e : ns.drop i.toNat = ns := by
      have := hw.1
      obtain ⟨k, rfl⟩ := Int.eq_ofNat_of_zero_le h0
      rw [HT.sIx_nat, List.length_map] at this
      rw [Int.toNat_natCast]
      rcases Nat.eq_zero_or_pos k with z | z
      · rw [z]; rfl
      · have : ns.length = 0 := by omega
        rw [List.length_eq_zero_iff.mp this]; simp
    rw [e]; exact h
  · show upd H p _ p = _
    rw [upd_same, cut_from h0, List.map_drop]
theorem w_sortI (h : SqL K H a (ns.map V.int)) (q : ∀ p H2 (ms : List Int), Fr H p → Ex H H2 → At H2 p (.lst (ms.map V.int)) → ms.Perm ns → ms.Pairwise (· ≤ ·) → Q (.ref p) H2) : rSortedI K [.ref a] H Q :=
  ⟨a, ns, rfl, h, fun ms p h1 h2 hp => q p _ ms hp (Ex.new hp) at_upd h1 h2⟩
end
/-! ### xs.pop(i) -/
theorem w_popI {H : Hp} {Q : VK} {a : Addr} {i : Int} {ns : List Int} (h : At H a (.lst (ns.map V.int))) (h0 : 0 ≤ i) (h1 : i < ns.length) (h2 : ns.length < 2 ^ 62)
    (q : ∀ H2, At H2 a (.lst ((ns.eraseIdx i.toNat).map V.int)) → Nl H H2 → (∀ H0, Ex H0 H → Fr H0 a → Ex H0 H2) → (∀ b o, b ≠ a → At H b o → At H2 b o) → Q (.int (ns.getD i.toNat 0)) H2) : rPopAt (.ref a) [.int i] H Q := by
  have hk : i.toNat < ns.length := by omega
  refine ⟨a, _, i, i.toNat, .int (ns.getD i.toNat 0), rfl, rfl, h, by omega, by omega, ?_, ?_, q _ ?_ (Nl.upd h) (fun H0 e n => Ex.mut e n) (fun b o hb e => by unfold At; rw [upd_ne hb]; exact e)⟩
  · unfold seqIndex?
    rw [List.length_map]
    simp only [show ¬ i < 0 by omega, if_false]
    simp [h0, h1]
  · rw [List.getElem?_map, List.getD_eq_getElem?_getD, List.getElem?_eq_getElem hk]
    rfl
  · unfold At
    rw [upd_same]
    congr 2
    apply List.ext_getElem?
    intro j
    simp only [List.getElem?_eraseIdx, List.getElem?_map]
    split <;> rfl
end Z
namespace Z
open PySem L2 PySem.Spec PyProof.Rows
/-! ### methods of classes above; constants of a class; stores into own fields -/
/-- the method m of the class x is the def m of the class y -/
def methB (x m y : Str) (K : PySem.W.Frag) : Bool := He.eqO (PySem.W.findIn K (.ref (He.ga K x)) m) (some (some (.ref (He.ma K (He.ga K y) m)))) && (PySem.W.isFn K (.ref (He.ma K (He.ga K y) m)) && PySem.W.keepIn K (.ref (He.ma K (He.ga K y) m)))
theorem methB_ok {K : PySem.W.Frag} {x m y : Str} (c : methB x m y K = true) : Meth K (He.ga K x) m (He.ma K (He.ga K y) m) := by
  obtain ⟨c1, c⟩ := He.ba c
  obtain ⟨c2, c3⟩ := He.ba c
  exact ⟨He.eqO_ok c1, c2, c3⟩
/-- the class x makes instances by the __init__ of the class y -/
def mkrB (x y : Str) (K : PySem.W.Frag) : Bool := PySem.W.makesIn K (He.ga K x) && (He.eqO (PySem.W.findIn K (.ref (He.ga K x)) "__init__") (some (some (.ref (He.ma K (He.ga K y) "__init__")))) && (PySem.W.isFn K (.ref (He.ma K (He.ga K y) "__init__")) && PySem.W.keepIn K (.ref (He.ga K x))))
theorem mkrB_ok {K : PySem.W.Frag} {x y : Str} (c : mkrB x y K = true) : Mk K (He.ga K x) (He.ma K (He.ga K y) "__init__") := by
  obtain ⟨c1, c⟩ := He.ba c
  obtain ⟨c2, c⟩ := He.ba c
  obtain ⟨c3, c4⟩ := He.ba c
  exact ⟨c1, He.eqO_ok c2, c3, c4⟩
/-- the class x has the int i as its constant f -/
def conIB (x f : Str) (i : Int) (K : PySem.W.Frag) : Bool := match PySem.W.findIn K (.ref (He.ga K x)) f with
  | some (some (.int j t)) => decide (j = i) && He.eqO (PySem.W.specialIn K (.int j t) "__get__") (some none)
  | _ => false
theorem conIB_ok {K : PySem.W.Frag} {x f : Str} {i : Int} (h : conIB x f i K = true) (hc : PySem.W.copiedNames.contains f = false) : ∃ u, Con K (He.ga K x) f (.int i) u := by
  unfold conIB at h
  split at h
  · rename_i j t e
    obtain ⟨h1, h2⟩ := He.ba h
    have ej : j = i := of_decide_eq_true h1
    subst ej
    exact ⟨_, e, ⟨t, rfl⟩, He.eqO_ok h2, hc⟩
  · cases h
def dCon (K : PySem.W.Frag) (f : Str) (Q : VK) : VK := fun x H1 => ∃ a C dx fs v u, x = .ref a ∧ H1 a = some (.ins C dx fs) ∧ Cls K C ∧ Con K C f v u ∧ fs.lookup f = none ∧ Q v H1
section
variable {K : PySem.W.Frag} {σ : L2.St} {H H' : Hp} {Q : VK} {v x y : V} {a b C dx dy : Addr} {fs gs : List (Str × V)} {f : Str} {i j : Int} {sp : Sp} {D : Ends} {ts : TA}
theorem w_con {ta : TE} (h : ta σ H (dCon K f Q)) : tCon K ta f σ H Q := h
theorem w_dCon (h : At H a (.ins C dx fs)) (cl : Cls K C) (k : ∃ u, Con K C f v u) (hl : fs.lookup f = none) (q : Q v H) : dCon K f Q (.ref a) H := by
  obtain ⟨u, k⟩ := k
  exact ⟨a, C, dx, fs, v, u, rfl, h, cl, k, hl, q⟩
theorem w_put {R : Hp → Prop} (h : At H a (.ins C dx fs)) (cl : Cls K C) (na : NoAttr K C f) (hl : fs.length < 1000) (q : ∀ H2, At H2 a (.ins C dx (putF f y fs)) → (∀ H0, Ex H0 H → Fr H0 a → Ex H0 H2) → (∀ b o, b ≠ a → At H b o → At H2 b o) → R H2) : dSF K f y R (.ref a) H :=
  ⟨a, C, dx, fs, rfl, h, cl, na, hl, q _ upd_same (fun H0 e n => Ex.mut e n) (fun b o hb e => by unfold At; rw [upd_ne hb]; exact e)⟩
theorem w_sup {E : L2.St → XK} {t : TA} (h0 : σ[0]? = some (some (.ref a))) (ha : At H a (.ins C dx fs)) (q : t σ H fun vs H2 => sp (.ref a :: vs) H2 Q (E σ)) : tSup C sp E t σ H Q := ⟨a, dx, fs, h0, ha, q⟩
/-- an object of fs, by its class -/
theorem At.fd {fs gs : List (Str × V)} (h : At H a (.ins C dx fs)) (e : fs = gs) : At H a (.ins C dx gs) := e ▸ h
end
theorem putF_len {f : Str} {y : V} : ∀ {fs : List (Str × V)}, (putF f y fs).length ≤ fs.length + 1
  | [] => Nat.le_refl _
  | (g, z) :: r => by
    unfold putF
    split
    · simp
    · simpa using putF_len (fs := r)
theorem putF_end {f : Str} {y : V} : ∀ {fs : List (Str × V)}, (fs.map Prod.fst).contains f = false → putF f y fs = fs ++ [(f, y)]
  | [], _ => rfl
  | (g, z) :: r, h => by
    rw [List.map_cons, List.contains_cons, Bool.or_eq_false_iff] at h
    have h1 : ¬ g = f := fun e => by
      have := h.1
      rw [e] at this
      simp at this
    unfold putF
    rw [if_neg h1, putF_end h.2]
    rfl
/-- a new field behind the others -/
theorem w_putE {K : PySem.W.Frag} {H : Hp} {a C dx : Addr} {f : Str} {y : V} {fs : List (Str × V)} {R : Hp → Prop} (h : At H a (.ins C dx fs)) (cl : Cls K C) (na : NoAttr K C f) (hl : fs.length < 900) (hn : (fs.map Prod.fst).contains f = false) (q : ∀ H2, At H2 a (.ins C dx (fs ++ [(f, y)])) → (∀ H0, Ex H0 H → Fr H0 a → Ex H0 H2) → (∀ b o, b ≠ a → At H b o → At H2 b o) → R H2) : dSF K f y R (.ref a) H :=
  w_put h cl na (by omega) fun H2 h2 => q H2 (by rw [putF_end hn] at h2; exact h2)
/-- isinstance of an instance with the class y, of the class x -/
theorem w_isiOA {K : PySem.W.Frag} {H : Hp} {Q : VK} {a C D dx : Addr} {fs : List (Str × V)} {b : Bool} (O : OwnC K C) (ha : At H a (.ins C dx fs)) (h : PySem.W.kitOne K (.ref C) (.ref D) = some b) (q : Q (.bl b) H) : rIsi K [.ref a, .ref D] H Q := ⟨_, _, .ref C, .ref D, b, rfl, .own D, .base (.ins ha O.cl O.ca O.cn O.ct O.cm), h, q⟩
end Z
namespace Z
open PySem L2 PySem.Spec PyProof.Rows
/-! ### try with several except clauses that give the error a name -/
abbrev TSx := Addr → Value → Option Addr → TS
/-- what clauses wish, one behind the other -/
def wCl (K : PySem.W.Frag) (W0 : WX) (D : Ends) : List (Value × Option Nat × TSx) → WX
  | [] => W0
  | (c, some i, ts) :: r => wAs K c i ts (wCl K W0 D r) D
  | (c, none, ts) :: r => wOnly K c ts (wCl K W0 D r) D
inductive Clauses (X : Cx) : List ExceptHandler → List (Value × Option Nat × TSx) → Prop
  | nil : Clauses X [] []
  | as {x n : Str} {c : Value} {i : Nat} {ts : TSx} {b0 : Stmt} {su : List Stmt} {p1 p2 : Pos} {hs : List ExceptHandler} {l : List (Value × Option Nat × TSx)} (hc : Names X x c) (hi : X.N[i]? = some n) (hn : X.env.kindOf n = some .local)
      (hp : ∀ (a : Addr) (ob : Obj) (cls : Value) (d : Option Addr) (pl : List (Addr × Obj)), Zc cls d ob → (∃ fv, ob.data = .fields fv) → PSs (X.suite a ((a, ob) :: pl)) (b0 :: su) (ts a cls d)) (r : Clauses X hs l) : Clauses X (.ExceptHandler (some (.Name x p1)) (some n) (b0 :: su) p2 :: hs) ((c, some i, ts) :: l)
  | no {x : Str} {c : Value} {ts : TSx} {b0 : Stmt} {su : List Stmt} {p1 p2 : Pos} {hs : List ExceptHandler} {l : List (Value × Option Nat × TSx)} (hc : Names X x c)
      (hp : ∀ (a : Addr) (ob : Obj) (cls : Value) (d : Option Addr) (pl : List (Addr × Obj)), Zc cls d ob → (∃ fv, ob.data = .fields fv) → PSs (X.suite a ((a, ob) :: pl)) (b0 :: su) (ts a cls d)) (r : Clauses X hs l) : Clauses X (.ExceptHandler (some (.Name x p1)) none (b0 :: su) p2 :: hs) ((c, none, ts) :: l)
section
variable {X : Cx} {body : List Stmt} {e0 : ExceptHandler} {er : List ExceptHandler} {l : List (Value × Option Nat × TSx)} {pos : Pos} {tb : WX → TS} {W0 : WX}
def tTryM (K : PySem.W.Frag) (l : List (Value × Option Nat × TSx)) (tb : WX → TS) (W0 : WX) : TS := fun D σ H => tb (wCl K W0 D l) D σ H
theorem ps_tryM (hst : X.stack = X.env :: X.outer) (hfm : X.env.frame = some X.env.locals) (nd : X.N.Nodup) (tk : Takes X W0)
    (pb : ∀ (W : WX) (pl : List (Addr × Obj)) (xe : Value → Shared → Prop), Takes (X.tr pl xe) W → PassesOwn (model X.prog X.w) X.A X.env xe → PSs (X.tr pl xe) body (tb W))
    (cs : Clauses X (e0 :: er) l) : PS X (.Try body (e0 :: er) [] [] pos) (tTryM X.K l tb W0) := by
  refine ⟨fun pins st σ G D I hg => ?_⟩
  have okX := I.ok
  have hfrs : X.A.frames = some (X.env :: X.outer) := by rw [okX.frames, hst]
  refine wpAny_Try_except (wpAny_mono ((pb (wCl X.K W0 D l) (X.pn ++ pins) (fun er1 z1 => wpAny (model X.prog X.w) X.A (noteFrame er1 X.env) (fun _ z2 => wpAny (model X.prog X.w) X.A (setFlight er1 none) (fun _ z3 => wpAny (model X.prog X.w) X.A (handleBy er1 X.env (e0 :: er)) (SP X pins D) X.xe z3) X.xe z2) X.xe z1) (fun u st' xx => ?_) PassesOwn.looking).run [] st σ G D (I.toTry _) hg) (fun fl st1 hsp => ?_) fun _ _ z => z)
  · obtain ⟨a, B, sJ, pins', σ', G', cls, d, rfl, J', nob, upJ, skyJ, nfree, osJ, agJ, wish⟩ := xx
    have J : Inv X pins σ' G' sJ := J'.ofTry okX
    have sky1 : Sky B (X.env :: X.outer) a (Zc cls d) X.env.locals st'.heap := by rw [← hst]; exact skyJ
    show wpAny (model X.prog X.w) X.A (noteFrame (.ref a) X.env) _ _ _
    refine Sky.land Zc.steady hfrs hfm sky1 fun hp3 fly3 upp3 => ?_
    have J3 : Inv X pins σ' G' { st' with heap := hp3 } := J.landed nob fly3.1 (upJ.trans upp3) osJ agJ
    obtain ⟨ob3, fv3, get3, zc3, dat3⟩ := fly3.there
    have notF : a ∉ frs (X.env :: X.outer) := fun hm => by
      obtain ⟨_, o2, g2, hnf⟩ := fly3.2.2.1.mem hm
      rw [get3] at g2
      cases g2
      exact hnf _ dat3
    have neL : a ≠ X.env.locals := fun z => notF (List.mem_filterMap.mpr ⟨X.env, List.mem_cons_self, by rw [hfm, z]⟩)
    have neF : a ∉ X.fs := fun hm => by
      obtain ⟨en, hen, q⟩ := List.mem_filterMap.mp hm
      exact notF (List.mem_filterMap.mpr ⟨en, List.mem_cons_of_mem _ hen, q⟩)
    have SU := J3.suite get3 dat3 nfree neL neF
    have LT : PySem.W.Looks (model X.prog X.w) hp3 (typeOf (.ref a)) cls := fun A Q E z k q => wpAny_typeOf_ref (k _ _ get3) (by rw [zc3.1]; exact q)
    have each : ∀ {hs2 : List ExceptHandler} {l2 : List (Value × Option Nat × TSx)}, Clauses X hs2 l2 → wCl X.K W0 D l2 cls d σ' G' → wpAny (model X.prog X.w) X.A (handleBy (.ref a) X.env hs2) (SP X pins D) X.xe { st' with heap := hp3 } := by
      intro hs2 l2 hcs
      induction hcs with
      | nil =>
        intro wsh
        refine wpAny_handleBy_nil ?_
        obtain ⟨_, _, _, ob, fv, tbk, _, _, g1, _, dd, i1, _⟩ := id fly3
        unfold PySem.passOn
        refine wpAny_bind (wpAny_field g1 dd i1 ?_)
        rw [if_neg (show ¬ ((Value.ref tbk == Value.none) = true) by simp)]
        have out : wpAny (model X.prog X.w) X.A (setFlight (.ref a) X.env.frame) (fun _ z4 => wpAny (model X.prog X.w) X.A (throw (.ref a) : Sem Flow) (SP X pins D) X.xe z4) X.xe { st' with heap := hp3 } := by
          rw [hfm]
          exact HandSPX.setFlight_upZ fly3 fun hp4 fly4 upp4 => wpAny_throw (tk _ _ ⟨a, B, sJ, pins, σ', G', cls, d, rfl, J, nob, (upJ.trans upp3).trans upp4, .inr (.inr (by rw [hst]; exact fly4)), nfree, osJ, agJ, wsh⟩)
        first
          | exact wpAny_bind (wpAny_pure (wpAny_bind out))
          | exact wpAny_bind out
      | @as x n c i ts b0 su p1 p2 hs3 l3 hc hi hn hp r ih =>
        rintro ⟨b, hb1, yes, no⟩
        refine wpAny_handleBy_cons (codeAny_handlers_test ?_) (fun q => by cases q)
        have look : ∀ {Q : Value → Shared → Prop} {E : Value → Shared → Prop}, Q c { st' with heap := hp3 } → wpAny (model X.prog X.w) (X.A.mark (some (.ref a))) (eval (.Name x p1) X.env) Q E { st' with heap := hp3 } := fun {Q E} q => by
          obtain ⟨gx, dx, mx | ⟨mx, vx, nx⟩⟩ := hc
          · exact ld_glob (X := X.suite a ((a, ob3) :: (X.pn ++ pins))) SU gx mx q dx
          · exact ld_blt (X := X.suite a ((a, ob3) :: (X.pn ++ pins))) SU gx mx vx q nx dx
        refine look ((PySem.W.exm_one (M := model X.prog X.w) J3.kIn LT hb1).here ?_)
        cases b with
        | false =>
          show wpAny _ X.A (handleBy (.ref a) X.env hs3) _ _ _
          exact ih (no rfl)
        | true =>
          refine codeAny_handlers_suite_as (HandSPX.lands_againZ fly3 fun hp4 fly4 upp4 => ?_)
          have J4 : Inv X pins σ' G' { st' with heap := hp4 } := J.landed nob fly4.1 ((upJ.trans upp3).trans upp4) osJ agJ
          obtain ⟨ob4, fv4, get4, zc4, dat4⟩ := fly4.there
          refine store_ok (X := X.suite a ((a, ob4) :: (X.pn ++ pins))) (v := .ref a) (J4.suite get4 dat4 nfree neL neF) nd hi (.inl hn) rfl (fun st5 S5 => ?_) (.inr hn)
          refine wpAny_mono ((hp a ob4 cls d (X.pn ++ pins) zc4 ⟨_, dat4⟩).run [] st5 _ G' _ S5 (yes rfl a nfree)) (fun fl st6 hsp => ?_) (fun _ _ z => False.elim z)
          have bye : ∀ {σ6 : L2.St} {G6 : Hp} {Q : Shared → Prop}, Inv (X.suite a ((a, ob4) :: (X.pn ++ pins))) [] σ6 G6 st6 → (∀ z7, Inv X pins (σ6.set i none) G6 z7 → Q z7) →
              wpAny (model X.prog X.w) X.A (do bindName X.env n .none; unbindBehindTheSuite X.env n p2) (fun _ z7 => Q z7) X.xe st6 := fun {σ6 G6 Q} S6 hq => gone_ok (S6.unsuite okX) nd hi hn hq
          cases fl with
          | next => obtain ⟨_, _, S6, q6⟩ := hsp; exact bye S6 fun _ J7 => ⟨_, _, J7, q6⟩
          | brk => obtain ⟨_, _, S6, q6⟩ := hsp; exact bye S6 fun _ J7 => ⟨_, _, J7, q6⟩
          | cont => obtain ⟨_, _, S6, q6⟩ := hsp; exact bye S6 fun _ J7 => ⟨_, _, J7, q6⟩
          | ret u => obtain ⟨_, _, _, S6, r6, q6⟩ := hsp; exact bye S6 fun _ J7 => ⟨_, _, _, J7, r6, q6⟩
      | @no x c ts b0 su p1 p2 hs3 l3 hc hp r ih =>
        rintro ⟨b, hb1, yes, no⟩
        refine wpAny_handleBy_cons (codeAny_handlers_test ?_) (fun q => by cases q)
        have look : ∀ {Q : Value → Shared → Prop} {E : Value → Shared → Prop}, Q c { st' with heap := hp3 } → wpAny (model X.prog X.w) (X.A.mark (some (.ref a))) (eval (.Name x p1) X.env) Q E { st' with heap := hp3 } := fun {Q E} q => by
          obtain ⟨gx, dx, mx | ⟨mx, vx, nx⟩⟩ := hc
          · exact ld_glob (X := X.suite a ((a, ob3) :: (X.pn ++ pins))) SU gx mx q dx
          · exact ld_blt (X := X.suite a ((a, ob3) :: (X.pn ++ pins))) SU gx mx vx q nx dx
        refine look ((PySem.W.exm_one (M := model X.prog X.w) J3.kIn LT hb1).here ?_)
        cases b with
        | false =>
          show wpAny _ X.A (handleBy (.ref a) X.env hs3) _ _ _
          exact ih (no rfl)
        | true =>
          refine codeAny_handlers_suite (HandSPX.lands_againZ fly3 fun hp4 fly4 upp4 => ?_)
          have J4 : Inv X pins σ' G' { st' with heap := hp4 } := J.landed nob fly4.1 ((upJ.trans upp3).trans upp4) osJ agJ
          obtain ⟨ob4, fv4, get4, zc4, dat4⟩ := fly4.there
          refine wpAny_mono ((hp a ob4 cls d (X.pn ++ pins) zc4 ⟨_, dat4⟩).run [] _ _ G' _ (J4.suite get4 dat4 nfree neL neF) (yes rfl a nfree)) (fun fl st6 hsp => ?_) (fun _ _ z => False.elim z)
          cases fl with
          | next => obtain ⟨_, _, S6, q6⟩ := hsp; exact ⟨_, _, S6.unsuite okX, q6⟩
          | brk => obtain ⟨_, _, S6, q6⟩ := hsp; exact ⟨_, _, S6.unsuite okX, q6⟩
          | cont => obtain ⟨_, _, S6, q6⟩ := hsp; exact ⟨_, _, S6.unsuite okX, q6⟩
          | ret u => obtain ⟨_, _, _, S6, r6, q6⟩ := hsp; exact ⟨_, _, _, S6.unsuite okX, r6, q6⟩
    exact each cs wish
  · cases fl with
    | next => obtain ⟨_, _, J', q⟩ := hsp; exact wpAny_execs_nil ⟨_, _, J'.ofTry okX, q⟩
    | brk => obtain ⟨_, _, J', q⟩ := hsp; exact ⟨_, _, J'.ofTry okX, q⟩
    | cont => obtain ⟨_, _, J', q⟩ := hsp; exact ⟨_, _, J'.ofTry okX, q⟩
    | ret u => obtain ⟨_, _, _, J', r, q⟩ := hsp; exact ⟨_, _, _, J'.ofTry okX, r, q⟩
end
section
variable {K : PySem.W.Frag} {σ : L2.St} {H : Hp} {D : Ends} {tb : WX → TS} {W0 : WX} {c cls : Value} {d : Option Addr} {i : Nat} {ts : TSx} {l : List (Value × Option Nat × TSx)}
theorem w_tryM (h : tb (wCl K W0 D l) D σ H) : tTryM K l tb W0 D σ H := h
theorem w_cl (h : PySem.W.exmOne K cls c = some true) (q : ∀ a, Fr H a → ts a cls d (endAs D i) (σ.set i (some (.ref a))) H) : WE (wCl K W0 D ((c, some i, ts) :: l)) σ cls d H := w_as h q
theorem w_clN (h : PySem.W.exmOne K cls c = some false) (q : WE (wCl K W0 D l) σ cls d H) : WE (wCl K W0 D ((c, some i, ts) :: l)) σ cls d H := w_asN h q
theorem w_clO (h : PySem.W.exmOne K cls c = some true) (q : ∀ a, Fr H a → ts a cls d D σ H) : WE (wCl K W0 D ((c, none, ts) :: l)) σ cls d H := w_only h q
theorem w_clON (h : PySem.W.exmOne K cls c = some false) (q : WE (wCl K W0 D l) σ cls d H) : WE (wCl K W0 D ((c, none, ts) :: l)) σ cls d H := w_onlyN h q
theorem w_cl0 (q : W0 cls d σ H) : WE (wCl K W0 D []) σ cls d H := q
end
/-! ### ways that join: only slot i has changed -/
theorem w_cutI {t u : TS} {D : Ends} {σ : L2.St} {H : Hp} (i : Nat) (P : Int → Prop) (h : t ⟨fun σ' G => G = H ∧ ∃ w : Int, P w ∧ σ' = σ.set i (some (.int w)), D.rt, D.bk, D.ct⟩ σ H) (k : ∀ w, P w → u D (σ.set i (some (.int w))) H) : C8.tCut t u D σ H :=
  w_cut _ h fun σ' G ⟨e1, w, hw, e2⟩ => by subst e1 e2; exact k w hw
theorem w_cutV {t u : TS} {D : Ends} {σ : L2.St} {H : Hp} (i : Nat) (P : V → Hp → Prop) (h : t ⟨fun σ' G => Ex H G ∧ ∃ w, P w G ∧ σ' = σ.set i (some w), D.rt, D.bk, D.ct⟩ σ H) (k : ∀ w G, Ex H G → P w G → u D (σ.set i (some w)) G) : C8.tCut t u D σ H :=
  w_cut _ h fun σ' G ⟨e1, w, hw, e2⟩ => by subst e2; exact k w G e1 hw
/-! ### xs[i] = v -/
theorem w_gSub {to ti : TE} {t : TSet} {v : V} {σ : L2.St} {H : Hp} {Q : L2.St → Hp → Prop} (h : to σ H fun o H1 => ti σ H1 fun i H2 => t o i v H2 fun H3 => Q σ H3) : gSub to ti t v σ H Q := h
theorem ixN_pos {n : Nat} {i : Int} (h0 : 0 ≤ i) (h1 : i < n) : ixN n i = some i.toNat := by unfold ixN; rw [if_pos h0, if_pos h1]
theorem map_set {α β : Type} (f : α → β) (l : List α) (i : Nat) (a : α) : (l.map f).set i (f a) = (l.set i a).map f := by
  apply List.ext_getElem
  · simp
  · intro j h1 h2
    simp only [List.getElem_map, List.getElem_set]
    split <;> rfl
theorem w_setI {H : Hp} {a : Addr} {i v : Int} {ns : List Int} {R : Hp → Prop} (h : At H a (.lst (ns.map V.int))) (h0 : 0 ≤ i) (h1 : i < ns.length) (q : ∀ H2, At H2 a (.lst ((ns.set i.toNat v).map V.int)) → Nl H H2 → (∀ H0, Ex H0 H → Fr H0 a → Ex H0 H2) → (∀ b o, b ≠ a → At H b o → At H2 b o) → R H2) : rSetL (.ref a) (.int i) (.int v) H R :=
  w_setL h (ixN_pos h0 (by rw [List.length_map]; exact h1)) fun H2 h2 => q H2 (by rw [map_set] at h2; exact h2)
/-- .. of values -/
theorem w_setV {H : Hp} {a : Addr} {i : Int} {v : V} {xs : List V} {R : Hp → Prop} (h : At H a (.lst xs)) (h0 : 0 ≤ i) (h1 : i < xs.length) (q : ∀ H2, At H2 a (.lst (xs.set i.toNat v)) → Nl H H2 → (∀ H0, Ex H0 H → Fr H0 a → Ex H0 H2) → (∀ b o, b ≠ a → At H b o → At H2 b o) → R H2) : rSetL (.ref a) (.int i) v H R :=
  w_setL h (ixN_pos h0 h1) q
/-! ### a number with itself -/
section
variable {K : PySem.W.Frag} {H : Hp} {Q : VK} {i : Int} {t : Str}
theorem w_eqIr (q : Q (.bl true) H) : rEqZ K (.int i) (.int i) H Q := w_eqZI (by rw [decide_eq_true rfl]; exact q)
theorem w_neIr (q : Q (.bl false) H) : rNeZ K (.int i) (.int i) H Q := w_neZI (by rw [decide_eq_true rfl]; exact q)
theorem w_eqSr (q : Q (.bl true) H) : rEqZ K (.str t) (.str t) H Q := w_eqZS (by rw [decide_eq_true rfl]; exact q)
theorem w_neSr (q : Q (.bl false) H) : rNeZ K (.str t) (.str t) H Q := w_neZS (by rw [decide_eq_true rfl]; exact q)
end
/-! ### isinstance, the object first -/
section
variable {K : PySem.W.Frag} {H : Hp} {Q : VK} {a C D dx : Addr} {fs : List (Str × V)} {b : Bool}
theorem w_isiOC2 (ha : At H a (.ins C dx fs)) (O : OwnC K C) (q : Q (.bl true) H) : rIsi K [.ref a, .ref C] H Q := w_isiOC O ha q
theorem w_isiOI2 (ha : At H a (.ins C dx fs)) (O : OwnC K C) (q : Q (.bl false) H) : rIsi K [.ref a, .ty "int"] H Q := w_isiOI O ha q
theorem w_isiOA2 (ha : At H a (.ins C dx fs)) (O : OwnC K C) (h : PySem.W.kitOne K (.ref C) (.ref D) = some b) (q : Q (.bl b) H) : rIsi K [.ref a, .ref D] H Q := w_isiOA O ha h q
end
/-! ### is None -/
def dIsN (Q : VK) : VK := fun x H1 => Q (.bl (decide (x = .non))) H1
def dNotN (Q : VK) : VK := fun x H1 => Q (.bl (!decide (x = .non))) H1
section
variable {σ : L2.St} {H : Hp} {Q : VK} {ta : TE} {i : Int} {t : Str} {a : Addr} {b : Bool}
theorem w_isN2 (h : ta σ H (dIsN Q)) : tIsN ta σ H Q := h
theorem w_notN2 (h : ta σ H (dNotN Q)) : tNotN ta σ H Q := h
theorem isN_n (q : Q (.bl true) H) : dIsN Q .non H := q
theorem isN_i (q : Q (.bl false) H) : dIsN Q (.int i) H := q
theorem isN_s (q : Q (.bl false) H) : dIsN Q (.str t) H := q
theorem isN_r (q : Q (.bl false) H) : dIsN Q (.ref a) H := q
theorem isN_b (q : Q (.bl false) H) : dIsN Q (.bl b) H := q
theorem notN_n (q : Q (.bl false) H) : dNotN Q .non H := q
theorem notN_i (q : Q (.bl true) H) : dNotN Q (.int i) H := q
theorem notN_s (q : Q (.bl true) H) : dNotN Q (.str t) H := q
theorem notN_r (q : Q (.bl true) H) : dNotN Q (.ref a) H := q
theorem notN_b (q : Q (.bl true) H) : dNotN Q (.bl b) H := q
end
end Z
namespace Z
open PySem L2 PySem.Spec PyProof.Rows HT
/-! ### t[::-1] of a tuple -/
theorem pick_back (xs : Array Value) : ((List.range xs.size).filterMap fun (m : Nat) => xs[(((xs.size : Int) - 1) + (m : Int) * (-1)).toNat]?).toArray = xs.toList.reverse.toArray := by
  congr 1
  have e : ∀ m, m < xs.size → xs[(((xs.size : Int) - 1) + (m : Int) * (-1)).toNat]? = xs.toList.reverse[m]? := fun m hm => by
    rw [List.getElem?_reverse (by rw [Array.length_toList]; exact hm), Array.length_toList, show (((xs.size : Int) - 1) + (m : Int) * (-1)).toNat = xs.size - 1 - m by omega]
    simp
  have e2 : (List.range xs.size).filterMap (fun (m : Nat) => xs[(((xs.size : Int) - 1) + (m : Int) * (-1)).toNat]?) = (List.range xs.size).filterMap fun m => xs.toList.reverse[m]? := by
    have gen : ∀ l : List Nat, (∀ m ∈ l, m < xs.size) → l.filterMap (fun (m : Nat) => xs[(((xs.size : Int) - 1) + (m : Int) * (-1)).toNat]?) = l.filterMap fun m => xs.toList.reverse[m]? := fun l hl => by
      induction l with
      | nil => rfl
      | cons a r ih =>
        rw [List.filterMap_cons, List.filterMap_cons, e a (hl a (by simp)), ih fun m hm => hl m (by simp [hm])]
    exact gen _ fun m hm => List.mem_range.mp hm
  rw [e2]
  have all : ∀ l : List Value, (List.range l.length).filterMap (fun m => l[m]?) = l := fun l => by
    induction l with
    | nil => rfl
    | cons a r ih =>
      rw [List.length_cons, List.range_succ_eq_map, List.filterMap_cons]
      simp only [List.getElem?_cons_zero, List.filterMap_map]
      congr 1
  have := all xs.toList.reverse
  rwa [List.length_reverse, Array.length_toList] at this
section
variable {prog : Program} {w : World} {A : Around} {E : Value → Shared → Prop} {s : Shared}
theorem tuple_back {t sl : Addr} {its : Array Value} {vl vu vs : Value} {Q : Value → Shared → Prop} (ht : IsTup s.heap t its) (hs : s.heap.IsSliceOf sl vl vu vs) (pl : IsPart vl none) (pu : IsPart vu none) (ps : IsPart vs (some (-1)))
    (h : Q (.ref s.heap.objs.size) { s with heap := s.heap.push { cls := .type "tuple", data := .seq its.toList.reverse.toArray } }) (hz : its.size ≤ sizeLine) : wpAny (model prog w) A (getItem (.ref t) (.ref sl)) Q E s := by
  obtain ⟨ob, hob, hcl, hda⟩ := id hs
  have hT : s.TypeIs (.ref sl) "slice" := ⟨ob, hob, hcl⟩
  have fits : sizeOk (.seq its.toList.reverse.toArray) := by
    show its.toList.reverse.toArray.size ≤ sizeLine
    rw [List.size_toArray, List.length_reverse, Array.length_toList]
    exact hz
  unfold getItem
  try with_reducible refine wpAny_holding ?_
  first | refine wpAny_bind (wpAny_pure ?_) | skip
  refine wpAny_bind (wpAny_sequenceKey ht.typeIs (by decide) ?_)
  refine wpAny_bind (wpAny_callSpecial?_slot (name := Str.ofString "__getitem__") ht.typeIs PyProof.Rows.slot_tuple_getitem (wpAny_call_entry PyProof.Rows.slot_tuple_getitem ht.typeIs entry_tuple_getitem ?_ (args_tuple_getitem _ _)))
  show wpAny _ _ (Builtin.Tuple.tupleItemsOf (.ref t) >>= _) _ _ s
  refine wpAny_bind (tupleItemsOf_ ht (wpAny_bind (wpAny_typeOf hT ?_)))
  rw [if_pos (by decide)]
  have ap : ∀ {Q' : Int × Int × Nat → Shared → Prop} {A' : Around} {E' : Value → Shared → Prop}, Q' ((its.size : Int) - 1, -1, its.size) s → wpAny (model prog w) A' (Builtin.Slice.sliceApplied (.ref sl) (pure (its.size : Int))) Q' E' s := by
    intro Q' A' E' q
    unfold Builtin.Slice.sliceApplied Builtin.Slice.sliceFields
    refine wpAny_bind (wpAny_bind (wpAny_field hob hda (x := vl) rfl (wpAny_bind (wpAny_field hob hda (x := vu) rfl (wpAny_bind (wpAny_field hob hda (x := vs) rfl (wpAny_pure ?_)))))))
    refine wpAny_bind (slicePart_ ps ?_)
    show wpAny _ _ (if ((-1 : Int) == 0) = true then _ else _) _ _ s
    rw [if_neg (by decide)]
    refine wpAny_bind (slicePart_ pl (wpAny_bind (slicePart_ pu (wpAny_bind (wpAny_pure ?_)))))
    show wpAny _ _ (pure ((its.size : Int) - 1, (-1 : Int), Builtin.Slice.slicePlaces ((its.size : Int) - 1) (-1) (-1))) _ _ s
    have e : Builtin.Slice.slicePlaces ((its.size : Int) - 1) (-1) (-1) = its.size := by
      unfold Builtin.Slice.slicePlaces
      rw [if_neg (by decide)]
      by_cases h0 : its.size = 0
      · rw [h0]; decide
      · rw [if_pos (by omega), show (-(-1) : Int) = 1 from rfl, Int.ediv_one]; omega
    rw [e]
    exact wpAny_pure q
  refine wpAny_bind (ap ?_)
  have hno : ¬ ((((its.size : Int) - 1) == 0 && (-1 : Int) == 1 && its.size == its.size) = true) := fun q => by
    rw [Bool.and_eq_true, Bool.and_eq_true] at q
    exact absurd q.1.2 (by decide)
  show wpAny _ _ (if (((its.size : Int) - 1) == 0 && (-1 : Int) == 1 && its.size == its.size) = true then _ else _) _ _ s
  rw [if_neg hno, pick_back]
  first
    | exact wpAny_bind (m := Builtin.Tuple.tupleExact _) (wpAny_newObj_type (wpAny_pure ⟨_, rfl, wpAny_pure h⟩) fits)
    | exact wpAny_bind (wpAny_bind (m := Builtin.Tuple.tupleExact _) (wpAny_newObj_type (wpAny_pure (wpAny_pure ⟨_, rfl, wpAny_pure h⟩)) fits))
    | exact wpAny_bind (wpAny_bind (m := Builtin.Tuple.tupleExact _) (wpAny_newObj_type (wpAny_pure ⟨_, rfl, wpAny_pure h⟩) fits))
end
section
variable {X : Cx}
def tRevT (K : PySem.W.Frag) (te : TE) : TE := fun σ H Q => te σ H fun x H1 => ∃ a xs, x = .ref a ∧ SqT K H1 a xs ∧ ∀ p, Fr H1 p → Q (.ref p) (upd H1 p (.tup xs.reverse))
theorem pe_revT {K : PySem.W.Frag} (hK : X.K = K) {e : Expr} {te : TE} {k : Nat} {p1 p2 p3 pos : Pos} (he : PE X e te) : PE X (.Subscript e (.Slice none none (some (.UnaryOp .USub (.Constant (.int 1) k p1) p2)) p3) pos) (tRevT K te) := by
  subst hK
  refine ⟨fun pins s σ G Q I h => Subscript_ (thn (he.run pins s σ G _ I h) fun v s1 ⟨x, G1, I1, r1, a, xs, ex, hx, q⟩ => ?_)⟩
  subst ex
  cases r1
  have hst : PO X (some (.UnaryOp .USub (.Constant (.int 1) k p1) p2)) (tPart (tUn (rU fun i => .int (-i)) (tC (.int 1)))) := po_some (pe_un L2.un_neg pe_int)
  refine wpAny_Slice (thn (po_none.run pins s1 σ G1 (fun o G2 => o = none ∧ G2 = G1) I1 ⟨rfl, rfl⟩) fun vl s2 ⟨l, G2, I2, pl, el, eg2⟩ => ?_)
  subst el eg2
  refine thn (po_none.run pins s2 σ G2 (fun o G3 => o = none ∧ G3 = G2) I2 ⟨rfl, rfl⟩) fun vu s3 ⟨u, G3, I3, pu, eu, eg3⟩ => ?_
  subst eu eg3
  refine thn (hst.run pins s3 σ G3 (fun o G4 => o = some (-1) ∧ G4 = G3) I3 ⟨1, rfl, -1, rfl, rfl, rfl⟩) fun vs s4 ⟨o, G4, I4, ps, eo, eg4⟩ => ?_
  subst eo eg4
  have I5 : Inv X pins σ G4 { s4 with heap := s4.heap.push { cls := .type "slice", data := .fields #[vl, vu, vs] } } := I4.kept (t' := s4.toks) fun b ob q => Heap.get?_push_of_some _ q
  obtain ⟨its, r, ht, hz⟩ := I5.tuple hx
  have hlen := r.length
  refine tail_any (ops := [.ref a, .ref s4.heap.objs.size]) ht.typeIs PyProof.Rows.slot_tuple_getitem.lookup ?_ (by with_unfolding_all rfl)
  refine tuple_back ht (Heap.IsSliceOf.new _ vl vu vs) pl pu ps ?_ (by rw [List.size_toArray]; omega)
  refine ⟨.ref _, _, I5.laid (t' := s4.toks) (o := .tup xs.reverse) (fun b ob q => Heap.get?_push_of_some _ q) (Nat.le_refl _) ?_, rfl, q _ (I5.hok.fresh (Nat.le_refl _))⟩
  exact ⟨by rw [List.length_reverse]; exact hz, _, r.reverse, IsTup.new _ _⟩
theorem revL {K : PySem.W.Frag} (hK : X.K = K) {e : Expr} {te : TE} {k : Nat} {p1 p2 p3 pos : Pos} (he : PE X e te) : PE X (.Subscript e (.Slice none none (some (.UnaryOp .USub (.Constant (.int 1) k p1) p2)) p3) pos) (tRevL K te) := hK ▸ pe_revL he
theorem catA {K : PySem.W.Frag} (hK : X.K = K) : OpR X (binaryOp .Add) (rCatA K) := hK ▸ op_catA
end
def dRevT (K : PySem.W.Frag) (Q : VK) : VK := fun x H1 => ∃ a xs, x = .ref a ∧ SqT K H1 a xs ∧ ∀ p, Fr H1 p → Q (.ref p) (upd H1 p (.tup xs.reverse))
def dRevL (K : PySem.W.Frag) (Q : VK) : VK := fun x H1 => ∃ a xs, x = .ref a ∧ SqL K H1 a xs ∧ ∀ p, H1 p = none → Q (.ref p) (upd H1 p (.lst xs.reverse))
section
variable {K : PySem.W.Frag} {σ : L2.St} {H : Hp} {Q : VK} {te : TE} {a b : Addr} {ns ms : List Int} {xs ys : List V}
theorem w_revT (h : te σ H (dRevT K Q)) : tRevT K te σ H Q := h
theorem w_revL (h : te σ H (dRevL K Q)) : tRevL K te σ H Q := h
theorem w_dRevT (h : SqT K H a (ns.map V.int)) (q : ∀ p H2, Fr H p → Ex H H2 → At H2 p (.tup (ns.reverse.map V.int)) → Q (.ref p) H2) : dRevT K Q (.ref a) H := ⟨a, _, rfl, h, fun p hp => q p _ hp (Ex.new hp) (by rw [List.map_reverse]; exact at_upd)⟩
theorem w_dRevL (h : SqL K H a (ns.map V.int)) (q : ∀ p H2, Fr H p → Ex H H2 → At H2 p (.lst (ns.reverse.map V.int)) → Q (.ref p) H2) : dRevL K Q (.ref a) H := ⟨a, _, rfl, h, fun p hp => q p _ hp (Ex.new hp) (by rw [List.map_reverse]; exact at_upd)⟩
/-- t + u of tuples of ints -/
theorem w_catI (h1 : SqT K H a (ns.map V.int)) (h2 : SqT K H b (ms.map V.int)) (hz : ns.length + ms.length ≤ 16777216) (q : ∀ p H2, Ex H H2 → SqT K H2 p ((ns ++ ms).map V.int) → Q (.ref p) H2) : rCatA K (.ref a) (.ref b) H Q := by
  refine ⟨a, b, _, _, rfl, rfl, h1, h2, by rw [List.length_map, List.length_map]; exact hz, fun e => ?_, fun _ e => ?_, fun _ _ p hp => q p _ (Ex.new hp) (st_of (by rw [List.map_append]; exact at_upd))⟩
  · have : ns = [] := by simpa using e
    subst this
    exact q b H (Ex.refl H) h2
  · have : ms = [] := by simpa using e
    subst this
    rw [List.append_nil] at q
    exact q a H (Ex.refl H) h1
/-- any slice of a tuple of ints is one, and no longer -/
theorem w_slAny {lo hi : Option Int} (h : SqT K H a (ns.map V.int)) (q : ∀ p H2 (ms : List Int), Ex H H2 → ms.Sublist ns → SqT K H2 p (ms.map V.int) → Q (.ref p) H2) : rSlA K (.ref a) lo hi H Q := by
  refine ⟨a, _, rfl, h, fun hw => q a H ns (Ex.refl H) (List.Sublist.refl _) h, fun hw p hp => ?_⟩
  refine q p _ ((ns.drop (HT.sIx (ns.map V.int).length 0 lo)).take (HT.sIx (ns.map V.int).length (ns.map V.int).length hi - HT.sIx (ns.map V.int).length 0 lo)) (Ex.new hp) ((List.take_sublist _ _).trans (List.drop_sublist _ _)) (st_of ?_)
  show upd H p _ p = _
  rw [upd_same]
  unfold cutV
  rw [List.map_take, List.map_drop]
end
/-- ways that join with the slots as they were -/
theorem w_cutS {t u : TS} {D : Ends} {σ : L2.St} {H : Hp} (H0 : Hp) (h : t ⟨fun σ' G => σ' = σ ∧ Ex H0 G, D.rt, D.bk, D.ct⟩ σ H) (k : ∀ G, Ex H0 G → u D σ G) : C8.tCut t u D σ H :=
  w_cut _ h fun σ' G ⟨e1, e2⟩ => by subst e1; exact k G e2
/-- tuples stand behind an append -/
theorem Nl.t {K : PySem.W.Frag} {H H' : Hp} {a : Addr} {xs : List V} (e : Nl H H') (h : SqT K H a xs) : SqT K H' a xs := by
  rcases h with (h | ⟨o, h⟩) | h
  · exact .inl (.inl (e.get (fun l z => by cases z) h))
  · exact .inl (.inr ⟨o, e.get (fun l z => by cases z) h⟩)
  · exact .inr h
theorem tEN {K : PySem.W.Frag} {H H' : Hp} {a : Addr} {xs : List V} (h : SqT K H a xs) (e : Nls H H') : SqT K H' a xs := e.nl.t h
/-- t[-1:] of a tuple of ints that is not empty -/
theorem w_slBack {K : PySem.W.Frag} {H : Hp} {Q : VK} {a : Addr} {ns : List Int} (h : SqT K H a (ns.map V.int)) (h0 : 0 < ns.length) (q : ∀ p H2, Ex H H2 → SqT K H2 p ((ns.drop (ns.length - 1)).map V.int) → Q (.ref p) H2) : rSlA K (.ref a) (some (-1)) none H Q := by
  have e : HT.sIx (ns.map V.int).length 0 (some (-1)) = ns.length - 1 := by
    rw [List.length_map]
    unfold HT.sIx
    simp
    omega
  refine ⟨a, _, rfl, h, fun hw => ?_, fun hw p hp => q p _ (Ex.new hp) (st_of ?_)⟩
  · have := hw.1
    rw [e] at this
    refine q a H (Ex.refl H) ?_
    rw [this, List.drop_zero]
    exact h
  · show upd H p _ p = _
    rw [upd_same]
    unfold cutV
    rw [e, HT.sIx_none, List.length_map, List.take_of_length_le (by rw [List.length_drop, List.length_map]; exact Nat.le_refl _), List.map_drop]
/-- xs.pop() of ints -/
theorem w_pop0 {H : Hp} {Q : VK} {a : Addr} {ns : List Int} (h : At H a (.lst (ns.map V.int))) (h0 : 0 < ns.length) (q : ∀ H2, At H2 a (.lst (ns.dropLast.map V.int)) → Nl H H2 → (∀ H0, Ex H0 H → Fr H0 a → Ex H0 H2) → (∀ b o, b ≠ a → At H b o → At H2 b o) → Q (.int (ns.getD (ns.length - 1) 0)) H2) : rPop (.ref a) [] H Q := by
  refine ⟨a, _, _, rfl, rfl, h, ?_, q _ ?_ (Nl.upd h) (fun H0 e n => Ex.mut e n) (fun b o hb e => by unfold At; rw [upd_ne hb]; exact e)⟩
  · rw [List.length_map, List.getElem?_map, List.getD_eq_getElem?_getD, List.getElem?_eq_getElem (by omega)]
    rfl
  · unfold At
    rw [upd_same, List.map_dropLast]
section
variable {K : PySem.W.Frag} {H : Hp} {Q : VK} {a b : Addr} {ns : List Int}
theorem w_eqLr (h1 : SqL K H a (ns.map V.int)) (h2 : SqL K H b (ns.map V.int)) (q : Q (.bl true) H) : rEqZ K (.ref a) (.ref b) H Q := w_eqLI h1 h2 (by rw [decide_eq_true rfl]; exact q)
theorem w_neLr (h1 : SqL K H a (ns.map V.int)) (h2 : SqL K H b (ns.map V.int)) (q : Q (.bl false) H) : rNeZ K (.ref a) (.ref b) H Q := w_neLI h1 h2 (by rw [decide_eq_true rfl]; exact q)
theorem w_eqTr (h1 : SqT K H a (ns.map V.int)) (h2 : SqT K H b (ns.map V.int)) (q : Q (.bl true) H) : rEqZ K (.ref a) (.ref b) H Q := w_eqTI h1 h2 (by rw [decide_eq_true rfl]; exact q)
theorem w_neTr (h1 : SqT K H a (ns.map V.int)) (h2 : SqT K H b (ns.map V.int)) (q : Q (.bl false) H) : rNeZ K (.ref a) (.ref b) H Q := w_neTI h1 h2 (by rw [decide_eq_true rfl]; exact q)
end
/-! ### slots as a written list -/
class SetsTo (σ : List (Option V)) (i : Nat) (v : Option V) (σ' : outParam (List (Option V))) : Prop where
  eq : σ.set i v = σ'
instance SetsTo.zero {x v : Option V} {r : List (Option V)} : SetsTo (x :: r) 0 v (v :: r) := ⟨rfl⟩
instance SetsTo.succ {x v : Option V} {r r' : List (Option V)} {i : Nat} [s : SetsTo r i v r'] : SetsTo (x :: r) (i + 1) v (x :: r') := ⟨by rw [← s.eq]; rfl⟩
theorem w_gnS {i : Nat} {v : V} {σ σ' : L2.St} {H : Hp} {R : L2.St → Hp → Prop} [s : SetsTo σ i (some v) σ'] (h : R σ' H) : gName i v σ H R := by
  have e := s.eq
  show R (σ.set i (some v)) H
  rw [e]
  exact h
end Z
namespace Z
open PySem L2 PySem.Spec PyProof.Rows
/-! ### for x in a list or a tuple -/
def SqA (K : PySem.W.Frag) (H : Hp) (a : Addr) (xs : List V) : Prop := SqL K H a xs ∨ SqT K H a xs
def dA (K : PySem.W.Frag) (R : It → Hp → Prop) : VK := fun x H1 => ∃ a, x = .ref a ∧ (((∃ xs, SqL K H1 a xs) ∧ R (Itl K a) H1) ∨ ((∃ xs, SqT K H1 a xs) ∧ R (Itt K a) H1))
def iAny (K : PySem.W.Frag) (tl : TE) : TI := fun σ H R => tl σ H (dA K R)
theorem piA {X : Cx} {K : PySem.W.Frag} (hK : X.K = K) {tg l : Expr} {tl : TE} (hl : PE X l tl) : PI X tg l (iAny K tl) := by
  subst hK
  constructor
  intro pins s σ H R I h
  refine thn (hl.run pins s σ H _ I h) ?_
  rintro v s1 ⟨x, H1, I1, r1, a, rfl, q1⟩
  cases r1
  have new : ∀ b ∈ [s1.heap.objs.size], FpOk X pins H1 b := fun b hb => by
    rw [List.mem_singleton.mp hb]
    exact I1.fpOk (Nat.le_refl _) (I1.hok.fresh (Nat.le_refl _))
  rcases q1 with ⟨⟨xs, hq⟩, q⟩ | ⟨⟨xs, hq⟩, q⟩
  · obtain ⟨its, rv, p, hz⟩ := I1.list hq
    exact wpAny_pyIter_list p.isList ⟨_, [s1.heap.objs.size], _, _, H1, rfl, I1.kept (t' := s1.toks) fun b o e => Heap.get?_push_of_some _ e, turn_list a _, ⟨_, Heap.get?_push_size _ rfl, rfl, rfl⟩, new, q⟩
  · obtain ⟨its, rv, p, hz⟩ := I1.tuple hq
    exact wpAny_pyIter_tuple (show s1.heap.IsTuple a its.toArray from p) ⟨_, [s1.heap.objs.size], _, _, H1, rfl, I1.kept (t' := s1.toks) fun b o e => Heap.get?_push_of_some _ e, turn_tuple a _, ⟨_, Heap.get?_push_size _ rfl, rfl, rfl⟩, new, q⟩
section
variable {K : PySem.W.Frag} {σ : L2.St} {H H' : Hp} {Q : VK} {te : TE} {a : Addr} {xs : List V} {R : It → Hp → Prop}
theorem w_iA (h : te σ H (dA K R)) : iAny K te σ H R := h
theorem Ex.sa (e : Ex H H') (h : SqA K H a xs) : SqA K H' a xs := h.imp e.l e.t
theorem aE (h : SqA K H a xs) (e : Exs H H') : SqA K H' a xs := e.ex.sa h
theorem i_A (h : SqA K H a xs) (k : ∀ J, Src J (fun H' => SqA K H' a xs ∧ (SqL K H a xs → SqL K H' a xs) ∧ (SqT K H a xs → SqT K H' a xs)) xs.length (fun i x _ => xs[i]? = some x) → R J H) : dA K R (.ref a) H := by
  refine ⟨a, rfl, ?_⟩
  rcases h with h | h
  · refine .inl ⟨⟨xs, h⟩, k _ ⟨fun i H' hp hi => ⟨xs, xs[i], hp.2.1 h, List.getElem?_eq_getElem hi⟩, fun H' hp => ⟨xs, hp.2.1 h, Nat.le_refl _⟩, fun i H' x H'' hp hi hy => ?_⟩⟩
    obtain ⟨e, f⟩ := hy
    exact ⟨by rw [e]; exact Ex.refl _, f xs (hp.2.1 h)⟩
  · refine .inr ⟨⟨xs, h⟩, k _ ⟨fun i H' hp hi => ⟨xs, xs[i], hp.2.2 h, List.getElem?_eq_getElem hi⟩, fun H' hp => ⟨xs, hp.2.2 h, Nat.le_refl _⟩, fun i H' x H'' hp hi hy => ?_⟩⟩
    obtain ⟨e, f⟩ := hy
    exact ⟨by rw [e]; exact Ex.refl _, f xs (hp.2.2 h)⟩
theorem aOk (h : SqA K H a xs) (e : Ex H H') : SqA K H' a xs ∧ (SqL K H a xs → SqL K H' a xs) ∧ (SqT K H a xs → SqT K H' a xs) := ⟨e.sa h, e.l, e.t⟩
end
end Z
namespace Z
open PySem L2 PySem.Spec PyProof.Rows
/-! ### == of lists and tuples of flat values -/
def flD : V → Option PyData
  | .non => some .none
  | .bl b => some (.bool b)
  | .int i => some (.int i)
  | .str x => some (.str x)
  | _ => none
def okV : V → Bool
  | .str x => PyData.strOk x
  | _ => true
def okVs : List V → Bool
  | [] => true
  | v :: r => okV v && okVs r
def fls : List V → Option (List PyData)
  | [] => some []
  | v :: r => match flD v, fls r with
    | some d, some ds => some (d :: ds)
    | _, _ => none
theorem fls_cons {v : V} {r : List V} {es : List PyData} (h : fls (v :: r) = some es) : ∃ d ds, flD v = some d ∧ fls r = some ds ∧ es = d :: ds := by
  unfold fls at h
  split at h
  · rename_i d ds h1 h2
    exact ⟨d, ds, h1, h2, (Option.some.inj h).symm⟩
  · cases h
theorem flD_dp {K : PySem.W.Frag} {H : Hp} {v : V} {d : PyData} (h : flD v = some d) : Dp K H v d := by
  cases v <;> simp only [flD, reduceCtorEq, Option.some.injEq] at h <;> subst h <;> constructor
theorem fls_dp {K : PySem.W.Frag} {H : Hp} : ∀ {xs : List V} {ds : List PyData}, fls xs = some ds → DpAll K H xs ds
  | [], ds, h => by cases h; exact .nil
  | v :: r, es, h => by
    obtain ⟨d, ds, h1, h2, rfl⟩ := fls_cons h
    exact .cons (flD_dp h1) (fls_dp h2)
theorem flD_can {v : V} {d : PyData} (h : flD v = some d) (o : okV v = true) : d.canLay0 = true ∧ d.depth = 0 ∧ PyData.eqv d d = true := by
  cases v <;> simp only [flD, reduceCtorEq, Option.some.injEq] at h <;> subst h <;> first | (simp [PyData.canLay0, PyData.depth, PyData.eqv]; done) | (simp only [okV] at o; simp [PyData.canLay0, PyData.depth, PyData.eqv, o])
theorem fls_can : ∀ {xs : List V} {ds : List PyData}, fls xs = some ds → okVs xs = true → PyData.canLayAll0 ds = true ∧ PyData.depthAll ds = 0 ∧ PyData.eqvAll ds ds = true
  | [], ds, h, _ => by cases h; simp [PyData.canLayAll0, PyData.depthAll, PyData.eqvAll]
  | v :: r, es, h, o => by
    obtain ⟨d, ds, h1, h2, rfl⟩ := fls_cons h
    obtain ⟨o1, o2⟩ := Bool.and_eq_true_iff.mp (show (okV v && okVs r) = true from o)
    obtain ⟨a1, a2, a3⟩ := flD_can h1 o1
    obtain ⟨b1, b2, b3⟩ := fls_can h2 o2
    simp [PyData.canLayAll0, PyData.depthAll, PyData.eqvAll, a1, a2, a3, b1, b2, b3]
theorem fls_shL {xs : List V} {ds : List PyData} (h : fls xs = some ds) (o : okVs xs = true) : SeqAt.shaped (.list ds) = true := by
  obtain ⟨b1, b2, b3⟩ := fls_can h o
  simp [SeqAt.shaped, PyData.canLay0, PyData.depth, b1, b2]
theorem fls_shT {xs : List V} {ds : List PyData} (h : fls xs = some ds) (o : okVs xs = true) : SeqAt.shaped (.tuple ds) = true := by
  obtain ⟨b1, b2, b3⟩ := fls_can h o
  simp [SeqAt.shaped, PyData.canLay0, PyData.depth, b1, b2]
section
variable {K : PySem.W.Frag} {H : Hp} {Q : VK} {a b : Addr} {xs ys : List V} {ds es : List PyData}
theorem w_eqLF (h1 : SqL K H a xs) (h2 : SqL K H b ys) (e1 : fls xs = some ds) (e2 : fls ys = some es) (o1 : okVs xs = true) (o2 : okVs ys = true) (q : Q (.bl (PyData.eqvAll ds es)) H) : rEqZ K (.ref a) (.ref b) H Q := .inr ⟨_, _, .lst h1 (fls_dp e1), .lst h2 (fls_dp e2), fls_shL e1 o1, fls_shL e2 o2, by unfold PyData.eqv; exact q⟩
theorem w_neLF (h1 : SqL K H a xs) (h2 : SqL K H b ys) (e1 : fls xs = some ds) (e2 : fls ys = some es) (o1 : okVs xs = true) (o2 : okVs ys = true) (q : Q (.bl (!PyData.eqvAll ds es)) H) : rNeZ K (.ref a) (.ref b) H Q := .inr ⟨_, _, .lst h1 (fls_dp e1), .lst h2 (fls_dp e2), fls_shL e1 o1, fls_shL e2 o2, by unfold PyData.eqv; exact q⟩
theorem w_eqTF (h1 : SqT K H a xs) (h2 : SqT K H b ys) (e1 : fls xs = some ds) (e2 : fls ys = some es) (o1 : okVs xs = true) (o2 : okVs ys = true) (q : Q (.bl (PyData.eqvAll ds es)) H) : rEqZ K (.ref a) (.ref b) H Q := .inr ⟨_, _, .tup h1 (fls_dp e1), .tup h2 (fls_dp e2), fls_shT e1 o1, fls_shT e2 o2, by unfold PyData.eqv; exact q⟩
theorem w_neTF (h1 : SqT K H a xs) (h2 : SqT K H b ys) (e1 : fls xs = some ds) (e2 : fls ys = some es) (o1 : okVs xs = true) (o2 : okVs ys = true) (q : Q (.bl (!PyData.eqvAll ds es)) H) : rNeZ K (.ref a) (.ref b) H Q := .inr ⟨_, _, .tup h1 (fls_dp e1), .tup h2 (fls_dp e2), fls_shT e1 o1, fls_shT e2 o2, by unfold PyData.eqv; exact q⟩
theorem w_eqLFr (h1 : SqL K H a xs) (h2 : SqL K H b xs) (e1 : fls xs = some ds) (o1 : okVs xs = true) (q : Q (.bl true) H) : rEqZ K (.ref a) (.ref b) H Q := w_eqLF h1 h2 e1 e1 o1 o1 (by rw [(fls_can e1 o1).2.2]; exact q)
theorem w_neLFr (h1 : SqL K H a xs) (h2 : SqL K H b xs) (e1 : fls xs = some ds) (o1 : okVs xs = true) (q : Q (.bl false) H) : rNeZ K (.ref a) (.ref b) H Q := w_neLF h1 h2 e1 e1 o1 o1 (by rw [(fls_can e1 o1).2.2]; exact q)
theorem w_eqTFr (h1 : SqT K H a xs) (h2 : SqT K H b xs) (e1 : fls xs = some ds) (o1 : okVs xs = true) (q : Q (.bl true) H) : rEqZ K (.ref a) (.ref b) H Q := w_eqTF h1 h2 e1 e1 o1 o1 (by rw [(fls_can e1 o1).2.2]; exact q)
theorem w_neTFr (h1 : SqT K H a xs) (h2 : SqT K H b xs) (e1 : fls xs = some ds) (o1 : okVs xs = true) (q : Q (.bl false) H) : rNeZ K (.ref a) (.ref b) H Q := w_neTF h1 h2 e1 e1 o1 o1 (by rw [(fls_can e1 o1).2.2]; exact q)
end
example (i : Int) : okVs [.str "prices", .int i, .non] = true := by kernel_rfl
end Z
namespace Z
open PySem L2 PySem.Spec PyProof.Rows
/-! ### C(e, .., k = v, ..): keyword-only parameters without defaults -/
theorem kb_of {K : PySem.W.Frag} {x qual : Str} {params : Arguments} {body : List Stmt} {scope : Scope} {kws : List (Str × V)} {f : Addr} {fd : FuncData} {ps ks : List Str} {n : Nat} (F : FunD K x qual params body scope [] kws f fd)
    (h : ∀ (kV doc pm : Value) (an : Option Addr) (cdv ct : Value) (us ws : List Value), us.length = n → ws.length = ks.length → bindArgs (PySem.W.fnOf x qual params body scope .none kV doc pm an cdv ct) ⟨us, ks.zip ws⟩ = pure (ps.zip (us ++ ws))) : KBn K fd ps n ks (fun us ws => us ++ ws) (fun vs zs => vs ++ zs) := by
  obtain ⟨oc, od, dV, kV, doc, pm, an, cdv, ct, osl, rfl, lk, hcd, hD, hK⟩ := F.ex
  rcases hD with ⟨_, rfl⟩ | ⟨e, _⟩
  · exact ⟨fun s us ws _ l1 l2 => .of_eq (h kV doc pm an cdv ct us ws l1 l2), fun r1 r2 => r1.append r2⟩
  · exact absurd rfl e
section
variable {X : Cx} {CX : CXT} {k n : Nat} {f C : Addr} {fd : FuncData} {ps ks : List Str} {sp : Sp} {E : L2.St → XK} {x : Str} {p pos : Pos} {e : Expr} {es : List Expr} {kws : List Keyword} {t tk : TA} {g : List Value → List Value → List Value} {gV : List V → List V → List V}
theorem run_makeKZ {pins : List (Addr × Obj)} {σ : L2.St} {G : Hp} {s : Shared} {Q : VK} {us ws : List Value} {vs zs : List V} (M : Mk X.K C f) (F : FnOk X.prog X.w X.K X.mg X.base CX k f fd ps sp) (hr : Room (k + 1) X.A) (hb : KBn X.K fd ps (n + 1) ks g gV) (hx : PassesAt CX X σ (E σ)) (I : Inv X pins σ G s) (r : Vals vs us) (rz : Vals zs ws) (l1 : vs.length = n) (l2 : zs.length = ks.length)
    (h : ∀ x dx, G x = none → G dx = none → dx ≠ x → sp (gV (.ref x :: vs) zs) (upd (upd G dx (.own x)) x (.ins C dx [])) (fun v H2 => v = .non ∧ Q (.ref x) H2) (E σ)) : wpAny (model X.prog X.w) X.A (call (.ref C) us (ks.zip ws)) (EP X pins σ Q) X.xe s := by
  have J := Inv.made (C := C) I
  have w2 := hb.rel (show Vals (V.ref (s.heap.objs.size + 1) :: vs) (Value.ref (s.heap.objs.size + 1) :: us) from .cons rfl r) rz
  have n1 : (Value.ref (s.heap.objs.size + 1) :: us).length = n + 1 := by rw [List.length_cons, ← r.length, l1]
  have hq := h (s.heap.objs.size + 1) s.heap.objs.size (I.hok.fresh (Nat.le_succ _)) (I.hok.fresh (Nat.le_refl _)) (Nat.ne_of_lt (Nat.lt_succ_self _))
  have hB := hb.to _ (Value.ref (s.heap.objs.size + 1) :: us) ws J.kIn n1 (rz.length.symm.trans l2)
  refine wpAny_call (make_map (f := f) I.kIn M.makes M.init (beq_iff_eq.mp M.fn) (codeAny_mono (F.run _ X.stack _ _ _ _ _ _ (E σ) (hr.make C us (ks.zip ws)) (J.env0.make C us (ks.zip ws)) hB w2 hq) fun r s' z => ?_))
  match r, z with
  | .error e, z => exact hx pins _ _ e s' J z
  | .ok (.ret u), z =>
    obtain ⟨v, H', I3, rv, ev, q3⟩ := J.after z
    subst ev
    exact ⟨rv, V.ref (s.heap.objs.size + 1), H', I3, rfl, q3⟩
  | .ok .next, z => exact z.elim
  | .ok .brk, z => exact z.elim
  | .ok .cont, z => exact z.elim
def tMakeKZ (C : Addr) (n m : Nat) (sp : Sp) (gV : List V → List V → List V) (E : L2.St → XK) (t tk : TA) : TE := fun σ H Q => tMakeK C n m sp gV (E σ) t tk σ H Q
theorem pe_makeKZ (M : Mk X.K C f) (F : FnOk X.prog X.w X.K X.mg X.base CX k f fd ps sp) (hr : Room (k + 1) X.A) (hg : Gl X x) (hm : X.mg x = some (.ref C)) (hb : KBn X.K fd ps (n + 1) ks g gV) (hx : ∀ σ, PassesAt CX X σ (E σ)) (ha : PA X (e :: es) t) (hkw : PK X kws tk)
    (hall : (backToKw pos (keywordEach kws X.env)).all (·.1.isSome) = true := by rfl) (hks : (backToKw pos (keywordEach kws X.env)).filterMap (·.1) = ks := by rfl) (hdb : (x == ("__debug__" : Str)) = false := by decide)
    (he : starEach (e :: es) X.env = (false, eval e X.env) :: starEach es X.env := by rfl) (hpl : ((backTo pos (starEach (e :: es) X.env)).any (·.1) || (backToKw pos (keywordEach kws X.env)).any (·.1.isNone)) = false := by rfl) :
    PE X (.Call (.Name x p) (e :: es) kws pos) (tMakeKZ C n ks.length sp gV E t tk) := by
  constructor
  intro pins s σ G Q I h
  have go : ∀ us s1, (∃ vs H1, Inv X pins σ H1 s1 ∧ Vals vs us ∧ tk σ H1 fun zs H2 => vs.length = n ∧ zs.length = ks.length ∧ ∀ x dx, H2 x = none → H2 dx = none → dx ≠ x → sp (gV (.ref x :: vs) zs) (upd (upd H2 dx (.own x)) x (.ins C dx [])) (fun v H3 => v = .non ∧ Q (.ref x) H3) (E σ)) →
      wpAny (model X.prog X.w) X.A (evalAll ((backToKw pos (keywordEach kws X.env)).map (·.2))) (fun ws s2 => X.K.In s2.heap ∧ wpAny (model X.prog X.w) X.A (call (.ref C) us (((backToKw pos (keywordEach kws X.env)).filterMap (·.1)).zip ws)) (EP X pins σ Q) X.xe s2) X.xe s1 := by
    rintro us s1 ⟨vs, H1, I1, r, q⟩
    refine thn (hkw.run pos pins s1 σ H1 _ I1 q) ?_
    rintro ws s2 ⟨zs, H2, I2, rz, l1, l2, q2⟩
    refine ⟨I2.kIn, ?_⟩
    rw [hks]
    exact run_makeKZ M F hr hb (hx σ) I2 r rz l1 l2 q2
  exact wpAny_Call_Name_kw (ld_glob I hg hm (PySem.W.callWith_KW (h₀ := X.base) I.ok.mod.kin M.kp hall (thn (ha.run pos pins s σ G _ I h) go) hpl he) hdb)
end
section
variable {K : PySem.W.Frag} {σ : L2.St} {H : Hp} {Q : VK} {C : Addr} {n m : Nat} {sp : Sp} {t tk : TA} {i : Int} {z : Str} {b : Bool}
theorem w_makeK {E : XK} (h : t σ H fun vs H1 => tk σ H1 fun zs H2 => vs.length = n ∧ zs.length = m ∧ dMk C sp [] E Q (vs ++ zs) H2) : tMakeK C n m sp (fun vs zs => vs ++ zs) E t tk σ H Q := by
  show t σ H fun vs H1 => tk σ H1 fun zs H2 => vs.length = n ∧ zs.length = m ∧ ∀ x dx, H2 x = none → H2 dx = none → dx ≠ x → sp ((.ref x :: vs) ++ zs) (upd (upd H2 dx (.own x)) x (.ins C dx [])) (fun v H3 => v = .non ∧ Q (.ref x) H3) E
  simp only [dMk, List.append_nil] at h
  exact h
theorem w_makeKZ {E : L2.St → XK} (h : t σ H fun vs H1 => tk σ H1 fun zs H2 => vs.length = n ∧ zs.length = m ∧ dMk C sp [] (E σ) Q (vs ++ zs) H2) : tMakeKZ C n m sp (fun vs zs => vs ++ zs) E t tk σ H Q := w_makeK h
theorem w_two {A B R : Prop} (h1 : A) (h2 : B) (h : R) : A ∧ B ∧ R := ⟨h1, h2, h⟩
theorem w_isiIS (q : Q (.bl false) H) : rIsi K [.int i, .ty "str"] H Q := w_isiB (.base (.int _)) (by decide +kernel) q
theorem w_isiSI (q : Q (.bl false) H) : rIsi K [.str z, .ty "int"] H Q := w_isiB (.base (.str _)) (by decide +kernel) q
end
end Z
namespace Z
open PySem L2 PySem.Spec PyProof.Rows
open AutoSeq1 (wpAny_loadPart')
/-! ### enumerate of a tuple -/
theorem meets_enumT (t : Addr) (its : Array Value) (n : Nat) (dct : Option Addr) (sl : Array (Option Value)) :
    Meets (Builtin.«enumerate.__new__» ⟨[.type "enumerate", .ref t], []⟩) (fun _ R s => s.heap.get? t = some { cls := .type "tuple", dict := dct, data := .seq its n, slots := sl } ∧
      R (.ok (.ret (.ref (s.heap.push { cls := .type "tuple_iterator", data := .fields #[.ref t, .int 0 0] }).objs.size)))
        { s with heap := (s.heap.push { cls := .type "tuple_iterator", data := .fields #[.ref t, .int 0 0] }).push { cls := .type "enumerate", data := .fields #[.none, .bool false, .ref s.heap.objs.size, rawInt 0, .none, .none] } }) :=
  .of_wp fun prog w A R s h => by
    obtain ⟨hp, g, d, tk, os⟩ := s
    obtain ⟨ht, h⟩ := h
    have hsub := sub_enumerate
    have hT : Heap.IsTuple (Shared.heap ⟨hp, g, d, tk, os⟩) t its := ⟨_, ht, rfl, n, rfl⟩
    wp_walk using wpAny_loadPart' ht
    refine wpAny_stack_any fun st => wpAny_pure ?_
    split
    · rename_i c _ _ _ _ _
      cases (c == Value.type "enumerate") <;> (wp_walk using wpAny_loadPart' ht, wpAny_pyIter_tuple hT; exact ⟨_, rfl, h⟩)
    · wp_walk using wpAny_loadPart' ht, wpAny_pyIter_tuple hT
      exact ⟨_, rfl, h⟩
theorem call_enumT {prog : Program} {w : World} {A : Around} {E : Value → Shared → Prop} {s : Shared} {t : Addr} {its : Array Value} {Q : Value → Shared → Prop} (hT : s.heap.IsTuple t its)
    (h : ∀ h', IsEnum h' (s.heap.objs.size + 1) s.heap.objs.size 0 .none → h'.IsTupleIter s.heap.objs.size t 0 → (∀ b o, s.heap.get? b = some o → h'.get? b = some o) → Q (.ref (s.heap.objs.size + 1)) { s with heap := h' }) :
    wpAny (model prog w) A (call (.type "enumerate") [.ref t]) Q E s := by
  obtain ⟨⟨c, dct, dt, sl⟩, hl, hc, n, hd⟩ := hT
  cases (show c = .type "tuple" from hc)
  cases (show dt = .seq its n from hd)
  refine callType_new F.called_enumerate (by decide) (F.typeCall_enumerate_1 _) (F.newCall_enumerate_1 _) (fun obj => F.args_object_init_2 obj _) F.entry_enumerate_new (meets_enumT t its n dct sl) ⟨hl, ?_⟩
  have hz : (s.heap.push { cls := .type "tuple_iterator", data := .fields #[.ref t, .int 0 0] }).objs.size = s.heap.objs.size + 1 := Heap.size_push ..
  have he : IsEnum ((s.heap.push { cls := .type "tuple_iterator", data := .fields #[.ref t, .int 0 0] }).push { cls := .type "enumerate", data := .fields #[.none, .bool false, .ref s.heap.objs.size, rawInt 0, .none, .none] }) (s.heap.objs.size + 1) s.heap.objs.size 0 .none := by
    rw [← hz]
    exact Heap.get?_push_size _ rfl
  show _ ∧ _
  rw [hz]
  exact ⟨⟨_, he, rfl⟩, h _ he ⟨_, Heap.get?_push_of_some _ (Heap.get?_push_size _ rfl), rfl, rfl⟩ fun b o x => Heap.get?_push_of_some _ (Heap.get?_push_of_some _ x)⟩
theorem enum_endT {prog : Program} {w : World} {A : Around} {E : Value → Shared → Prop} {s : Shared} {e it t : Addr} {j : Nat} {k : Int} {old : Value} {its : Array Value} {Q : Option Value → Shared → Prop} (hh : A.handled = none) (he : IsEnum s.heap e it k old) (hit : s.heap.IsTupleIter it t j) (ht : s.heap.IsTuple t its) (hx : its[j]? = none)
    (hQ : ∀ h', Heap.ExtBut it s.heap h' → Q none { s with heap := h' }) : wpAny (model prog w) A (pyNext (.ref e)) Q E s := by
  have ty : s.TypeIs (.ref e) "enumerate" := ⟨_, he, rfl⟩
  have body : ∀ {A' : Around} {R : PySem.Fin → Shared → Prop} {E' : Value → Shared → Prop}, A'.handled = none → (∀ h' x, Heap.ExtBut it s.heap h' → (∃ o, h'.get? x = some o ∧ o.cls = .type "StopIteration") → E' (.ref x) { s with heap := h' }) → wpAny (model prog w) A' (Builtin.«enumerate.__next__» ⟨[.ref e], []⟩) R E' s := fun {A' R E'} h0 hE => by
    show wpAny _ _ (field (.ref e) 2 >>= _) _ _ _
    exact wpAny_bind (wpAny_field he rfl (x := .ref it) rfl (wpAny_bind (wpAny_nextOf_tuple_end h0 hit ht hx hE)))
  unfold pyNext
  refine wpAny_bind (wpAny_attempt (wpAny_callSpecial?_slot (name := Str.ofString "__next__") ty F.slot_enumerate_next (wpAny_call_entry F.slot_enumerate_next ty F.entry_enumerate_next (body (by exact hh) ?_) (F.args_enumerate_next_1 _))))
  rintro h' x eb ⟨o, ho, hc⟩
  exact wpAny_bind (wpAny_isInstance (T := "StopIteration") (b := true) ⟨o, ho, hc⟩ isSubtype_stop (wpAny_pure (hQ _ eb)))
/-- the tuple at a, each item in a new pair -/
def IteT (K : PySem.W.Frag) (a : Addr) : It :=
  ⟨fun i H => ∃ (xs : List V) (x : V), SqT K H a xs ∧ xs[i]? = some x, fun i H v H' => ∃ T x, v = .ref T ∧ H T = none ∧ H' = upd H T (.tup [.int (i : Nat), x]) ∧ ∀ xs, SqT K H a xs → xs[i]? = some x, fun i H => ∃ xs : List V, SqT K H a xs ∧ xs.length ≤ i⟩
theorem turn_enumT {P : Program} {w : World} {K : PySem.W.Frag} {elts : List Expr} {kk : Nat} {tpos : Pos} (a e it : Addr) :
    Turn P w K (.Tuple elts kk tpos) (IteT K a) [e, it] e (fun i h => (∃ old, IsEnum h e it ((i : Nat) : Int) old) ∧ h.IsTupleIter it a i ∧ e ≠ it ∧ a ≠ it ∧ a ≠ e) where
  mem := List.mem_cons_self
  obj := by
    rintro i h ⟨⟨old, he⟩, ⟨o, ho, hc, hd⟩, _⟩ b hb
    rcases List.mem_cons.mp hb with rfl | hb
    · exact ⟨_, he, fun v q => nomatch q⟩
    · rw [List.mem_singleton.mp hb]
      exact ⟨o, ho, fun v q => by rw [hd] at q; cases q⟩
  keep := by
    rintro i h h' ⟨⟨old, he⟩, hi, hne⟩ k
    exact ⟨⟨old, k e List.mem_cons_self _ he⟩, hi.at fun o q => k it (by simp) o q, hne⟩
  item := by
    intro X hP hw hK hc i pins s σ H E I hf st hg
    subst hP hw hK
    obtain ⟨⟨old, he⟩, hit, hne, hai, hae⟩ := st
    obtain ⟨xs, x, hq, hx⟩ := hg
    obtain ⟨its, rv, p, hz⟩ := I.tuple hq
    obtain ⟨u, hu, ru⟩ := rv.get hx
    have hlt : i < its.toArray.size := by
      have := (List.getElem?_eq_some_iff.mp hu).1
      simpa using this
    have hel : e < s.heap.objs.size := Heap.lt_size he
    have hil : it < s.heap.objs.size := by obtain ⟨_, q, _⟩ := hit; exact Heap.lt_size q
    refine wpAny_pyNext_enum_itemD (Draws.tuple (A := X.A.in1) (I.ok.hd hc) it a hai its.toArray) he ⟨hit, p⟩ hlt hne (fun z => ?_) fun y h' tk hy ho hit' hT hsz hk => ?_
    · rcases List.mem_cons.mp z with z | z
      · exact hne z
      · exact hae (List.mem_singleton.mp z).symm
    have ey : y = u := by
      have h1 : its.toArray[i]? = some y := hy
      rw [List.getElem?_toArray, hu] at h1
      exact (Option.some.inj h1).symm
    subst ey
    refine ⟨_, rfl, wpAny_letOwnedTupleGo_enum (s := { s with heap := h', toks := tk + 1 }) ho fun h'' he' sb => ?_⟩
    have hT2 : h''.get? s.heap.objs.size = some { cls := .type "tuple", data := .seq #[.int i tk, y] } := (sb.2 _ (Nat.ne_of_gt hel)).trans hT
    have new : ObjOk X.prog X.w (upd H s.heap.objs.size (.tup [.int (i : Nat), x])) h'' s.heap.objs.size (.tup [.int (i : Nat), x]) := by
      refine ⟨?_, [.int i tk, y], .cons ⟨_, rfl⟩ (.cons ru .nil), ⟨_, hT2, rfl, _, rfl⟩⟩
      show 2 ≤ sizeLine
      decide
    have I1 : Inv X pins σ (upd H s.heap.objs.size (.tup [.int (i : Nat), x])) { s with heap := h'', toks := tk + 1 } :=
      I.turnedNew (ch := [e, it]) (fun b ob hb q => (sb.2 b (fun z => hb (by simp [z]))).trans (hk b ob (fun z => hb (by simp [z])) (fun z => hb (by simp [z])) q)) hf (Nat.le_refl _) new
    refine ⟨.ref s.heap.objs.size, _, I1, rfl, ⟨_, x, rfl, I.hok.fresh (Nat.le_refl _), rfl, fun ys hy => by rw [I.tuple_inj hy hq]; exact hx⟩, ⟨⟨y, ?_⟩, hit'.1.at fun o q => (sb.2 it (Ne.symm hne)).trans q, hne, hai, hae⟩, fun b hb => ?_⟩
    · rw [show ((i + 1 : Nat) : Int) = (i : Int) + 1 by omega]
      exact he'
    · have hb' : b < s.heap.objs.size := by
        rcases List.mem_cons.mp hb with z | z
        · rw [z]; exact hel
        · rw [List.mem_singleton.mp z]; exact hil
      rw [upd_ne (Nat.ne_of_lt hb')]
      exact (hf b hb).1
  done := by
    intro X hP hw hK hc i pins s σ H E I hf st hg
    subst hP hw hK
    obtain ⟨⟨old, he⟩, hit, hne, hai, hae⟩ := st
    obtain ⟨xs, hq, hx⟩ := hg
    obtain ⟨its, rv, p, hz⟩ := I.tuple hq
    obtain ⟨f0, f1, f2, f3, f4, f5⟩ := hf it (by simp)
    have hl := rv.length
    refine enum_endT (I.ok.hd hc) he hit p (by simp; omega) fun h' eb => ⟨rfl, I.turned (t' := s.toks) (fun b o hb q => eb b o hb q) f0 f1 f3 f4 f5⟩
  self := by
    rintro A i s Q E ⟨⟨_, he⟩, _⟩ h
    exact wpAny_pyIter_enum he h
/-- enumerate of a list or a tuple -/
def dEA (K : PySem.W.Frag) (R : It → Hp → Prop) : List V → Hp → Prop := fun vs H1 => ∃ a xs, vs = [.ref a] ∧ ((SqL K H1 a xs ∧ R (Ite K a) H1) ∨ (SqT K H1 a xs ∧ R (IteT K a) H1))
def iEnA (K : PySem.W.Frag) (ta : TA) : TI := fun σ H R => ta σ H (dEA K R)
theorem pi_enumA {X : Cx} {K : PySem.W.Frag} (hK : X.K = K) {e : Expr} {ta : TA} {p pos tpos : Pos} {elts : List Expr} {kk : Nat} (hg : Gl X "enumerate") (hm : X.mg "enumerate" = none) (ha : PA X [e] ta) (hs : starEach [e] X.env = [(false, eval e X.env)] := by rfl) :
    PI X (.Tuple elts kk tpos) (.Call (.Name "enumerate" p) [e] [] pos) (iEnA K ta) := by
  subst hK
  constructor
  intro pins s σ H R I h
  have go : ∀ us s1, (∃ vs H1, Inv X pins σ H1 s1 ∧ Vals vs us ∧ dEA X.K R vs H1) → wpAny (model X.prog X.w) X.A (call (.type "enumerate") us) (fun v s2 => wpAny (model X.prog X.w) X.A (pyIter v) (PIE X pins σ (.Tuple elts kk tpos) R) X.xe s2) X.xe s1 := by
    rintro us s1 ⟨vs, H1, I1, r1, a, xs, rfl, q⟩
    cases r1 with
    | cons r rr =>
      cases rr
      cases r
      have new : ∀ b ∈ [s1.heap.objs.size + 1, s1.heap.objs.size], FpOk X pins H1 b := fun b hb => by
        have hle : s1.heap.objs.size ≤ b := by
          rcases List.mem_cons.mp hb with z | z
          · omega
          · rw [List.mem_singleton.mp z]; exact Nat.le_refl _
        exact I1.fpOk hle (I1.hok.fresh hle)
      rcases q with ⟨hq, q⟩ | ⟨hq, q⟩
      · obtain ⟨its, rv, p', hz⟩ := I1.list hq
        exact call_enumerate_list p'.isList fun h' he hit hsz hk => wpAny_pyIter_enum he ⟨s1.heap.objs.size + 1, _, _, _, H1, rfl, I1.kept (t' := s1.toks) hk, turn_enum a (s1.heap.objs.size + 1) s1.heap.objs.size, ⟨⟨.none, he⟩, hit, Nat.succ_ne_self _⟩, new, q⟩
      · obtain ⟨its, rv, p', hz⟩ := I1.tuple hq
        have hlt : a < s1.heap.objs.size := by obtain ⟨o, ho, _⟩ := (show s1.heap.IsTuple a its.toArray from p'); exact Heap.lt_size ho
        exact call_enumT (show s1.heap.IsTuple a its.toArray from p') fun h' he hit hk => wpAny_pyIter_enum he ⟨s1.heap.objs.size + 1, _, _, _, H1, rfl, I1.kept (t' := s1.toks) hk, turn_enumT a (s1.heap.objs.size + 1) s1.heap.objs.size, ⟨⟨.none, he⟩, hit, Nat.succ_ne_self _, Nat.ne_of_lt hlt, Nat.ne_of_lt (Nat.lt_succ_of_lt hlt)⟩, new, q⟩
  exact Call_ (ld_blt I hg hm boot_enumerate (PyProof.Rows.callWith_type1 (thn (ha.run pos pins s σ H _ I h) go) hs rfl))
section
variable {K : PySem.W.Frag} {σ : L2.St} {H H' : Hp} {a : Addr} {xs : List V} {R : It → Hp → Prop} {ta : TA}
theorem w_iEA (h : ta σ H (dEA K R)) : iEnA K ta σ H R := h
theorem i_EA (h : SqA K H a xs) (k : ∀ J, Src J (fun H' => SqA K H' a xs ∧ (SqL K H a xs → SqL K H' a xs) ∧ (SqT K H a xs → SqT K H' a xs)) xs.length (fun i x H'' => ∃ T y, x = .ref T ∧ At H'' T (.tup [.int (i : Nat), y]) ∧ xs[i]? = some y) → R J H) : dEA K R [.ref a] H := by
  refine ⟨a, xs, rfl, ?_⟩
  rcases h with h | h
  · refine .inl ⟨h, k _ ⟨fun i H' hp hi => ⟨xs, xs[i], hp.2.1 h, List.getElem?_eq_getElem hi⟩, fun H' hp => ⟨xs, hp.2.1 h, Nat.le_refl _⟩, fun i H' x H'' hp hi hy => ?_⟩⟩
    obtain ⟨T, y, e1, e2, e3, f⟩ := hy
    exact ⟨by rw [e3]; exact Ex.new e2, T, y, e1, by rw [e3]; exact upd_same, f xs (hp.2.1 h)⟩
  · refine .inr ⟨h, k _ ⟨fun i H' hp hi => ⟨xs, xs[i], hp.2.2 h, List.getElem?_eq_getElem hi⟩, fun H' hp => ⟨xs, hp.2.2 h, Nat.le_refl _⟩, fun i H' x H'' hp hi hy => ?_⟩⟩
    obtain ⟨T, y, e1, e2, e3, f⟩ := hy
    exact ⟨by rw [e3]; exact Ex.new e2, T, y, e1, by rw [e3]; exact upd_same, f xs (hp.2.2 h)⟩
/-- slices of lists of anything -/
theorem w_slLVt {Q : VK} {i : Int} (h : SqL K H a xs) (h0 : 0 ≤ i) (q : ∀ p H2, Fr H p → Ex H H2 → At H2 p (.lst (xs.take i.toNat)) → Q (.ref p) H2) : rSlL K (.ref a) none (some i) H Q := w_slL h fun p H2 a b c => q p H2 a b (by rw [cut_to h0] at c; exact c)
theorem w_slLVf {Q : VK} {i : Int} (h : SqL K H a xs) (h0 : 0 ≤ i) (q : ∀ p H2, Fr H p → Ex H H2 → At H2 p (.lst (xs.drop i.toNat)) → Q (.ref p) H2) : rSlL K (.ref a) (some i) none H Q := w_slL h fun p H2 a b c => q p H2 a b (by rw [cut_from h0] at c; exact c)
end
/-! ### isinstance of a tuple, a list, None or a text with an own class -/
def kitBo (t : String) (y : Str) (K : PySem.W.Frag) : Bool := decide (PySem.W.kitOne K (.type t) (.ref (He.ga K y)) = some false)
theorem kitBo_ok {K : PySem.W.Frag} {t : String} {y : Str} (h : kitBo t y K = true) : PySem.W.kitOne K (.type t) (.ref (He.ga K y)) = some false := of_decide_eq_true h
theorem w_isiTC {K : PySem.W.Frag} {H : Hp} {Q : VK} {a C : Addr} {xs : List V} (ha : At H a (.tup xs)) (h : PySem.W.kitOne K (.type "tuple") (.ref C) = some false) (q : Q (.bl false) H) : rIsi K [.ref a, .ref C] H Q := ⟨_, _, .type "tuple", .ref C, false, rfl, .own C, .base (.tup ha), h, q⟩
theorem w_isiLC {K : PySem.W.Frag} {H : Hp} {Q : VK} {a C : Addr} {xs : List V} (ha : At H a (.lst xs)) (h : PySem.W.kitOne K (.type "list") (.ref C) = some false) (q : Q (.bl false) H) : rIsi K [.ref a, .ref C] H Q := ⟨_, _, .type "list", .ref C, false, rfl, .own C, .base (.lst ha), h, q⟩
end Z
namespace Z
open PySem L2
/-! ### // of great ints -/
/-- the model reckons i // j -/
def CDivZ (i j : Int) : Prop := 0 < j ∧ Builtin.divisionGoesByPylong i j = false
theorem CDivZ.of {i j : Int} (h : CDivW i j) : CDivZ i j := ⟨h.1, PyProof.noPylong_of_log2 h.2⟩
theorem cdivz {i j : Int} (h : 0 < j) (hi : i.natAbs < 2 ^ 13400) : CDivZ i j := by
  refine ⟨h, ?_⟩
  have h1 : i.natAbs.log2 < 13400 := PySem.Flt.log2_lt_of (by decide) hi
  have h2 : (if i == 0 then 0 else i.natAbs.log2 / 30 + 1) ≤ 447 := by
    split <;> omega
  show (decide ((if j == 0 then 0 else j.natAbs.log2 / 30 + 1) > 300) && decide ((if i == 0 then 0 else i.natAbs.log2 / 30 + 1) > (if j == 0 then 0 else j.natAbs.log2 / 30 + 1) + 150)) = false
  by_cases hj : (if j == 0 then 0 else j.natAbs.log2 / 30 + 1) > 300
  · rw [decide_eq_false (p := (if i == 0 then 0 else i.natAbs.log2 / 30 + 1) > (if j == 0 then 0 else j.natAbs.log2 / 30 + 1) + 150) (by omega), Bool.and_false]
  · rw [decide_eq_false hj, Bool.false_and]
theorem op_fdivP {X : Cx} : OpR X (binaryOp .FloorDiv) (rI CDivZ fun i j => .int (i / j)) := opI fun i j _ _ _ _ _ hc q => by
  have h1 : (0 : Int) < j := hc.1
  exact PyProof.Rows.floordiv_int (by omega) (by rw [Int.fdiv_eq_ediv_of_nonneg i (by omega)]; exact q) (.inl hc.2)
/-! ### a < b < c -/
section
variable {σ : L2.St} {H : Hp} {Q : VK} {ta tb tc : TE} {r r' : R2}
theorem w_chain (h : ta σ H fun x H1 => tb σ H1 fun y H2 => r x y H2 fun z H3 => ∃ k, z = .bl k ∧ (if k = true then tc σ H3 fun w' H4 => r' y w' H4 Q else Q (.bl false) H3)) : tChain r r' ta tb tc σ H Q := h
end
end Z
namespace R
open PySem L2 Z
def top (i : Nat) : Stmt := PySem.Challenge.pw_dearestshelf_k67_whole_never_less.main.body.getD i (.Pass ⟨0, 0, 0, 0⟩)
abbrev s_Unsure___init__ : Stmt := inClass (top 11) 2
theorem sc_Unsure___init__ : FnScope ["self", "lows", "highs", "aside", "at", "low"] ["self", "lows", "highs", "aside"] (defScope s_Unsure___init__) := ⟨rfl, rfl, rfl, by decide +kernel, rfl, by decide +kernel, by decide +kernel⟩
abbrev s_Unsure_never_less : Stmt := inClass (top 11) 8
theorem sc_Unsure_never_less : FnScope ["self", "first", "second", "prices", "varied", "corner", "weights", "place", "thing", "aside", "one", "two"] ["self", "first", "second", "prices"] (defScope s_Unsure_never_less) := ⟨rfl, rfl, rfl, by decide +kernel, rfl, by decide +kernel, by decide +kernel⟩
abbrev s__law_asked : Stmt := top 25
theorem sc__law_asked : FnScope ["_law_unsure", "_law_first", "_law_second", "_law_prices", "e"] ["_law_unsure", "_law_first", "_law_second", "_law_prices"] (defScope s__law_asked) := ⟨rfl, rfl, rfl, by decide +kernel, rfl, by decide +kernel, by decide +kernel⟩
abbrev s__law_asked_by_base : Stmt := top 26
theorem sc__law_asked_by_base : FnScope ["_law_unsure", "_law_first", "_law_second", "_law_prices", "_law_word", "e"] ["_law_unsure", "_law_first", "_law_second", "_law_prices", "_law_word"] (defScope s__law_asked_by_base) := ⟨rfl, rfl, rfl, by decide +kernel, rfl, by decide +kernel, by decide +kernel⟩
abbrev s__law_below : Stmt := top 23
theorem sc__law_below : FnScope ["_law_a", "_law_b"] ["_law_a", "_law_b"] (defScope s__law_below) := ⟨rfl, rfl, rfl, by decide +kernel, rfl, by decide +kernel, by decide +kernel⟩
abbrev s__law_bounds : Stmt := top 20
theorem sc__law_bounds : FnScope ["_law_low_cell", "_law_high_cell", "_law_count", "_law_bases", "_law_extras", "_law_found", "_law_k", "_law_low"] ["_law_low_cell", "_law_high_cell", "_law_count"] (defScope s__law_bounds) := ⟨rfl, rfl, rfl, by decide +kernel, rfl, by decide +kernel, by decide +kernel⟩
abbrev s__law_cell : Stmt := top 13
theorem sc__law_cell : FnScope ["_law_script", "_law_place"] ["_law_script", "_law_place"] (defScope s__law_cell) := ⟨rfl, rfl, rfl, by decide +kernel, rfl, by decide +kernel, by decide +kernel⟩
abbrev s__law_corners : Stmt := top 29
theorem sc__law_corners : FnScope ["_law_couples", "_law_varied", "_law_found", "_law_bits", "_law_numbers", "_law_left", "_law_thing", "_law_couple"] ["_law_couples", "_law_varied"] (defScope s__law_corners) := ⟨rfl, rfl, rfl, by decide +kernel, rfl, by decide +kernel, by decide +kernel⟩
abbrev s__law_draws : Stmt := top 14
theorem sc__law_draws : FnScope ["_law_cell_here", "_law_sizes", "_law_left", "_law_found", "_law_size", "_law_k", "_law_low", "_law_high"] ["_law_cell_here", "_law_sizes"] (defScope s__law_draws) := ⟨rfl, rfl, rfl, by decide +kernel, rfl, by decide +kernel, by decide +kernel⟩
abbrev s__law_is_int : Stmt := top 18
theorem sc__law_is_int : FnScope ["_law_x"] ["_law_x"] (defScope s__law_is_int) := ⟨rfl, rfl, rfl, by decide +kernel, rfl, by decide +kernel, by decide +kernel⟩
abbrev s__law_no_lot : Stmt := top 24
theorem sc__law_no_lot : FnScope ["_law_lot", "_law_many", "_law_form"] ["_law_lot", "_law_many", "_law_form"] (defScope s__law_no_lot) := ⟨rfl, rfl, rfl, by decide +kernel, rfl, by decide +kernel, by decide +kernel⟩
abbrev s__law_power : Stmt := top 16
theorem sc__law_power : FnScope ["_law_many", "_law_power_here", "_law_k"] ["_law_many"] (defScope s__law_power) := ⟨rfl, rfl, rfl, by decide +kernel, rfl, by decide +kernel, by decide +kernel⟩
abbrev s__law_refused : Stmt := top 19
theorem sc__law_refused : FnScope ["_law_answer", "_law_due", "_law_k"] ["_law_answer", "_law_due"] (defScope s__law_refused) := ⟨rfl, rfl, rfl, by decide +kernel, rfl, by decide +kernel, by decide +kernel⟩
abbrev s__law_refuses : Stmt := top 27
theorem sc__law_refuses : FnScope ["_law_unsure", "_law_fault", "_law_form", "_law_first", "_law_second", "_law_prices", "_law_many", "_law_bad_prices", "_law_due"] ["_law_unsure", "_law_fault", "_law_form", "_law_first", "_law_second", "_law_prices"] (defScope s__law_refuses) := ⟨rfl, rfl, rfl, by decide +kernel, rfl, by decide +kernel, by decide +kernel⟩
abbrev s__law_right : Stmt := top 30
theorem sc__law_right : FnScope ["_law_told", "_law_first", "_law_second", "_law_prices", "_law_couples", "_law_points", "_law_many", "_law_numbers", "_law_brought", "_law_k"] ["_law_told", "_law_first", "_law_second", "_law_prices", "_law_couples", "_law_points"] (defScope s__law_right) := ⟨rfl, rfl, rfl, by decide +kernel, rfl, by decide +kernel, by decide +kernel⟩
abbrev s__law_row : Stmt := top 15
theorem sc__law_row : FnScope ["_law_cell_here", "_law_count", "_law_drawn", "_law_bound", "_law_k", "_law_value"] ["_law_cell_here", "_law_count"] (defScope s__law_row) := ⟨rfl, rfl, rfl, by decide +kernel, rfl, by decide +kernel, by decide +kernel⟩
abbrev s__law_same_lot : Stmt := top 31
theorem sc__law_same_lot : FnScope ["_law_x", "_law_due", "_law_k"] ["_law_x", "_law_due"] (defScope s__law_same_lot) := ⟨rfl, rfl, rfl, by decide +kernel, rfl, by decide +kernel, by decide +kernel⟩
abbrev s__law_shuffled : Stmt := top 17
theorem sc__law_shuffled : FnScope ["_law_places", "_law_things", "_law_left", "_law_found", "_law_place"] ["_law_places", "_law_things"] (defScope s__law_shuffled) := ⟨rfl, rfl, rfl, by decide +kernel, rfl, by decide +kernel, by decide +kernel⟩
abbrev s__law_two_lots : Stmt := top 28
theorem sc__law_two_lots : FnScope ["_law_draws_here", "_law_many", "_law_count", "_law_way", "_law_things", "_law_one", "_law_two", "_law_k", "_law_role", "_law_thing"] ["_law_draws_here", "_law_many", "_law_count", "_law_way"] (defScope s__law_two_lots) := ⟨rfl, rfl, rfl, by decide +kernel, rfl, by decide +kernel, by decide +kernel⟩
abbrev s__law_within : Stmt := top 21
theorem sc__law_within : FnScope ["_law_cell_here", "_law_couples", "_law_drawn", "_law_found", "_law_k", "_law_couple"] ["_law_cell_here", "_law_couples"] (defScope s__law_within) := ⟨rfl, rfl, rfl, by decide +kernel, rfl, by decide +kernel, by decide +kernel⟩
abbrev s__law_worth : Stmt := top 22
theorem sc__law_worth : FnScope ["_law_weights", "_law_apart", "_law_prices", "_law_lot", "_law_top", "_law_bottom", "_law_thing"] ["_law_weights", "_law_apart", "_law_prices", "_law_lot"] (defScope s__law_worth) := ⟨rfl, rfl, rfl, by decide +kernel, rfl, by decide +kernel, by decide +kernel⟩
abbrev s_brought : Stmt := top 10
theorem sc_brought : FnScope ["lot", "prices", "weights", "aside", "top", "thing"] ["lot", "prices", "weights", "aside"] (defScope s_brought) := ⟨rfl, rfl, rfl, by decide +kernel, rfl, by decide +kernel, by decide +kernel⟩
abbrev s_check_lot : Stmt := top 7
theorem sc_check_lot : FnScope ["lot", "many", "before", "thing"] ["lot", "many"] (defScope s_check_lot) := ⟨rfl, rfl, rfl, by decide +kernel, rfl, by decide +kernel, by decide +kernel⟩
abbrev s_check_prices : Stmt := top 8
theorem sc_check_prices : FnScope ["prices", "many", "at", "price"] ["prices", "many"] (defScope s_check_prices) := ⟨rfl, rfl, rfl, by decide +kernel, rfl, by decide +kernel, by decide +kernel⟩
abbrev s_law : Stmt := top 32
theorem sc_law : FnScope ["_law_script", "_law_drawn", "_law_many", "_law_roles", "_law_two", "_law_couples", "_law_prices", "_law_sides", "_law_points", "_law_varied", "_law_lows", "_law_unsure", "_law_other", "_law_turn", "_law_first", "_law_second", "_law_shown", "_law_passed", "_law_answer", "_law_couple", "_law_k", "_law_thing"] ["_law_script"] (defScope s_law) := ⟨rfl, rfl, rfl, by decide +kernel, rfl, by decide +kernel, by decide +kernel⟩
abbrev s_BadNumber___init__ : Stmt := inClass (top 4) 0
theorem sc_BadNumber___init__ : NdefX.NScope ["self", "what", "at", "__class__"] ["self", "what", "at"] ["__class__"] (defScope s_BadNumber___init__) := NdefX.nscope_by (by decide +kernel)
abbrev s_TooMany___init__ : Stmt := inClass (top 5) 0
theorem sc_TooMany___init__ : NdefX.NScope ["self", "many", "most", "__class__"] ["self", "many", "most"] ["__class__"] (defScope s_TooMany___init__) := NdefX.nscope_by (by decide +kernel)
structure Tx (P : Program) (K : PySem.W.Frag) (mg : Str → Option Value) : Prop where
  n_ValueError : mg "ValueError" = none
  n_bool : mg "bool" = none
  n_enumerate : mg "enumerate" = none
  n_int : mg "int" = none
  n_isinstance : mg "isinstance" = none
  n_len : mg "len" = none
  n_list : mg "list" = none
  n_range : mg "range" = none
  n_str : mg "str" = none
  n_sum : mg "sum" = none
  n_super : mg "super" = none
  n_tuple : mg "tuple" = none
  g__law_asked : mg "_law_asked" = some (.ref (He.ga K "_law_asked"))
  g__law_asked_by_base : mg "_law_asked_by_base" = some (.ref (He.ga K "_law_asked_by_base"))
  g__law_below : mg "_law_below" = some (.ref (He.ga K "_law_below"))
  g__law_bounds : mg "_law_bounds" = some (.ref (He.ga K "_law_bounds"))
  g__law_cell : mg "_law_cell" = some (.ref (He.ga K "_law_cell"))
  g__law_corners : mg "_law_corners" = some (.ref (He.ga K "_law_corners"))
  g__law_draws : mg "_law_draws" = some (.ref (He.ga K "_law_draws"))
  g__law_is_int : mg "_law_is_int" = some (.ref (He.ga K "_law_is_int"))
  g__law_no_lot : mg "_law_no_lot" = some (.ref (He.ga K "_law_no_lot"))
  g__law_power : mg "_law_power" = some (.ref (He.ga K "_law_power"))
  g__law_refused : mg "_law_refused" = some (.ref (He.ga K "_law_refused"))
  g__law_refuses : mg "_law_refuses" = some (.ref (He.ga K "_law_refuses"))
  g__law_right : mg "_law_right" = some (.ref (He.ga K "_law_right"))
  g__law_row : mg "_law_row" = some (.ref (He.ga K "_law_row"))
  g__law_same_lot : mg "_law_same_lot" = some (.ref (He.ga K "_law_same_lot"))
  g__law_shuffled : mg "_law_shuffled" = some (.ref (He.ga K "_law_shuffled"))
  g__law_two_lots : mg "_law_two_lots" = some (.ref (He.ga K "_law_two_lots"))
  g__law_within : mg "_law_within" = some (.ref (He.ga K "_law_within"))
  g__law_worth : mg "_law_worth" = some (.ref (He.ga K "_law_worth"))
  g_brought : mg "brought" = some (.ref (He.ga K "brought"))
  g_check_lot : mg "check_lot" = some (.ref (He.ga K "check_lot"))
  g_check_prices : mg "check_prices" = some (.ref (He.ga K "check_prices"))
  g_law : mg "law" = some (.ref (He.ga K "law"))
  g_ShelfError : mg "ShelfError" = some (.ref (He.ga K "ShelfError"))
  ec_ShelfError : ExcC K (He.ga K "ShelfError")
  exm_ShelfError_BadNumber : PySem.W.exmOne K (.ref (He.ga K "ShelfError")) (.ref (He.ga K "BadNumber")) = some false
  exm_ShelfError_BadLot : PySem.W.exmOne K (.ref (He.ga K "ShelfError")) (.ref (He.ga K "BadLot")) = some false
  exm_ShelfError_TooMany : PySem.W.exmOne K (.ref (He.ga K "ShelfError")) (.ref (He.ga K "TooMany")) = some false
  exm_ShelfError_ShelfError : PySem.W.exmOne K (.ref (He.ga K "ShelfError")) (.ref (He.ga K "ShelfError")) = some true
  ki_ShelfError_ValueError : PySem.W.kitOne K (.ref (He.ga K "ShelfError")) (.type "ValueError") = some true
  ki_ShelfError_BadLot : PySem.W.kitOne K (.ref (He.ga K "ShelfError")) (.ref (He.ga K "BadLot")) = some false
  ki_ShelfError_BadNumber : PySem.W.kitOne K (.ref (He.ga K "ShelfError")) (.ref (He.ga K "BadNumber")) = some false
  ki_ShelfError_TooMany : PySem.W.kitOne K (.ref (He.ga K "ShelfError")) (.ref (He.ga K "TooMany")) = some false
  x_ShelfError : PySem.W.excIn K (He.ga K "ShelfError") He.veBase "ValueError.__new__" = true ∧ PySem.W.keepIn K (.ref (He.ga K "ShelfError")) = true ∧ PySem.W.subIn K (.ref (He.ga K "ShelfError")) (.type "BaseException") = some true ∧ PySem.W.typeIn K (.ref (He.ga K "ShelfError")) = some (.type "type")
  g_BadLot : mg "BadLot" = some (.ref (He.ga K "BadLot"))
  ec_BadLot : ExcC K (He.ga K "BadLot")
  exm_BadLot_BadNumber : PySem.W.exmOne K (.ref (He.ga K "BadLot")) (.ref (He.ga K "BadNumber")) = some false
  exm_BadLot_BadLot : PySem.W.exmOne K (.ref (He.ga K "BadLot")) (.ref (He.ga K "BadLot")) = some true
  exm_BadLot_TooMany : PySem.W.exmOne K (.ref (He.ga K "BadLot")) (.ref (He.ga K "TooMany")) = some false
  exm_BadLot_ShelfError : PySem.W.exmOne K (.ref (He.ga K "BadLot")) (.ref (He.ga K "ShelfError")) = some true
  ki_BadLot_ValueError : PySem.W.kitOne K (.ref (He.ga K "BadLot")) (.type "ValueError") = some true
  ki_BadLot_BadLot : PySem.W.kitOne K (.ref (He.ga K "BadLot")) (.ref (He.ga K "BadLot")) = some true
  ki_BadLot_BadNumber : PySem.W.kitOne K (.ref (He.ga K "BadLot")) (.ref (He.ga K "BadNumber")) = some false
  ki_BadLot_TooMany : PySem.W.kitOne K (.ref (He.ga K "BadLot")) (.ref (He.ga K "TooMany")) = some false
  x_BadLot : PySem.W.excIn K (He.ga K "BadLot") He.veBase "ValueError.__new__" = true ∧ PySem.W.keepIn K (.ref (He.ga K "BadLot")) = true ∧ PySem.W.subIn K (.ref (He.ga K "BadLot")) (.type "BaseException") = some true ∧ PySem.W.typeIn K (.ref (He.ga K "BadLot")) = some (.type "type")
  g_BadNumber : mg "BadNumber" = some (.ref (He.ga K "BadNumber"))
  xf_BadNumber : XfC K (He.ga K "BadNumber")
  oe_BadNumber : OexC K (He.ga K "BadNumber")
  si_BadNumber : PySem.W.ks_superIn K (He.ga K "BadNumber") (He.ga K "BadNumber") "__init__" = some (some (.builtin "ValueError.__init__")) ∧ PySem.W.subIn K (.ref (He.ga K "BadNumber")) (.type "ValueError") = some true ∧ PySem.W.findIn K (.ref (He.ga K "BadNumber")) "__init__" = some (some (.ref (He.ma K (He.ga K "BadNumber") "__init__"))) ∧ PySem.W.typeIn K (.ref (He.ma K (He.ga K "BadNumber") "__init__")) = some (.type "function")
  nf_BadNumber_what : PySem.W.findIn K (.ref (He.ga K "BadNumber")) "what" = some none
  nf_BadNumber_at : PySem.W.findIn K (.ref (He.ga K "BadNumber")) "at" = some none
  ec_BadNumber : ExcC K (He.ga K "BadNumber")
  exm_BadNumber_BadNumber : PySem.W.exmOne K (.ref (He.ga K "BadNumber")) (.ref (He.ga K "BadNumber")) = some true
  exm_BadNumber_BadLot : PySem.W.exmOne K (.ref (He.ga K "BadNumber")) (.ref (He.ga K "BadLot")) = some false
  exm_BadNumber_TooMany : PySem.W.exmOne K (.ref (He.ga K "BadNumber")) (.ref (He.ga K "TooMany")) = some false
  exm_BadNumber_ShelfError : PySem.W.exmOne K (.ref (He.ga K "BadNumber")) (.ref (He.ga K "ShelfError")) = some true
  ki_BadNumber_ValueError : PySem.W.kitOne K (.ref (He.ga K "BadNumber")) (.type "ValueError") = some true
  ki_BadNumber_BadLot : PySem.W.kitOne K (.ref (He.ga K "BadNumber")) (.ref (He.ga K "BadLot")) = some false
  ki_BadNumber_BadNumber : PySem.W.kitOne K (.ref (He.ga K "BadNumber")) (.ref (He.ga K "BadNumber")) = some true
  ki_BadNumber_TooMany : PySem.W.kitOne K (.ref (He.ga K "BadNumber")) (.ref (He.ga K "TooMany")) = some false
  g_TooMany : mg "TooMany" = some (.ref (He.ga K "TooMany"))
  xf_TooMany : XfC K (He.ga K "TooMany")
  oe_TooMany : OexC K (He.ga K "TooMany")
  si_TooMany : PySem.W.ks_superIn K (He.ga K "TooMany") (He.ga K "TooMany") "__init__" = some (some (.builtin "ValueError.__init__")) ∧ PySem.W.subIn K (.ref (He.ga K "TooMany")) (.type "ValueError") = some true ∧ PySem.W.findIn K (.ref (He.ga K "TooMany")) "__init__" = some (some (.ref (He.ma K (He.ga K "TooMany") "__init__"))) ∧ PySem.W.typeIn K (.ref (He.ma K (He.ga K "TooMany") "__init__")) = some (.type "function")
  nf_TooMany_many : PySem.W.findIn K (.ref (He.ga K "TooMany")) "many" = some none
  nf_TooMany_most : PySem.W.findIn K (.ref (He.ga K "TooMany")) "most" = some none
  ec_TooMany : ExcC K (He.ga K "TooMany")
  exm_TooMany_BadNumber : PySem.W.exmOne K (.ref (He.ga K "TooMany")) (.ref (He.ga K "BadNumber")) = some false
  exm_TooMany_BadLot : PySem.W.exmOne K (.ref (He.ga K "TooMany")) (.ref (He.ga K "BadLot")) = some false
  exm_TooMany_TooMany : PySem.W.exmOne K (.ref (He.ga K "TooMany")) (.ref (He.ga K "TooMany")) = some true
  exm_TooMany_ShelfError : PySem.W.exmOne K (.ref (He.ga K "TooMany")) (.ref (He.ga K "ShelfError")) = some true
  ki_TooMany_ValueError : PySem.W.kitOne K (.ref (He.ga K "TooMany")) (.type "ValueError") = some true
  ki_TooMany_BadLot : PySem.W.kitOne K (.ref (He.ga K "TooMany")) (.ref (He.ga K "BadLot")) = some false
  ki_TooMany_BadNumber : PySem.W.kitOne K (.ref (He.ga K "TooMany")) (.ref (He.ga K "BadNumber")) = some false
  ki_TooMany_TooMany : PySem.W.kitOne K (.ref (He.ga K "TooMany")) (.ref (He.ga K "TooMany")) = some true
  g_Unsure : mg "Unsure" = some (.ref (He.ga K "Unsure"))
  o_Unsure : Z.OwnC K (He.ga K "Unsure")
  mk_Unsure : Mk K (He.ga K "Unsure") (He.ma K (He.ga K "Unsure") "__init__")
  k_Unsure_MOST : ∃ u, Con K (He.ga K "Unsure") "MOST" (.int 24) u
  k_Unsure_MOST_VARIED : ∃ u, Con K (He.ga K "Unsure") "MOST_VARIED" (.int 8) u
  na_Unsure_many : NoAttr K (He.ga K "Unsure") "many"
  na_Unsure_lows : NoAttr K (He.ga K "Unsure") "lows"
  na_Unsure_highs : NoAttr K (He.ga K "Unsure") "highs"
  na_Unsure_aside : NoAttr K (He.ga K "Unsure") "aside"
  me_Unsure_never_less : Meth K (He.ga K "Unsure") "never_less" (He.ma K (He.ga K "Unsure") "never_less")
  third : PySem.W.nsIn K PySem.cStatics "thirdparty.any" = some none
  c_ShelfError : ∃ cd, PySem.W.clsIn K (He.ga K "ShelfError") = some cd
  c_BadLot : ∃ cd, PySem.W.clsIn K (He.ga K "BadLot") = some cd
  c_BadNumber : ∃ cd, PySem.W.clsIn K (He.ga K "BadNumber") = some cd
  mro_BadNumber_BadNumber : PySem.W.mroIn K (He.ga K "BadNumber") (.ref (He.ga K "BadNumber")) = some true
  c_TooMany : ∃ cd, PySem.W.clsIn K (He.ga K "TooMany") = some cd
  mro_TooMany_TooMany : PySem.W.mroIn K (He.ga K "TooMany") (.ref (He.ga K "TooMany")) = some true
  c_Unsure : ∃ cd, PySem.W.clsIn K (He.ga K "Unsure") = some cd
  F_Unsure___init__ : FunD K "__init__" "Unsure.__init__" (defArgs s_Unsure___init__) (defBody s_Unsure___init__) (defScope s_Unsure___init__) [] [] (He.ma K (He.ga K "Unsure") "__init__") (Z.fdOf K (He.ma K (He.ga K "Unsure") "__init__"))
  kb_Unsure___init__ : KBn K (Z.fdOf K (He.ma K (He.ga K "Unsure") "__init__")) ["self", "lows", "highs", "aside"] 3 ["aside"] (fun us ws => us ++ ws) (fun vs zs => vs ++ zs)
  F_Unsure_never_less : FunD K "never_less" "Unsure.never_less" (defArgs s_Unsure_never_less) (defBody s_Unsure_never_less) (defScope s_Unsure_never_less) [] [] (He.ma K (He.ga K "Unsure") "never_less") (Z.fdOf K (He.ma K (He.ga K "Unsure") "never_less"))
  b_Unsure_never_less : Binds K (Z.fdOf K (He.ma K (He.ga K "Unsure") "never_less")) ["self", "first", "second", "prices"] []
  F__law_asked : FunD K "_law_asked" "_law_asked" (defArgs s__law_asked) (defBody s__law_asked) (defScope s__law_asked) [] [] (He.ga K "_law_asked") (Z.fdOf K (He.ga K "_law_asked"))
  b__law_asked : Binds K (Z.fdOf K (He.ga K "_law_asked")) ["_law_unsure", "_law_first", "_law_second", "_law_prices"] []
  F__law_asked_by_base : FunD K "_law_asked_by_base" "_law_asked_by_base" (defArgs s__law_asked_by_base) (defBody s__law_asked_by_base) (defScope s__law_asked_by_base) [] [] (He.ga K "_law_asked_by_base") (Z.fdOf K (He.ga K "_law_asked_by_base"))
  b__law_asked_by_base : Binds K (Z.fdOf K (He.ga K "_law_asked_by_base")) ["_law_unsure", "_law_first", "_law_second", "_law_prices", "_law_word"] []
  F__law_below : FunD K "_law_below" "_law_below" (defArgs s__law_below) (defBody s__law_below) (defScope s__law_below) [] [] (He.ga K "_law_below") (Z.fdOf K (He.ga K "_law_below"))
  b__law_below : Binds K (Z.fdOf K (He.ga K "_law_below")) ["_law_a", "_law_b"] []
  F__law_bounds : FunD K "_law_bounds" "_law_bounds" (defArgs s__law_bounds) (defBody s__law_bounds) (defScope s__law_bounds) [] [] (He.ga K "_law_bounds") (Z.fdOf K (He.ga K "_law_bounds"))
  b__law_bounds : Binds K (Z.fdOf K (He.ga K "_law_bounds")) ["_law_low_cell", "_law_high_cell", "_law_count"] []
  F__law_cell : FunD K "_law_cell" "_law_cell" (defArgs s__law_cell) (defBody s__law_cell) (defScope s__law_cell) [] [] (He.ga K "_law_cell") (Z.fdOf K (He.ga K "_law_cell"))
  b__law_cell : Binds K (Z.fdOf K (He.ga K "_law_cell")) ["_law_script", "_law_place"] []
  F__law_corners : FunD K "_law_corners" "_law_corners" (defArgs s__law_corners) (defBody s__law_corners) (defScope s__law_corners) [] [] (He.ga K "_law_corners") (Z.fdOf K (He.ga K "_law_corners"))
  b__law_corners : Binds K (Z.fdOf K (He.ga K "_law_corners")) ["_law_couples", "_law_varied"] []
  F__law_draws : FunD K "_law_draws" "_law_draws" (defArgs s__law_draws) (defBody s__law_draws) (defScope s__law_draws) [] [] (He.ga K "_law_draws") (Z.fdOf K (He.ga K "_law_draws"))
  b__law_draws : Binds K (Z.fdOf K (He.ga K "_law_draws")) ["_law_cell_here", "_law_sizes"] []
  F__law_is_int : FunD K "_law_is_int" "_law_is_int" (defArgs s__law_is_int) (defBody s__law_is_int) (defScope s__law_is_int) [] [] (He.ga K "_law_is_int") (Z.fdOf K (He.ga K "_law_is_int"))
  b__law_is_int : Binds K (Z.fdOf K (He.ga K "_law_is_int")) ["_law_x"] []
  F__law_no_lot : FunD K "_law_no_lot" "_law_no_lot" (defArgs s__law_no_lot) (defBody s__law_no_lot) (defScope s__law_no_lot) [] [] (He.ga K "_law_no_lot") (Z.fdOf K (He.ga K "_law_no_lot"))
  b__law_no_lot : Binds K (Z.fdOf K (He.ga K "_law_no_lot")) ["_law_lot", "_law_many", "_law_form"] []
  F__law_power : FunD K "_law_power" "_law_power" (defArgs s__law_power) (defBody s__law_power) (defScope s__law_power) [] [] (He.ga K "_law_power") (Z.fdOf K (He.ga K "_law_power"))
  b__law_power : Binds K (Z.fdOf K (He.ga K "_law_power")) ["_law_many"] []
  F__law_refused : FunD K "_law_refused" "_law_refused" (defArgs s__law_refused) (defBody s__law_refused) (defScope s__law_refused) [] [] (He.ga K "_law_refused") (Z.fdOf K (He.ga K "_law_refused"))
  b__law_refused : Binds K (Z.fdOf K (He.ga K "_law_refused")) ["_law_answer", "_law_due"] []
  F__law_refuses : FunD K "_law_refuses" "_law_refuses" (defArgs s__law_refuses) (defBody s__law_refuses) (defScope s__law_refuses) [] [] (He.ga K "_law_refuses") (Z.fdOf K (He.ga K "_law_refuses"))
  b__law_refuses : Binds K (Z.fdOf K (He.ga K "_law_refuses")) ["_law_unsure", "_law_fault", "_law_form", "_law_first", "_law_second", "_law_prices"] []
  F__law_right : FunD K "_law_right" "_law_right" (defArgs s__law_right) (defBody s__law_right) (defScope s__law_right) [] [] (He.ga K "_law_right") (Z.fdOf K (He.ga K "_law_right"))
  b__law_right : Binds K (Z.fdOf K (He.ga K "_law_right")) ["_law_told", "_law_first", "_law_second", "_law_prices", "_law_couples", "_law_points"] []
  F__law_row : FunD K "_law_row" "_law_row" (defArgs s__law_row) (defBody s__law_row) (defScope s__law_row) [] [] (He.ga K "_law_row") (Z.fdOf K (He.ga K "_law_row"))
  b__law_row : Binds K (Z.fdOf K (He.ga K "_law_row")) ["_law_cell_here", "_law_count"] []
  F__law_same_lot : FunD K "_law_same_lot" "_law_same_lot" (defArgs s__law_same_lot) (defBody s__law_same_lot) (defScope s__law_same_lot) [] [] (He.ga K "_law_same_lot") (Z.fdOf K (He.ga K "_law_same_lot"))
  b__law_same_lot : Binds K (Z.fdOf K (He.ga K "_law_same_lot")) ["_law_x", "_law_due"] []
  F__law_shuffled : FunD K "_law_shuffled" "_law_shuffled" (defArgs s__law_shuffled) (defBody s__law_shuffled) (defScope s__law_shuffled) [] [] (He.ga K "_law_shuffled") (Z.fdOf K (He.ga K "_law_shuffled"))
  b__law_shuffled : Binds K (Z.fdOf K (He.ga K "_law_shuffled")) ["_law_places", "_law_things"] []
  F__law_two_lots : FunD K "_law_two_lots" "_law_two_lots" (defArgs s__law_two_lots) (defBody s__law_two_lots) (defScope s__law_two_lots) [] [] (He.ga K "_law_two_lots") (Z.fdOf K (He.ga K "_law_two_lots"))
  b__law_two_lots : Binds K (Z.fdOf K (He.ga K "_law_two_lots")) ["_law_draws_here", "_law_many", "_law_count", "_law_way"] []
  F__law_within : FunD K "_law_within" "_law_within" (defArgs s__law_within) (defBody s__law_within) (defScope s__law_within) [] [] (He.ga K "_law_within") (Z.fdOf K (He.ga K "_law_within"))
  b__law_within : Binds K (Z.fdOf K (He.ga K "_law_within")) ["_law_cell_here", "_law_couples"] []
  F__law_worth : FunD K "_law_worth" "_law_worth" (defArgs s__law_worth) (defBody s__law_worth) (defScope s__law_worth) [] [] (He.ga K "_law_worth") (Z.fdOf K (He.ga K "_law_worth"))
  b__law_worth : Binds K (Z.fdOf K (He.ga K "_law_worth")) ["_law_weights", "_law_apart", "_law_prices", "_law_lot"] []
  F_brought : FunD K "brought" "brought" (defArgs s_brought) (defBody s_brought) (defScope s_brought) [] [] (He.ga K "brought") (Z.fdOf K (He.ga K "brought"))
  b_brought : Binds K (Z.fdOf K (He.ga K "brought")) ["lot", "prices", "weights", "aside"] []
  F_check_lot : FunD K "check_lot" "check_lot" (defArgs s_check_lot) (defBody s_check_lot) (defScope s_check_lot) [] [] (He.ga K "check_lot") (Z.fdOf K (He.ga K "check_lot"))
  b_check_lot : Binds K (Z.fdOf K (He.ga K "check_lot")) ["lot", "many"] []
  F_check_prices : FunD K "check_prices" "check_prices" (defArgs s_check_prices) (defBody s_check_prices) (defScope s_check_prices) [] [] (He.ga K "check_prices") (Z.fdOf K (He.ga K "check_prices"))
  b_check_prices : Binds K (Z.fdOf K (He.ga K "check_prices")) ["prices", "many"] []
  F_law : FunD K "law" "law" (defArgs s_law) (defBody s_law) (defScope s_law) [] [] (He.ga K "law") (Z.fdOf K (He.ga K "law"))
  b_law : Binds K (Z.fdOf K (He.ga K "law")) ["_law_script"] []
  F_BadNumber___init__ : Z.FunS P K "__init__" "BadNumber.__init__" (defArgs s_BadNumber___init__) (defBody s_BadNumber___init__) (defScope s_BadNumber___init__) (He.ga K "BadNumber") (He.ma K (He.ga K "BadNumber") "__init__") (Z.fdOf K (He.ma K (He.ga K "BadNumber") "__init__"))
  b_BadNumber___init__ : Binds K (Z.fdOf K (He.ma K (He.ga K "BadNumber") "__init__")) ["self", "what", "at"] []
  F_TooMany___init__ : Z.FunS P K "__init__" "TooMany.__init__" (defArgs s_TooMany___init__) (defBody s_TooMany___init__) (defScope s_TooMany___init__) (He.ga K "TooMany") (He.ma K (He.ga K "TooMany") "__init__") (Z.fdOf K (He.ma K (He.ga K "TooMany") "__init__"))
  b_TooMany___init__ : Binds K (Z.fdOf K (He.ma K (He.ga K "TooMany") "__init__")) ["self", "many", "most"] []
  p_top : (P.main.scope.names.lookup ("super" : Str)).isSome = false
variable {P : Program} {w : World} {K : PySem.W.Frag} {mg : Str → Option Value} {base : Heap}
def d_Unsure___init__ : He.DefD := ⟨("Unsure", some "__init__"), "__init__", "Unsure.__init__", defArgs s_Unsure___init__, defBody s_Unsure___init__, defScope s_Unsure___init__, [], []⟩
def d_Unsure_never_less : He.DefD := ⟨("Unsure", some "never_less"), "never_less", "Unsure.never_less", defArgs s_Unsure_never_less, defBody s_Unsure_never_less, defScope s_Unsure_never_less, [], []⟩
def d__law_asked : He.DefD := ⟨("_law_asked", none), "_law_asked", "_law_asked", defArgs s__law_asked, defBody s__law_asked, defScope s__law_asked, [], []⟩
def d__law_asked_by_base : He.DefD := ⟨("_law_asked_by_base", none), "_law_asked_by_base", "_law_asked_by_base", defArgs s__law_asked_by_base, defBody s__law_asked_by_base, defScope s__law_asked_by_base, [], []⟩
def d__law_below : He.DefD := ⟨("_law_below", none), "_law_below", "_law_below", defArgs s__law_below, defBody s__law_below, defScope s__law_below, [], []⟩
def d__law_bounds : He.DefD := ⟨("_law_bounds", none), "_law_bounds", "_law_bounds", defArgs s__law_bounds, defBody s__law_bounds, defScope s__law_bounds, [], []⟩
def d__law_cell : He.DefD := ⟨("_law_cell", none), "_law_cell", "_law_cell", defArgs s__law_cell, defBody s__law_cell, defScope s__law_cell, [], []⟩
def d__law_corners : He.DefD := ⟨("_law_corners", none), "_law_corners", "_law_corners", defArgs s__law_corners, defBody s__law_corners, defScope s__law_corners, [], []⟩
def d__law_draws : He.DefD := ⟨("_law_draws", none), "_law_draws", "_law_draws", defArgs s__law_draws, defBody s__law_draws, defScope s__law_draws, [], []⟩
def d__law_is_int : He.DefD := ⟨("_law_is_int", none), "_law_is_int", "_law_is_int", defArgs s__law_is_int, defBody s__law_is_int, defScope s__law_is_int, [], []⟩
def d__law_no_lot : He.DefD := ⟨("_law_no_lot", none), "_law_no_lot", "_law_no_lot", defArgs s__law_no_lot, defBody s__law_no_lot, defScope s__law_no_lot, [], []⟩
def d__law_power : He.DefD := ⟨("_law_power", none), "_law_power", "_law_power", defArgs s__law_power, defBody s__law_power, defScope s__law_power, [], []⟩
def d__law_refused : He.DefD := ⟨("_law_refused", none), "_law_refused", "_law_refused", defArgs s__law_refused, defBody s__law_refused, defScope s__law_refused, [], []⟩
def d__law_refuses : He.DefD := ⟨("_law_refuses", none), "_law_refuses", "_law_refuses", defArgs s__law_refuses, defBody s__law_refuses, defScope s__law_refuses, [], []⟩
def d__law_right : He.DefD := ⟨("_law_right", none), "_law_right", "_law_right", defArgs s__law_right, defBody s__law_right, defScope s__law_right, [], []⟩
def d__law_row : He.DefD := ⟨("_law_row", none), "_law_row", "_law_row", defArgs s__law_row, defBody s__law_row, defScope s__law_row, [], []⟩
def d__law_same_lot : He.DefD := ⟨("_law_same_lot", none), "_law_same_lot", "_law_same_lot", defArgs s__law_same_lot, defBody s__law_same_lot, defScope s__law_same_lot, [], []⟩
def d__law_shuffled : He.DefD := ⟨("_law_shuffled", none), "_law_shuffled", "_law_shuffled", defArgs s__law_shuffled, defBody s__law_shuffled, defScope s__law_shuffled, [], []⟩
def d__law_two_lots : He.DefD := ⟨("_law_two_lots", none), "_law_two_lots", "_law_two_lots", defArgs s__law_two_lots, defBody s__law_two_lots, defScope s__law_two_lots, [], []⟩
def d__law_within : He.DefD := ⟨("_law_within", none), "_law_within", "_law_within", defArgs s__law_within, defBody s__law_within, defScope s__law_within, [], []⟩
def d__law_worth : He.DefD := ⟨("_law_worth", none), "_law_worth", "_law_worth", defArgs s__law_worth, defBody s__law_worth, defScope s__law_worth, [], []⟩
def d_brought : He.DefD := ⟨("brought", none), "brought", "brought", defArgs s_brought, defBody s_brought, defScope s_brought, [], []⟩
def d_check_lot : He.DefD := ⟨("check_lot", none), "check_lot", "check_lot", defArgs s_check_lot, defBody s_check_lot, defScope s_check_lot, [], []⟩
def d_check_prices : He.DefD := ⟨("check_prices", none), "check_prices", "check_prices", defArgs s_check_prices, defBody s_check_prices, defScope s_check_prices, [], []⟩
def d_law : He.DefD := ⟨("law", none), "law", "law", defArgs s_law, defBody s_law, defScope s_law, [], []⟩
def d_BadNumber___init__ : He.DefD := ⟨("BadNumber", some "__init__"), "__init__", "BadNumber.__init__", defArgs s_BadNumber___init__, defBody s_BadNumber___init__, defScope s_BadNumber___init__, [], []⟩
def d_TooMany___init__ : He.DefD := ⟨("TooMany", some "__init__"), "__init__", "TooMany.__init__", defArgs s_TooMany___init__, defBody s_TooMany___init__, defScope s_TooMany___init__, [], []⟩
def fs : List He.DefD := [d_BadNumber___init__, d_TooMany___init__]
def fn : List He.DefD := [d_Unsure___init__, d_Unsure_never_less, d__law_asked, d__law_asked_by_base, d__law_below, d__law_bounds, d__law_cell, d__law_corners, d__law_draws, d__law_is_int, d__law_no_lot, d__law_power, d__law_refused, d__law_refuses, d__law_right, d__law_row, d__law_same_lot, d__law_shuffled, d__law_two_lots, d__law_within, d__law_worth, d_brought, d_check_lot, d_check_prices, d_law]
def fa : List (PySem.W.Frag → Bool) := [(He.Fa.free "ValueError").ok,
  (He.Fa.free "bool").ok,
  (He.Fa.free "enumerate").ok,
  (He.Fa.free "int").ok,
  (He.Fa.free "isinstance").ok,
  (He.Fa.free "len").ok,
  (He.Fa.free "list").ok,
  (He.Fa.free "range").ok,
  (He.Fa.free "str").ok,
  (He.Fa.free "sum").ok,
  (He.Fa.free "super").ok,
  (He.Fa.free "tuple").ok,
  (He.Fa.glo "_law_asked").ok,
  (He.Fa.glo "_law_asked_by_base").ok,
  (He.Fa.glo "_law_below").ok,
  (He.Fa.glo "_law_bounds").ok,
  (He.Fa.glo "_law_cell").ok,
  (He.Fa.glo "_law_corners").ok,
  (He.Fa.glo "_law_draws").ok,
  (He.Fa.glo "_law_is_int").ok,
  (He.Fa.glo "_law_no_lot").ok,
  (He.Fa.glo "_law_power").ok,
  (He.Fa.glo "_law_refused").ok,
  (He.Fa.glo "_law_refuses").ok,
  (He.Fa.glo "_law_right").ok,
  (He.Fa.glo "_law_row").ok,
  (He.Fa.glo "_law_same_lot").ok,
  (He.Fa.glo "_law_shuffled").ok,
  (He.Fa.glo "_law_two_lots").ok,
  (He.Fa.glo "_law_within").ok,
  (He.Fa.glo "_law_worth").ok,
  (He.Fa.glo "brought").ok,
  (He.Fa.glo "check_lot").ok,
  (He.Fa.glo "check_prices").ok,
  (He.Fa.glo "law").ok,
  (He.Fa.glo "ShelfError").ok,
  Z.excB "ShelfError",
  Z.exmB "ShelfError" "BadNumber" false,
  Z.exmB "ShelfError" "BadLot" false,
  Z.exmB "ShelfError" "TooMany" false,
  Z.exmB "ShelfError" "ShelfError" true,
  Z.kitBt "ShelfError" "ValueError" true,
  Z.kitB2 "ShelfError" "BadLot" false,
  Z.kitB2 "ShelfError" "BadNumber" false,
  Z.kitB2 "ShelfError" "TooMany" false,
  (He.Fa.exc "ShelfError").ok,
  (He.Fa.glo "BadLot").ok,
  Z.excB "BadLot",
  Z.exmB "BadLot" "BadNumber" false,
  Z.exmB "BadLot" "BadLot" true,
  Z.exmB "BadLot" "TooMany" false,
  Z.exmB "BadLot" "ShelfError" true,
  Z.kitBt "BadLot" "ValueError" true,
  Z.kitB2 "BadLot" "BadLot" true,
  Z.kitB2 "BadLot" "BadNumber" false,
  Z.kitB2 "BadLot" "TooMany" false,
  (He.Fa.exc "BadLot").ok,
  (He.Fa.glo "BadNumber").ok,
  Z.xfcB "BadNumber",
  Z.oexB "BadNumber",
  Z.supiB "BadNumber",
  Z.nometB "BadNumber" "what",
  Z.nometB "BadNumber" "at",
  Z.excB "BadNumber",
  Z.exmB "BadNumber" "BadNumber" true,
  Z.exmB "BadNumber" "BadLot" false,
  Z.exmB "BadNumber" "TooMany" false,
  Z.exmB "BadNumber" "ShelfError" true,
  Z.kitBt "BadNumber" "ValueError" true,
  Z.kitB2 "BadNumber" "BadLot" false,
  Z.kitB2 "BadNumber" "BadNumber" true,
  Z.kitB2 "BadNumber" "TooMany" false,
  (He.Fa.glo "TooMany").ok,
  Z.xfcB "TooMany",
  Z.oexB "TooMany",
  Z.supiB "TooMany",
  Z.nometB "TooMany" "many",
  Z.nometB "TooMany" "most",
  Z.excB "TooMany",
  Z.exmB "TooMany" "BadNumber" false,
  Z.exmB "TooMany" "BadLot" false,
  Z.exmB "TooMany" "TooMany" true,
  Z.exmB "TooMany" "ShelfError" true,
  Z.kitBt "TooMany" "ValueError" true,
  Z.kitB2 "TooMany" "BadLot" false,
  Z.kitB2 "TooMany" "BadNumber" false,
  Z.kitB2 "TooMany" "TooMany" true,
  (He.Fa.glo "Unsure").ok,
  (fun K => Z.ownB K "Unsure"),
  Z.mkrB "Unsure" "Unsure",
  Z.conIB "Unsure" "MOST" 24,
  Z.conIB "Unsure" "MOST_VARIED" 8,
  (He.Fa.noat "Unsure" "many").ok,
  (He.Fa.noat "Unsure" "lows").ok,
  (He.Fa.noat "Unsure" "highs").ok,
  (He.Fa.noat "Unsure" "aside").ok,
  Z.methB "Unsure" "never_less" "Unsure",
  Z.thirdB,
  Z.clsB "ShelfError",
  Z.clsB "BadLot",
  Z.clsB "BadNumber",
  Z.mroB "BadNumber" "BadNumber",
  Z.clsB "TooMany",
  Z.mroB "TooMany" "TooMany",
  Z.clsB "Unsure",
  Z.supB d_BadNumber___init__ "BadNumber" PySem.Challenge.pw_dearestshelf_k67_whole_never_less.main.file,
  Z.supB d_TooMany___init__ "TooMany" PySem.Challenge.pw_dearestshelf_k67_whole_never_less.main.file]
abbrev Rw : PySem.W.OpenRow := PySem.W.OpenLaw.row PySem.Challenge.rw_dearestshelf_k67_whole_never_less
abbrev hk : PySem.W.Hook := Z.hookY 5 fa fn fs
def ob (s : PySem.W.SharedT) : He.AlD := Z.obsY 5 fa fn fs (HandSHeadRun.getT s)
theorem ob_eq (s : PySem.W.SharedT) : ob s = hk.obs s.abs := Z.obsY_eq (HandSHeadRun.getT_eq s)
theorem run (w : World) : HandSHeadRun.RunEq Rw (PySem.W.view Rw.prog [32]) hk ob 20000 ((["_wall", "ShelfError", "BadLot", "BadNumber", "TooMany", "check_lot", "check_prices", "brought", "Unsure", "_law_cell", "_law_draws", "_law_row", "_law_power", "_law_shuffled", "_law_is_int", "_law_refused", "_law_bounds", "_law_within", "_law_worth", "_law_below", "_law_no_lot", "_law_asked", "_law_asked_by_base", "_law_refuses", "_law_two_lots"] : List Str) ++ (["_law_corners", "_law_right", "_law_same_lot"] : List Str)) w := by
  intro os
  kernel_rfl
theorem tx {K : PySem.W.Frag} {h : Heap} {mg : Str → Option Value} (X : K.In h) (G : h.Ns mainGlobals mg) (c : Z.SaysY fa fn fs K) : Tx PySem.Challenge.pw_dearestshelf_k67_whole_never_less K mg := by
  have F_Unsure___init__ := Z.fd_of (c.d.def_ 0 (d := d_Unsure___init__) rfl)
  have F_Unsure_never_less := Z.fd_of (c.d.def_ 1 (d := d_Unsure_never_less) rfl)
  have F__law_asked := Z.fd_of (c.d.def_ 2 (d := d__law_asked) rfl)
  have F__law_asked_by_base := Z.fd_of (c.d.def_ 3 (d := d__law_asked_by_base) rfl)
  have F__law_below := Z.fd_of (c.d.def_ 4 (d := d__law_below) rfl)
  have F__law_bounds := Z.fd_of (c.d.def_ 5 (d := d__law_bounds) rfl)
  have F__law_cell := Z.fd_of (c.d.def_ 6 (d := d__law_cell) rfl)
  have F__law_corners := Z.fd_of (c.d.def_ 7 (d := d__law_corners) rfl)
  have F__law_draws := Z.fd_of (c.d.def_ 8 (d := d__law_draws) rfl)
  have F__law_is_int := Z.fd_of (c.d.def_ 9 (d := d__law_is_int) rfl)
  have F__law_no_lot := Z.fd_of (c.d.def_ 10 (d := d__law_no_lot) rfl)
  have F__law_power := Z.fd_of (c.d.def_ 11 (d := d__law_power) rfl)
  have F__law_refused := Z.fd_of (c.d.def_ 12 (d := d__law_refused) rfl)
  have F__law_refuses := Z.fd_of (c.d.def_ 13 (d := d__law_refuses) rfl)
  have F__law_right := Z.fd_of (c.d.def_ 14 (d := d__law_right) rfl)
  have F__law_row := Z.fd_of (c.d.def_ 15 (d := d__law_row) rfl)
  have F__law_same_lot := Z.fd_of (c.d.def_ 16 (d := d__law_same_lot) rfl)
  have F__law_shuffled := Z.fd_of (c.d.def_ 17 (d := d__law_shuffled) rfl)
  have F__law_two_lots := Z.fd_of (c.d.def_ 18 (d := d__law_two_lots) rfl)
  have F__law_within := Z.fd_of (c.d.def_ 19 (d := d__law_within) rfl)
  have F__law_worth := Z.fd_of (c.d.def_ 20 (d := d__law_worth) rfl)
  have F_brought := Z.fd_of (c.d.def_ 21 (d := d_brought) rfl)
  have F_check_lot := Z.fd_of (c.d.def_ 22 (d := d_check_lot) rfl)
  have F_check_prices := Z.fd_of (c.d.def_ 23 (d := d_check_prices) rfl)
  have F_law := Z.fd_of (c.d.def_ 24 (d := d_law) rfl)
  have F_BadNumber___init__ := Z.fdOf_S (P := PySem.Challenge.pw_dearestshelf_k67_whole_never_less) (Z.supB_ok (c.sup 0 rfl) (c.fact 105 rfl))
  have F_TooMany___init__ := Z.fdOf_S (P := PySem.Challenge.pw_dearestshelf_k67_whole_never_less) (Z.supB_ok (c.sup 1 rfl) (c.fact 106 rfl))
  exact {
    n_ValueError := He.free_ok X G (c.fact 0 rfl)
    n_bool := He.free_ok X G (c.fact 1 rfl)
    n_enumerate := He.free_ok X G (c.fact 2 rfl)
    n_int := He.free_ok X G (c.fact 3 rfl)
    n_isinstance := He.free_ok X G (c.fact 4 rfl)
    n_len := He.free_ok X G (c.fact 5 rfl)
    n_list := He.free_ok X G (c.fact 6 rfl)
    n_range := He.free_ok X G (c.fact 7 rfl)
    n_str := He.free_ok X G (c.fact 8 rfl)
    n_sum := He.free_ok X G (c.fact 9 rfl)
    n_super := He.free_ok X G (c.fact 10 rfl)
    n_tuple := He.free_ok X G (c.fact 11 rfl)
    g__law_asked := He.glo_ok X G (c.fact 12 rfl)
    g__law_asked_by_base := He.glo_ok X G (c.fact 13 rfl)
    g__law_below := He.glo_ok X G (c.fact 14 rfl)
    g__law_bounds := He.glo_ok X G (c.fact 15 rfl)
    g__law_cell := He.glo_ok X G (c.fact 16 rfl)
    g__law_corners := He.glo_ok X G (c.fact 17 rfl)
    g__law_draws := He.glo_ok X G (c.fact 18 rfl)
    g__law_is_int := He.glo_ok X G (c.fact 19 rfl)
    g__law_no_lot := He.glo_ok X G (c.fact 20 rfl)
    g__law_power := He.glo_ok X G (c.fact 21 rfl)
    g__law_refused := He.glo_ok X G (c.fact 22 rfl)
    g__law_refuses := He.glo_ok X G (c.fact 23 rfl)
    g__law_right := He.glo_ok X G (c.fact 24 rfl)
    g__law_row := He.glo_ok X G (c.fact 25 rfl)
    g__law_same_lot := He.glo_ok X G (c.fact 26 rfl)
    g__law_shuffled := He.glo_ok X G (c.fact 27 rfl)
    g__law_two_lots := He.glo_ok X G (c.fact 28 rfl)
    g__law_within := He.glo_ok X G (c.fact 29 rfl)
    g__law_worth := He.glo_ok X G (c.fact 30 rfl)
    g_brought := He.glo_ok X G (c.fact 31 rfl)
    g_check_lot := He.glo_ok X G (c.fact 32 rfl)
    g_check_prices := He.glo_ok X G (c.fact 33 rfl)
    g_law := He.glo_ok X G (c.fact 34 rfl)
    g_ShelfError := He.glo_ok X G (c.fact 35 rfl)
    ec_ShelfError := Z.excB_ok (c.fact 36 rfl)
    exm_ShelfError_BadNumber := Z.exmB_ok (c.fact 37 rfl)
    exm_ShelfError_BadLot := Z.exmB_ok (c.fact 38 rfl)
    exm_ShelfError_TooMany := Z.exmB_ok (c.fact 39 rfl)
    exm_ShelfError_ShelfError := Z.exmB_ok (c.fact 40 rfl)
    ki_ShelfError_ValueError := Z.kitBt_ok (c.fact 41 rfl)
    ki_ShelfError_BadLot := Z.kitB2_ok (c.fact 42 rfl)
    ki_ShelfError_BadNumber := Z.kitB2_ok (c.fact 43 rfl)
    ki_ShelfError_TooMany := Z.kitB2_ok (c.fact 44 rfl)
    x_ShelfError := He.exc_ok (c.fact 45 rfl)
    g_BadLot := He.glo_ok X G (c.fact 46 rfl)
    ec_BadLot := Z.excB_ok (c.fact 47 rfl)
    exm_BadLot_BadNumber := Z.exmB_ok (c.fact 48 rfl)
    exm_BadLot_BadLot := Z.exmB_ok (c.fact 49 rfl)
    exm_BadLot_TooMany := Z.exmB_ok (c.fact 50 rfl)
    exm_BadLot_ShelfError := Z.exmB_ok (c.fact 51 rfl)
    ki_BadLot_ValueError := Z.kitBt_ok (c.fact 52 rfl)
    ki_BadLot_BadLot := Z.kitB2_ok (c.fact 53 rfl)
    ki_BadLot_BadNumber := Z.kitB2_ok (c.fact 54 rfl)
    ki_BadLot_TooMany := Z.kitB2_ok (c.fact 55 rfl)
    x_BadLot := He.exc_ok (c.fact 56 rfl)
    g_BadNumber := He.glo_ok X G (c.fact 57 rfl)
    xf_BadNumber := Z.xfcB_ok (c.fact 58 rfl)
    oe_BadNumber := Z.oexB_ok (c.fact 59 rfl)
    si_BadNumber := Z.supiB_ok (c.fact 60 rfl)
    nf_BadNumber_what := Z.nomet_ok (c.fact 61 rfl)
    nf_BadNumber_at := Z.nomet_ok (c.fact 62 rfl)
    ec_BadNumber := Z.excB_ok (c.fact 63 rfl)
    exm_BadNumber_BadNumber := Z.exmB_ok (c.fact 64 rfl)
    exm_BadNumber_BadLot := Z.exmB_ok (c.fact 65 rfl)
    exm_BadNumber_TooMany := Z.exmB_ok (c.fact 66 rfl)
    exm_BadNumber_ShelfError := Z.exmB_ok (c.fact 67 rfl)
    ki_BadNumber_ValueError := Z.kitBt_ok (c.fact 68 rfl)
    ki_BadNumber_BadLot := Z.kitB2_ok (c.fact 69 rfl)
    ki_BadNumber_BadNumber := Z.kitB2_ok (c.fact 70 rfl)
    ki_BadNumber_TooMany := Z.kitB2_ok (c.fact 71 rfl)
    g_TooMany := He.glo_ok X G (c.fact 72 rfl)
    xf_TooMany := Z.xfcB_ok (c.fact 73 rfl)
    oe_TooMany := Z.oexB_ok (c.fact 74 rfl)
    si_TooMany := Z.supiB_ok (c.fact 75 rfl)
    nf_TooMany_many := Z.nomet_ok (c.fact 76 rfl)
    nf_TooMany_most := Z.nomet_ok (c.fact 77 rfl)
    ec_TooMany := Z.excB_ok (c.fact 78 rfl)
    exm_TooMany_BadNumber := Z.exmB_ok (c.fact 79 rfl)
    exm_TooMany_BadLot := Z.exmB_ok (c.fact 80 rfl)
    exm_TooMany_TooMany := Z.exmB_ok (c.fact 81 rfl)
    exm_TooMany_ShelfError := Z.exmB_ok (c.fact 82 rfl)
    ki_TooMany_ValueError := Z.kitBt_ok (c.fact 83 rfl)
    ki_TooMany_BadLot := Z.kitB2_ok (c.fact 84 rfl)
    ki_TooMany_BadNumber := Z.kitB2_ok (c.fact 85 rfl)
    ki_TooMany_TooMany := Z.kitB2_ok (c.fact 86 rfl)
    g_Unsure := He.glo_ok X G (c.fact 87 rfl)
    o_Unsure := Z.ownB_ok (c.fact 88 rfl)
    mk_Unsure := Z.mkrB_ok (c.fact 89 rfl)
    k_Unsure_MOST := (Z.conIB_ok (c.fact 90 rfl) (by decide +kernel))
    k_Unsure_MOST_VARIED := (Z.conIB_ok (c.fact 91 rfl) (by decide +kernel))
    na_Unsure_many := He.noat_ok (c.fact 92 rfl)
    na_Unsure_lows := He.noat_ok (c.fact 93 rfl)
    na_Unsure_highs := He.noat_ok (c.fact 94 rfl)
    na_Unsure_aside := He.noat_ok (c.fact 95 rfl)
    me_Unsure_never_less := Z.methB_ok (c.fact 96 rfl)
    third := Z.thirdB_ok (c.fact 97 rfl)
    c_ShelfError := Z.clsB_ok (c.fact 98 rfl)
    c_BadLot := Z.clsB_ok (c.fact 99 rfl)
    c_BadNumber := Z.clsB_ok (c.fact 100 rfl)
    mro_BadNumber_BadNumber := Z.mroB_ok (c.fact 101 rfl)
    c_TooMany := Z.clsB_ok (c.fact 102 rfl)
    mro_TooMany_TooMany := Z.mroB_ok (c.fact 103 rfl)
    c_Unsure := Z.clsB_ok (c.fact 104 rfl)
    F_Unsure___init__ := F_Unsure___init__
    F_Unsure_never_less := F_Unsure_never_less
    F__law_asked := F__law_asked
    F__law_asked_by_base := F__law_asked_by_base
    F__law_below := F__law_below
    F__law_bounds := F__law_bounds
    F__law_cell := F__law_cell
    F__law_corners := F__law_corners
    F__law_draws := F__law_draws
    F__law_is_int := F__law_is_int
    F__law_no_lot := F__law_no_lot
    F__law_power := F__law_power
    F__law_refused := F__law_refused
    F__law_refuses := F__law_refuses
    F__law_right := F__law_right
    F__law_row := F__law_row
    F__law_same_lot := F__law_same_lot
    F__law_shuffled := F__law_shuffled
    F__law_two_lots := F__law_two_lots
    F__law_within := F__law_within
    F__law_worth := F__law_worth
    F_brought := F_brought
    F_check_lot := F_check_lot
    F_check_prices := F_check_prices
    F_law := F_law
    F_BadNumber___init__ := F_BadNumber___init__
    F_TooMany___init__ := F_TooMany___init__
    p_top := by kernel_rfl
    kb_Unsure___init__ := Z.kb_of F_Unsure___init__ fun _ _ _ _ _ _ us ws hl hk => match us, hl, ws, hk with | [_, _, _], _, [_], _ => rfl
    b_Unsure_never_less := F_Unsure_never_less.bindsN fun _ _ _ _ _ _ us hl => match us, hl with | [_, _, _, _], _ => rfl
    b__law_asked := F__law_asked.bindsN fun _ _ _ _ _ _ us hl => match us, hl with | [_, _, _, _], _ => rfl
    b__law_asked_by_base := F__law_asked_by_base.bindsN fun _ _ _ _ _ _ us hl => match us, hl with | [_, _, _, _, _], _ => rfl
    b__law_below := F__law_below.bindsN fun _ _ _ _ _ _ us hl => match us, hl with | [_, _], _ => rfl
    b__law_bounds := F__law_bounds.bindsN fun _ _ _ _ _ _ us hl => match us, hl with | [_, _, _], _ => rfl
    b__law_cell := F__law_cell.bindsN fun _ _ _ _ _ _ us hl => match us, hl with | [_, _], _ => rfl
    b__law_corners := F__law_corners.bindsN fun _ _ _ _ _ _ us hl => match us, hl with | [_, _], _ => rfl
    b__law_draws := F__law_draws.bindsN fun _ _ _ _ _ _ us hl => match us, hl with | [_, _], _ => rfl
    b__law_is_int := F__law_is_int.bindsN fun _ _ _ _ _ _ us hl => match us, hl with | [_], _ => rfl
    b__law_no_lot := F__law_no_lot.bindsN fun _ _ _ _ _ _ us hl => match us, hl with | [_, _, _], _ => rfl
    b__law_power := F__law_power.bindsN fun _ _ _ _ _ _ us hl => match us, hl with | [_], _ => rfl
    b__law_refused := F__law_refused.bindsN fun _ _ _ _ _ _ us hl => match us, hl with | [_, _], _ => rfl
    b__law_refuses := F__law_refuses.bindsN fun _ _ _ _ _ _ us hl => match us, hl with | [_, _, _, _, _, _], _ => rfl
    b__law_right := F__law_right.bindsN fun _ _ _ _ _ _ us hl => match us, hl with | [_, _, _, _, _, _], _ => rfl
    b__law_row := F__law_row.bindsN fun _ _ _ _ _ _ us hl => match us, hl with | [_, _], _ => rfl
    b__law_same_lot := F__law_same_lot.bindsN fun _ _ _ _ _ _ us hl => match us, hl with | [_, _], _ => rfl
    b__law_shuffled := F__law_shuffled.bindsN fun _ _ _ _ _ _ us hl => match us, hl with | [_, _], _ => rfl
    b__law_two_lots := F__law_two_lots.bindsN fun _ _ _ _ _ _ us hl => match us, hl with | [_, _, _, _], _ => rfl
    b__law_within := F__law_within.bindsN fun _ _ _ _ _ _ us hl => match us, hl with | [_, _], _ => rfl
    b__law_worth := F__law_worth.bindsN fun _ _ _ _ _ _ us hl => match us, hl with | [_, _, _, _], _ => rfl
    b_brought := F_brought.bindsN fun _ _ _ _ _ _ us hl => match us, hl with | [_, _, _, _], _ => rfl
    b_check_lot := F_check_lot.bindsN fun _ _ _ _ _ _ us hl => match us, hl with | [_, _], _ => rfl
    b_check_prices := F_check_prices.bindsN fun _ _ _ _ _ _ us hl => match us, hl with | [_, _], _ => rfl
    b_law := F_law.bindsN fun _ _ _ _ _ _ us hl => match us, hl with | [_], _ => rfl
    b_BadNumber___init__ := Z.FunS.binds F_BadNumber___init__ fun _ _ _ _ _ _ us hl => match us, hl with | [_, _, _], _ => rfl
    b_TooMany___init__ := Z.FunS.binds F_TooMany___init__ fun _ _ _ _ _ _ us hl => match us, hl with | [_, _, _], _ => rfl }
def sp_law0 (K : PySem.W.Frag) : Sp := fun vs H Q _ => ∃ (a : Addr) (ns : List Int), vs = [.ref a] ∧ SqL K H a (ns.map V.int) ∧ ∀ H', Q (.bl true) H'
end R
section
open PySem PySem.W PySem.Calls PyProof.Rows
set_option maxRecDepth 100000 in
set_option maxHeartbeats 0 in
theorem R.fin (ok : ∀ {w : World} {K : PySem.W.Frag} {mg : PySem.Str → Option Value} {base : Heap}, R.Tx PySem.Challenge.pw_dearestshelf_k67_whole_never_less K mg → L2.FnOk PySem.Challenge.pw_dearestshelf_k67_whole_never_less w K mg base L2.CX0 8 (He.ga K "law") (Z.fdOf K (He.ga K "law")) ["_law_script"] (R.sp_law0 K)) : PySem.Challenge.rw_dearestshelf_k67_whole_never_less.Holds := by
  w_on; o_law
  refine HandSHeadRun.head_any (r := OpenLaw.row PySem.Challenge.rw_dearestshelf_k67_whole_never_less) (q := view (OpenLaw.row PySem.Challenge.rw_dearestshelf_k67_whole_never_less).prog [32]) (H := R.hk) (ob := R.ob) (M := 20000) (loose := ((["_wall", "ShelfError", "BadLot", "BadNumber", "TooMany", "check_lot", "check_prices", "brought", "Unsure", "_law_cell", "_law_draws", "_law_row", "_law_power", "_law_shuffled", "_law_is_int", "_law_refused", "_law_bounds", "_law_within", "_law_worth", "_law_below", "_law_no_lot", "_law_asked", "_law_asked_by_base", "_law_refuses", "_law_two_lots"] : List Str) ++ (["_law_corners", "_law_right", "_law_same_lot"] : List Str))) (d := HandSHeadRun.topDef (OpenLaw.row PySem.Challenge.rw_dearestshelf_k67_whole_never_less).prog 32) (kwd := []) R.ob_eq
    (by kernel_rfl) (fun s => by kernel_rfl) R.run (by kernel_rfl) (by kernel_rfl) (by kernel_rfl) (by rfl) (by first | assumption | decide +kernel) (by decide +kernel) ⟨rfl, rfl, rfl, rfl, rfl, by decide +kernel⟩ ?hw ?hc
  case hw => w_witness2
  case hc =>
    refine L2.walk_ofE (l := PySem.Challenge.rw_dearestshelf_k67_whole_never_less) (n := 63) (k := 8) (x := "_law_script") (CX := L2.CX0) rfl (by decide) (by kernel_rfl) ⟨rfl, by decide, by decide⟩ ?F (fun _ _ _ _ z => z)
    intro w mg fa h Y G hmg0
    obtain ⟨K, KX, c⟩ := Y
    have hmg : mg ("law" : PySem.Str) = some (.ref fa) := by
      have e : (HandSHeadRun.topDef (OpenLaw.row PySem.Challenge.rw_dearestshelf_k67_whole_never_less).prog 32).name = ("law" : PySem.Str) := by kernel_rfl
      rw [← e]
      exact hmg0
    have T := R.tx KX G c
    have e := hmg.symm.trans T.g_law
    cases e
    have b := L2.FunD.bindsA (ps := ["_law_script"]) T.F_law fun _ _ _ _ _ _ us hl => match us, hl with | [_], _ => rfl
    exact ⟨K, _, R.sp_law0 K, KX, fun s v => b s [v] rfl, fun H a ns hl _ hS => ⟨a, ns, rfl, hS, fun _ => rfl⟩, fun base _ _ => ok T⟩
end
namespace R
open PySem L2 Z
variable {P : Program} {w : World} {K : PySem.W.Frag} {mg : Str → Option Value} {base : Heap}
--lib
/-! ### a Ratio stands for a Rat -/
def rF (t b : Int) : List (Str × V) := [("top", .int t), ("bottom", .int b)]
theorem rF_top (t b : Int) : (rF t b).lookup ("top" : Str) = some (.int t) := rfl
theorem rF_bottom (t b : Int) : (rF t b).lookup ("bottom" : Str) = some (.int b) := by
  have h : (("bottom" : Str) == ("top" : Str)) = false := by decide +kernel
  simp only [rF, List.lookup, h]
  rfl
theorem rF_put (t b : Int) : putF "bottom" (.int b) (putF "top" (.int t) []) = rF t b := by
  have h : ¬ (("top" : Str) = ("bottom" : Str)) := by decide +kernel
  show (if ("top" : Str) = "bottom" then _ else _) = _
  rw [if_neg h]
  rfl
theorem rF_no (t b : Int) {m : Str} (h1 : (m == ("top" : Str)) = false) (h2 : (m == ("bottom" : Str)) = false) : (rF t b).lookup m = none := by
  simp only [rF, List.lookup, h1, h2]
/-- numbers of less than n bits -/
def Sz (q : Rat) (n : Nat) : Prop := q.num.natAbs < 2 ^ n ∧ q.den < 2 ^ n
theorem Sz.mono {q : Rat} {n m : Nat} (h : Sz q n) (hm : n ≤ m) : Sz q m := ⟨Nat.lt_of_lt_of_le h.1 (Nat.pow_le_pow_right (by decide) hm), Nat.lt_of_lt_of_le h.2 (Nat.pow_le_pow_right (by decide) hm)⟩
theorem Sz.den {q : Rat} {n : Nat} (h : Sz q n) : ((q.den : Int)).natAbs < 2 ^ n := by rw [Int.natAbs_natCast]; exact h.2
theorem Sz.num {q : Rat} {n : Nat} (h : Sz q n) : q.num.natAbs < 2 ^ n := h.1
/-- the Ratio of q stands at a, its numbers have less than n bits -/
structure RN (C : Addr) (H : Hp) (a : Addr) (q : Rat) (n : Nat) : Prop where
  at_ : ∃ dx, At H a (.ins C dx (rF q.num q.den))
  sz : Sz q n
  le : n ≤ 13400
theorem RN.ex {C a : Addr} {H H' : Hp} {q : Rat} {n : Nat} (h : RN C H a q n) (e : Ex H H') : RN C H' a q n := ⟨⟨h.at_.choose, e.get h.at_.choose_spec⟩, h.sz, h.le⟩
theorem RN.nl {C a : Addr} {H H' : Hp} {q : Rat} {n : Nat} (h : RN C H a q n) (e : Nl H H') : RN C H' a q n := ⟨⟨h.at_.choose, e.get (fun l z => by cases z) h.at_.choose_spec⟩, h.sz, h.le⟩
theorem rnE {C a : Addr} {H H' : Hp} {q : Rat} {n : Nat} (h : RN C H a q n) (e : Exs H H') : RN C H' a q n := h.ex e.ex
theorem rnN {C a : Addr} {H H' : Hp} {q : Rat} {n : Nat} (h : RN C H a q n) (e : Nls H H') : RN C H' a q n := h.nl e.nl
theorem RN.eq {C a : Addr} {H : Hp} {q r : Rat} {n m : Nat} (h : RN C H a q n) (e : q = r) (hm : n ≤ m) (h9 : m ≤ 13400) : RN C H a r m := ⟨e ▸ h.at_, e ▸ h.sz.mono hm, h9⟩
/-- an int or a Ratio -/
inductive RZ (C : Addr) (H : Hp) : V → Rat → Nat → Prop where
  | int {i : Int} {n : Nat} (h : i.natAbs < 2 ^ n) : RZ C H (.int i) (i : Rat) n
  | rat {a : Addr} {q : Rat} {n : Nat} (h : RN C H a q n) : RZ C H (.ref a) q n
theorem RZ.ex {C : Addr} {H H' : Hp} {v : V} {q : Rat} {n : Nat} (h : RZ C H v q n) (e : Ex H H') : RZ C H' v q n := by
  cases h with
  | int h => exact .int h
  | rat h => exact .rat (h.ex e)
/-- what __init__ reckons -/
theorem div_num {t b : Int} (hb : 0 < b) : (Rat.divInt t b).num = t / ((Nat.gcd t.natAbs b.natAbs : Nat) : Int) := by
  rw [Rat.num_divInt, Int.sign_eq_one_of_pos hb, Int.one_mul, Int.gcd_comm]; rfl
theorem div_den {t b : Int} (hb : 0 < b) : ((Rat.divInt t b).den : Int) = b / ((Nat.gcd t.natAbs b.natAbs : Nat) : Int) := by
  rw [Rat.den_divInt, if_neg (by omega), Int.gcd_comm, Int.natCast_ediv, Int.natAbs_of_nonneg (by omega)]; rfl
theorem sz_div {t b : Int} {n : Nat} (hb : b ≠ 0) (h1 : t.natAbs < 2 ^ n) (h2 : b.natAbs < 2 ^ n) : Sz (Rat.divInt t b) n := by
  constructor
  · rw [Rat.num_divInt]
    refine Nat.lt_of_le_of_lt ?_ h1
    refine Nat.le_trans (Int.natAbs_ediv_le_natAbs _ _) ?_
    rw [Int.natAbs_mul, Int.natAbs_sign_of_ne_zero hb]
    omega
  · rw [Rat.den_divInt, if_neg hb]
    exact Nat.lt_of_le_of_lt (Nat.div_le_self _ _) h2
theorem rat_eq (q : Rat) : q = Rat.divInt q.num q.den := (Rat.num_divInt_den q).symm
theorem div1 (n : Int) : (n : Rat) = Rat.divInt n 1 := by
  apply Rat.ext
  · rw [Rat.num_divInt]; simp
  · rw [Rat.den_divInt]; simp
theorem sz_int {i : Int} {n : Nat} (h : i.natAbs < 2 ^ n) : Sz (i : Rat) (n + 1) := by
  rw [div1]
  exact sz_div (by decide) (bt_mono h (by omega)) (by rw [Nat.pow_succ]; have := Nat.pow_pos (n := n) (show 0 < 2 by decide); show 1 < _; omega)
theorem den0 (q : Rat) : (q.den : Int) ≠ 0 := by have := q.den_pos; omega
theorem den1 (q : Rat) : (0 : Int) < q.den := by have := q.den_pos; omega
/-- sums, products, as __init__ is called for them -/
theorem add_int (q : Rat) (n : Int) : q + (n : Rat) = Rat.divInt (q.num + n * q.den) q.den := by
  conv => lhs; rw [div1 n, rat_eq q]
  rw [Rat.divInt_add_divInt _ _ (den0 q) (by decide), Int.mul_one, Int.mul_one]
theorem sub_int (q : Rat) (n : Int) : q - (n : Rat) = Rat.divInt (q.num - n * q.den) q.den := by
  conv => lhs; rw [div1 n, rat_eq q]
  rw [Rat.divInt_sub_divInt _ _ (den0 q) (by decide), Int.mul_one, Int.mul_one]
theorem mul_int' (q : Rat) (n : Int) : q * (n : Rat) = Rat.divInt (q.num * n) q.den := by
  conv => lhs; rw [div1 n, rat_eq q]
  rw [Rat.divInt_mul_divInt, Int.mul_one]
theorem add_rat (q r : Rat) : q + r = Rat.divInt (q.num * r.den + r.num * q.den) (q.den * r.den) := by
  conv => lhs; rw [rat_eq q, rat_eq r]
  rw [Rat.divInt_add_divInt _ _ (den0 q) (den0 r)]
theorem sub_rat (q r : Rat) : q - r = Rat.divInt (q.num * r.den - r.num * q.den) (q.den * r.den) := by
  conv => lhs; rw [rat_eq q, rat_eq r]
  rw [Rat.divInt_sub_divInt _ _ (den0 q) (den0 r)]
theorem mul_rat (q r : Rat) : q * r = Rat.divInt (q.num * r.num) (q.den * r.den) := by
  conv => lhs; rw [rat_eq q, rat_eq r]
  rw [Rat.divInt_mul_divInt]
theorem up9 {a : Int} {n : Nat} (h : a.natAbs < 2 ^ n) (hn : n ≤ 13400) : a.natAbs < 2 ^ 13400 := bt_mono h hn
theorem num0 {q : Rat} : q.num = 0 ↔ q = 0 := by
  constructor
  · intro h
    rw [rat_eq q, h]
    exact Rat.zero_divInt _
  · intro h; rw [h]; rfl
/-- quotients -/
theorem div_int (q : Rat) {n : Int} (h : n ≠ 0) : q / (n : Rat) = Rat.divInt q.num (q.den * n) := by
  conv => lhs; rw [div1 n, rat_eq q]
  rw [Rat.div_def, Rat.inv_divInt, Rat.divInt_mul_divInt, Int.mul_one]
theorem div_rat (q r : Rat) : q / r = Rat.divInt (q.num * r.den) (q.den * r.num) := by
  conv => lhs; rw [rat_eq q, rat_eq r]
  rw [Rat.div_def, Rat.inv_divInt, Rat.divInt_mul_divInt]
/-- order by whole numbers -/
theorem lt_rat (q r : Rat) : q < r ↔ q.num * r.den < r.num * q.den := Rat.lt_iff q r
theorem le_rat (q r : Rat) : q ≤ r ↔ q.num * r.den ≤ r.num * q.den := Rat.le_iff q r
theorem lt_int (q : Rat) (n : Int) : q < (n : Rat) ↔ q.num < n * q.den := by rw [lt_rat]; simp
theorem le_int (q : Rat) (n : Int) : q ≤ (n : Rat) ↔ q.num ≤ n * q.den := by rw [le_rat]; simp
theorem int_lt (q : Rat) (n : Int) : (n : Rat) < q ↔ n * q.den < q.num := by rw [lt_rat]; simp
theorem int_le (q : Rat) (n : Int) : (n : Rat) ≤ q ↔ n * q.den ≤ q.num := by rw [le_rat]; simp
theorem eq_rat (q r : Rat) : q = r ↔ (q.num = r.num ∧ (q.den : Int) = r.den) := by
  constructor
  · rintro rfl; exact ⟨rfl, rfl⟩
  · rintro ⟨h1, h2⟩
    exact Rat.ext h1 (by omega)
/-- a Ratio's fields, behind its __init__ -/
theorem mk_rat {C p dx : Addr} {H H2 H' : Hp} {q : Rat} {n : Nat} (nw : New C H p dx H2) (h1 : ∀ c o, c ≠ p → At H2 c o → At H' c o) (h2 : At H' p (.ins C dx (rF q.num q.den))) (hs : Sz q n) (hn : n ≤ 13400) : Ex H H' ∧ RN C H' p q n :=
  ⟨⟨fun {a} {o} e => h1 a o (e.ne nw.new) (nw.ex.get e)⟩, ⟨dx, h2⟩, hs, hn⟩
theorem floor_nd (q : Rat) : q.floor = q.num / q.den := by
  unfold Rat.floor
  split
  · rename_i h; rw [h]; simp
  · rfl
theorem le_divI {f t b : Int} (hb : 0 < b) : (f : Rat) ≤ Rat.divInt t b ↔ f * b ≤ t := by
  have h0 : (0 : Rat) < (b : Rat) := by exact_mod_cast hb
  rw [Rat.divInt_eq_div, ← Rat.not_lt, Rat.div_lt_iff h0, Rat.not_lt]
  exact_mod_cast Iff.rfl
theorem divI_lt {f t b : Int} (hb : 0 < b) : Rat.divInt t b < (f : Rat) ↔ t < f * b := by
  have h0 : (0 : Rat) < (b : Rat) := by exact_mod_cast hb
  rw [Rat.divInt_eq_div, Rat.div_lt_iff h0]
  exact_mod_cast Iff.rfl
/-- the floor of a fraction -/
theorem floor_div {t b : Int} (hb : 0 < b) : (Rat.divInt t b).floor * b ≤ t ∧ t < ((Rat.divInt t b).floor + 1) * b :=
  ⟨(le_divI hb).mp (Rat.floor_le _), (divI_lt hb).mp (Rat.lt_floor_add_one _)⟩
theorem floor_bt {q : Rat} {n : Nat} (h : Sz q n) : q.floor.natAbs < 2 ^ n := by rw [floor_nd]; exact bt_fdiv h.1
theorem floor_divI {t b : Int} (hb : 0 < b) : (Rat.divInt t b).floor = t / b := by
  obtain ⟨h1, h2⟩ := floor_div (t := t) hb
  apply Int.le_antisymm
  · exact (Int.le_ediv_iff_mul_le hb).mpr h1
  · exact Int.le_of_lt_add_one ((Int.ediv_lt_iff_lt_mul hb).mpr h2)
/-- the rest is smaller than the divisor -/
theorem rest_lt {t b : Int} (hb : b ≠ 0) : (t - b * (Rat.divInt t b).floor).natAbs < b.natAbs := by
  by_cases h : 0 < b
  · rw [floor_divI h]
    have h1 := Int.emod_nonneg t hb
    have h2 := Int.emod_lt_of_pos t h
    have h3 := Int.mul_ediv_add_emod t b
    omega
  · have hn : 0 < -b := by omega
    have e : Rat.divInt t b = Rat.divInt (-t) (-b) := (Rat.neg_divInt_neg t b).symm
    rw [e, floor_divI hn]
    have h1 := Int.emod_nonneg (-t) (show -b ≠ 0 by omega)
    have h2 := Int.emod_lt_of_pos (-t) hn
    have h3 := Int.mul_ediv_add_emod (-t) (-b)
    have h4 : -b * (-t / -b) = -(b * (-t / -b)) := Int.neg_mul _ _
    omega
theorem sz_mod {q r : Rat} {n m : Nat} (hq : Sz q n) (hr : Sz r m) (h0 : r ≠ 0) : Sz (q - r * ((q / r).floor : Rat)) (n + m) := by
  have hn : r.num ≠ 0 := fun z => h0 (num0.mp z)
  have hd := den0 q
  have e : q - r * ((q / r).floor : Rat) = Rat.divInt (q.num * r.den - r.num * q.den * (q / r).floor) (q.den * r.den) := by
    conv => lhs; rw [rat_eq q, rat_eq r]
    rw [← rat_eq q, ← rat_eq r]
    generalize (q / r).floor = f
    have e1 : r * (f : Rat) = Rat.divInt (r.num * f) r.den := mul_int' r f
    rw [e1]
    conv => lhs; rw [rat_eq q]
    rw [Rat.divInt_sub_divInt _ _ hd (den0 r)]
    congr 1
    grind
  have hb : (q.den : Int) * r.num ≠ 0 := Int.mul_ne_zero hd hn
  have hl := rest_lt (t := q.num * r.den) hb
  rw [← div_rat] at hl
  have hl2 : (q.num * r.den - r.num * q.den * (q / r).floor).natAbs < 2 ^ (n + m) := by
    rw [Int.mul_comm r.num q.den]
    exact Nat.lt_trans hl (bt_mul hq.den hr.1)
  rw [e]
  exact sz_div (Int.mul_ne_zero hd (den0 r)) hl2 (bt_mul hq.den hr.den)
theorem div_lt {a b c d : Int} (hb : 0 < b) (hd : 0 < d) : Rat.divInt a b < Rat.divInt c d ↔ a * d < c * b := by
  have h1 : (0 : Rat) < (b : Rat) := by exact_mod_cast hb
  have h2 : (0 : Rat) < (d : Rat) := by exact_mod_cast hd
  have e : (c : Rat) / d * b = (c : Rat) * b / d := by rw [Rat.div_def, Rat.div_def]; grind
  rw [Rat.divInt_eq_div, Rat.divInt_eq_div, Rat.div_lt_iff h1, e, Rat.lt_div_iff h2]
  exact_mod_cast Iff.rfl
theorem div_le {a b c d : Int} (hb : 0 < b) (hd : 0 < d) : Rat.divInt a b ≤ Rat.divInt c d ↔ a * d ≤ c * b := by
  rw [← Rat.not_lt, div_lt hd hb, Int.not_lt]
theorem RN.tight {C a : Addr} {H : Hp} {q r : Rat} {n m : Nat} (h : RN C H a q n) (e : q = r) (hs : Sz r m) (h9 : m ≤ 13400) : RN C H a r m := ⟨e ▸ h.at_, hs, h9⟩
theorem sz0 {n : Nat} (h : 1 ≤ n) : Sz 0 n := Sz.mono (n := 1) ⟨by decide, by decide⟩ h
theorem sz1 {n : Nat} (h : 1 ≤ n) : Sz 1 n := Sz.mono (n := 1) ⟨by decide, by decide⟩ h
theorem divI_le_q (q : Rat) {B T : Int} (hT : 0 < T) : Rat.divInt B T ≤ q ↔ B * q.den ≤ q.num * T := by
  have h := div_le (a := B) (c := q.num) hT (den1 q)
  rwa [← rat_eq q] at h
theorem divI_lt_q (q : Rat) {B T : Int} (hT : 0 < T) : Rat.divInt B T < q ↔ B * q.den < q.num * T := by
  have h := div_lt (a := B) (c := q.num) hT (den1 q)
  rwa [← rat_eq q] at h
theorem divI_eq_q (q : Rat) {B T : Int} (hT : 0 < T) : Rat.divInt B T = q ↔ B * q.den = q.num * T := by
  have h := Rat.divInt_eq_divInt_iff (n₁ := B) (n₂ := q.num) (show T ≠ 0 by omega) (den0 q)
  rwa [← rat_eq q] at h

--lib
/-! ### what Ratio's methods promise -/
/-- q op r -/
def spBin (C : Addr) (f : Rat → Rat → Rat) : Sp := fun vs H Q _ => ∃ (a : Addr) (v : V) (q r : Rat) (n m : Nat), vs = [.ref a, v] ∧ RN C H a q n ∧ RZ C H v r m ∧ n + m + 1 ≤ 13400 ∧ ∀ p H', Fr H p → Ex H H' → RN C H' p (f q r) (n + m + 1) → Q (.ref p) H'
/-- i op q, i an int on the left -/
def spRev (C : Addr) (f : Rat → Rat → Rat) : Sp := fun vs H Q _ => ∃ (a : Addr) (i : Int) (q : Rat) (n m : Nat), vs = [.ref a, .int i] ∧ RN C H a q n ∧ i.natAbs < 2 ^ m ∧ n + m + 1 ≤ 13400 ∧ ∀ p H', Fr H p → Ex H H' → RN C H' p (f (i : Rat) q) (n + m + 1) → Q (.ref p) H'
def spUn (C : Addr) (f : Rat → Rat) : Sp := fun vs H Q _ => ∃ (a : Addr) (q : Rat) (n : Nat), vs = [.ref a] ∧ RN C H a q n ∧ ∀ p H', Fr H p → Ex H H' → RN C H' p (f q) n → Q (.ref p) H'
/-- q < r and the like -/
def spCmp (C : Addr) (f : Rat → Rat → Bool) : Sp := fun vs H Q _ => ∃ (a : Addr) (v : V) (q r : Rat) (n m : Nat), vs = [.ref a, v] ∧ RN C H a q n ∧ RZ C H v r m ∧ m ≤ 50000 ∧ Q (.bl (f q r)) H
/-- q == r; an int is never equal -/
def spEq (C : Addr) : Sp := fun vs H Q _ => ∃ (a : Addr) (q : Rat) (n : Nat), RN C H a q n ∧ ((∃ (b : Addr) (r : Rat) (m : Nat), vs = [.ref a, .ref b] ∧ RN C H b r m ∧ Q (.bl (decide (q = r))) H) ∨ ∃ i : Int, vs = [.ref a, .int i] ∧ Q (.bl false) H)
def spBool (C : Addr) : Sp := fun vs H Q _ => ∃ (a : Addr) (q : Rat) (n : Nat), vs = [.ref a] ∧ RN C H a q n ∧ Q (.bl (!decide (q = 0))) H
/-- q.over(r) -/
def spOver (K : PySem.W.Frag) : Sp := fun vs H Q E => ∃ (a : Addr) (v : V) (q r : Rat) (n m : Nat), vs = [.ref a, v] ∧ RN (He.ga K "Ratio") H a q n ∧ RZ (He.ga K "Ratio") H v r m ∧ n + m + 1 ≤ 13400 ∧
  (r = 0 → ∀ H', Ex H H' → E (.ref (He.ga K "ZeroBottom")) none H') ∧ (r ≠ 0 → ∀ p H', Fr H p → Ex H H' → RN (He.ga K "Ratio") H' p (q / r) (n + m + 1) → Q (.ref p) H')
/-- q // r -/
def spFloor (K : PySem.W.Frag) : Sp := fun vs H Q E => ∃ (a : Addr) (v : V) (q r : Rat) (n m : Nat), vs = [.ref a, v] ∧ RN (He.ga K "Ratio") H a q n ∧ RZ (He.ga K "Ratio") H v r m ∧ n + m + 1 ≤ 13400 ∧
  (r = 0 → ∀ H', Ex H H' → E (.ref (He.ga K "ZeroBottom")) none H') ∧ (r ≠ 0 → ∀ H', Ex H H' → (q / r).floor.natAbs < 2 ^ (n + m + 1) → Q (.int (q / r).floor) H')
/-- q % r -/
def spMod (K : PySem.W.Frag) : Sp := fun vs H Q E => ∃ (a : Addr) (v : V) (q r : Rat) (n m : Nat), vs = [.ref a, v] ∧ RN (He.ga K "Ratio") H a q n ∧ RZ (He.ga K "Ratio") H v r m ∧ 3 * n + 3 * m + 9 ≤ 13400 ∧
  (r = 0 → ∀ H', Ex H H' → E (.ref (He.ga K "ZeroBottom")) none H') ∧ (r ≠ 0 → ∀ p H', Fr H p → Ex H H' → RN (He.ga K "Ratio") H' p (q - r * ((q / r).floor : Rat)) (n + m + 1) → Q (.ref p) H')
section
variable {C : Addr} {H : Hp} {Q : VK} {E : XK} {a b : Addr} {q r : Rat} {n m : Nat} {i : Int} {f : Rat → Rat → Rat} {f1 : Rat → Rat} {fc : Rat → Rat → Bool} {K : PySem.W.Frag}
theorem u_OO (ha : RN C H a q n) (hb : RN C H b r m) (hs : n + m + 1 ≤ 13400) (k : ∀ p H', Fr H p → Ex H H' → RN C H' p (f q r) (n + m + 1) → Q (.ref p) H') : rOO C (spBin C f) E (.ref a) (.ref b) H Q := by
  obtain ⟨dx, hx⟩ := ha.at_
  obtain ⟨dy, hy⟩ := hb.at_
  exact ⟨a, dx, _, b, dy, _, rfl, rfl, hx, hy, a, _, q, r, n, m, rfl, ha, .rat hb, hs, k⟩
theorem u_OI (ha : RN C H a q n) (hb : i.natAbs < 2 ^ m) (hs : n + m + 1 ≤ 13400) (k : ∀ p H', Fr H p → Ex H H' → RN C H' p (f q (i : Rat)) (n + m + 1) → Q (.ref p) H') : rOI C (spBin C f) E (.ref a) (.int i) H Q := by
  obtain ⟨dx, hx⟩ := ha.at_
  exact ⟨a, dx, _, i, rfl, rfl, hx, a, _, q, _, n, m, rfl, ha, .int hb, hs, k⟩
theorem u_IO (ha : RN C H a q n) (hb : i.natAbs < 2 ^ m) (hs : n + m + 1 ≤ 13400) (k : ∀ p H', Fr H p → Ex H H' → RN C H' p (f (i : Rat) q) (n + m + 1) → Q (.ref p) H') : rIO C (spRev C f) E (.int i) (.ref a) H Q := by
  obtain ⟨dx, hx⟩ := ha.at_
  exact ⟨a, dx, _, i, rfl, rfl, hx, a, i, q, n, m, rfl, ha, hb, hs, k⟩
theorem u_UO (ha : RN C H a q n) (k : ∀ p H', Fr H p → Ex H H' → RN C H' p (f1 q) n → Q (.ref p) H') : rUO C (spUn C f1) E (.ref a) H Q := by
  obtain ⟨dx, hx⟩ := ha.at_
  exact ⟨a, dx, _, rfl, hx, a, q, n, rfl, ha, k⟩
theorem u_C1 (ha : RN C H a q n) (k : ∀ p H', Fr H p → Ex H H' → RN C H' p (f1 q) n → Q (.ref p) H') : rC1 C (spUn C f1) E [.ref a] H Q := by
  obtain ⟨dx, hx⟩ := ha.at_
  exact ⟨a, dx, _, rfl, hx, a, q, n, rfl, ha, k⟩
theorem u_cOO (ha : RN C H a q n) (hb : RN C H b r m) (k : Q (.bl (fc q r)) H) : rOO C (spCmp C fc) E (.ref a) (.ref b) H Q := by
  obtain ⟨dx, hx⟩ := ha.at_
  obtain ⟨dy, hy⟩ := hb.at_
  have := hb.le
  exact ⟨a, dx, _, b, dy, _, rfl, rfl, hx, hy, a, _, q, r, n, m, rfl, ha, .rat hb, by omega, k⟩
theorem u_cOI (ha : RN C H a q n) (hb : i.natAbs < 2 ^ m) (hm : m ≤ 50000) (k : Q (.bl (fc q (i : Rat))) H) : rOI C (spCmp C fc) E (.ref a) (.int i) H Q := by
  obtain ⟨dx, hx⟩ := ha.at_
  exact ⟨a, dx, _, i, rfl, rfl, hx, a, _, q, _, n, m, rfl, ha, .int hb, hm, k⟩
theorem u_cIO (ha : RN C H a q n) (hb : i.natAbs < 2 ^ m) (hm : m ≤ 50000) (k : Q (.bl (fc q (i : Rat))) H) : rIO C (spCmp C fc) E (.int i) (.ref a) H Q := by
  obtain ⟨dx, hx⟩ := ha.at_
  exact ⟨a, dx, _, i, rfl, rfl, hx, a, _, q, _, n, m, rfl, ha, .int hb, hm, k⟩
theorem u_eOO (ha : RN C H a q n) (hb : RN C H b r m) (k : Q (.bl (decide (q = r))) H) : rOO C (spEq C) E (.ref a) (.ref b) H Q := by
  obtain ⟨dx, hx⟩ := ha.at_
  obtain ⟨dy, hy⟩ := hb.at_
  exact ⟨a, dx, _, b, dy, _, rfl, rfl, hx, hy, a, q, n, ha, .inl ⟨b, r, m, rfl, hb, k⟩⟩
theorem u_eOI (ha : RN C H a q n) (k : Q (.bl false) H) : rOI C (spEq C) E (.ref a) (.int i) H Q := by
  obtain ⟨dx, hx⟩ := ha.at_
  exact ⟨a, dx, _, i, rfl, rfl, hx, a, q, n, ha, .inr ⟨i, rfl, k⟩⟩
theorem u_eIO (ha : RN C H a q n) (k : Q (.bl false) H) : rIO C (spEq C) E (.int i) (.ref a) H Q := by
  obtain ⟨dx, hx⟩ := ha.at_
  exact ⟨a, dx, _, i, rfl, rfl, hx, a, q, n, ha, .inr ⟨i, rfl, k⟩⟩
theorem u_bO (ha : RN C H a q n) (k : Q (.bl (!decide (q = 0))) H) : rBoolO C (spBool C) E [.ref a] H Q := by
  obtain ⟨dx, hx⟩ := ha.at_
  exact ⟨a, dx, _, rfl, hx, a, q, n, rfl, ha, _, rfl, k⟩
theorem u_me {m : Str} {sp : Sp} {t : TA} {σ : L2.St} {k : Nat} (ha : RN C H a q k) (h1 : (m == ("top" : Str)) = false) (h2 : (m == ("bottom" : Str)) = false) (k : t σ H fun vs H2 => sp (.ref a :: vs) H2 Q E) : dMe C m sp [] E t σ Q (.ref a) H := by
  obtain ⟨dx, hx⟩ := ha.at_
  exact w_dMe0 hx (rF_no _ _ h1 h2) k
theorem u_top (ha : RN C H a q n) (cl : Cls K C) (na : NoAttr K C "top") (k : Q (.int q.num) H) : dF K "top" Q (.ref a) H := by
  obtain ⟨dx, hx⟩ := ha.at_
  exact w_dF hx cl na (rF_top _ _) k
theorem u_bot (ha : RN C H a q n) (cl : Cls K C) (na : NoAttr K C "bottom") (k : Q (.int q.den) H) : dF K "bottom" Q (.ref a) H := by
  obtain ⟨dx, hx⟩ := ha.at_
  exact w_dF hx cl na (rF_bottom _ _) k
theorem u_isR (ha : RN C H a q n) (O : OwnC K C) (k : Q (.bl true) H) : rIsi K [.ref a, .ref C] H Q := by
  obtain ⟨dx, hx⟩ := ha.at_
  exact w_isiOC O hx k
end
/-- a.over(v) -/
theorem u_over {K : PySem.W.Frag} {H : Hp} {Q : VK} {E : XK} {a : Addr} {v : V} {q r : Rat} {n m : Nat} (ha : RN (He.ga K "Ratio") H a q n) (hv : RZ (He.ga K "Ratio") H v r m) (hs : n + m + 1 ≤ 13400) (h0 : r ≠ 0) (k : ∀ p H', Fr H p → Ex H H' → RN (He.ga K "Ratio") H' p (q / r) (n + m + 1) → Q (.ref p) H') :
    spOver K [.ref a, v] H Q E := ⟨a, v, q, r, n, m, rfl, ha, hv, hs, fun z => absurd z h0, fun _ => k⟩

--lib
/-- a tuple of naturals -/
abbrev nats (os : List Nat) : List V := (os.map fun n : Nat => (n : Int)).map V.int
/-! ### lots and their numbers -/
/-- the bit t of n -/
def tb (n t : Nat) : Bool := n / 2 ^ t % 2 == 1
/-- the lot with the number n, of the things below m -/
def lotOf (n m : Nat) : List Nat := (List.range m).filter (tb n)
def sum2 (l : List Nat) : Nat := (l.map fun t => 2 ^ t).sum
theorem sum2_append (l r : List Nat) : sum2 (l ++ r) = sum2 l + sum2 r := by simp [sum2]
theorem lotOf_succ (n m : Nat) : lotOf n (m + 1) = lotOf n m ++ (if tb n m then [m] else []) := by
  unfold lotOf
  rw [List.range_succ, List.filter_append]
  by_cases h : tb n m <;> simp [h]
theorem sum2_lotOf (n m : Nat) : sum2 (lotOf n m) = n % 2 ^ m := by
  induction m with
  | zero => simp [lotOf, sum2, Nat.mod_one]
  | succ m ih =>
    rw [lotOf_succ, sum2_append, ih, Nat.mod_pow_succ]
    have h2 : n / 2 ^ m % 2 = 0 ∨ n / 2 ^ m % 2 = 1 := by omega
    unfold tb
    rcases h2 with h | h <;> simp [h, sum2]
theorem lotOf_more {n m : Nat} (h : n < 2 ^ m) : lotOf n (m + 1) = lotOf n m := by
  rw [lotOf_succ]
  have : tb n m = false := by
    unfold tb
    rw [Nat.div_eq_of_lt h]
    rfl
  simp [this]
theorem lotOf_lt {n m x : Nat} (h : x ∈ lotOf n m) : x < m := List.mem_range.mp (List.mem_filter.mp h).1
theorem lotOf_sorted (n m : Nat) : (lotOf n m).Pairwise (· < ·) := List.Pairwise.filter _ List.pairwise_lt_range
theorem lotOf_len (n m : Nat) : (lotOf n m).length ≤ m := by
  unfold lotOf
  exact Nat.le_trans (List.length_filter_le _ _) (by simp)
theorem sum2_take {l : List Nat} {i : Nat} (h : i < l.length) : sum2 (l.take (i + 1)) = sum2 (l.take i) + 2 ^ (l.getD i 0) := by
  rw [List.take_succ_eq_append_getElem h, sum2_append, Z.getD_get _ _ _ h]
  simp [sum2]

--lib
/-! ### lots, prices, rules (behind lots) -/
def IsLot (n : Int) (lot : List Int) : Prop := lot.Pairwise (· < ·) ∧ ∀ x ∈ lot, 0 ≤ x ∧ x < n
/-- above what stood before, below n -/
def okFrom (n : Int) : Int → List Int → Prop
  | _, [] => True
  | b, x :: r => b < x ∧ x < n ∧ okFrom n x r
theorem okFrom_iff (n : Int) : ∀ (lot : List Int) (b : Int), okFrom n b lot ↔ (lot.Pairwise (· < ·) ∧ ∀ x ∈ lot, b < x ∧ x < n)
  | [], b => ⟨fun _ => ⟨.nil, fun x hx => by simp at hx⟩, fun _ => trivial⟩
  | y :: r, b => by
    show (b < y ∧ y < n ∧ okFrom n y r) ↔ _
    rw [okFrom_iff n r y, List.pairwise_cons]
    constructor
    · rintro ⟨h1, h2, h3, h4⟩
      refine ⟨⟨fun x hx => (h4 x hx).1, h3⟩, fun x hx => ?_⟩
      rcases List.mem_cons.mp hx with rfl | hx
      · exact ⟨h1, h2⟩
      · have := h4 x hx; omega
    · rintro ⟨⟨h1, h2⟩, h3⟩
      exact ⟨(h3 y (by simp)).1, (h3 y (by simp)).2, h2, fun x hx => ⟨h1 x hx, (h3 x (by simp [hx])).2⟩⟩
theorem isLot_iff {n : Int} {lot : List Int} : IsLot n lot ↔ okFrom n (-1) lot := by
  rw [okFrom_iff]
  constructor
  · rintro ⟨h1, h2⟩; exact ⟨h1, fun x hx => by have := h2 x hx; omega⟩
  · rintro ⟨h1, h2⟩; exact ⟨h1, fun x hx => by have := h2 x hx; omega⟩
theorem lot_len : ∀ (lot : List Int) (b n : Int), okFrom n b lot → (lot.length : Int) ≤ max 0 (n - 1 - b)
  | [], b, n, _ => by simp; omega
  | x :: r, b, n, ⟨h1, h2, h3⟩ => by
    have := lot_len r x n h3
    rw [List.length_cons]
    omega
theorem IsLot.len {n : Int} {lot : List Int} (h : IsLot n lot) : lot.length ≤ n.toNat := by
  have := lot_len lot (-1) n (isLot_iff.mp h)
  omega
/-- prices that check_prices lets pass -/
def PricesOk (n : Int) (ps : List Int) : Prop := (ps.length : Int) = n ∧ ∀ x ∈ ps, 0 ≤ x
/-- the errors of check_prices -/
def PErr (K : PySem.W.Frag) (n : Int) (ps : List Int) (E : XK) (H : Hp) : Prop :=
  ((ps.length : Int) ≠ n → ∀ d H', Fr H d → Ex H H' → At H' d (.xd [("at", .non), ("what", .str "prices")]) → E (.ref (He.ga K "BadNumber")) (some d) H') ∧
  ((ps.length : Int) = n → ∀ i, i < ps.length → ps.getD i 0 < 0 → (∀ j, j < i → 0 ≤ ps.getD j 0) → ∀ d H', Fr H d → Ex H H' → At H' d (.xd [("at", .int (i : Nat)), ("what", .str "prices")]) → E (.ref (He.ga K "BadNumber")) (some d) H')
theorem PErr.up {K : PySem.W.Frag} {n : Int} {ps : List Int} {E : XK} {H H1 : Hp} (h : PErr K n ps E H) (e : Ex H H1) : PErr K n ps E H1 :=
  ⟨fun a d H' f g => h.1 a d H' (e.back f) (e.trans g), fun a i b c j d H' f g => h.2 a i b c j d H' (e.back f) (e.trans g)⟩
theorem PErr.ok {K : PySem.W.Frag} {n : Int} {ps : List Int} {E : XK} {H : Hp} (h : PricesOk n ps) : PErr K n ps E H :=
  ⟨fun z => absurd h.1 z, fun _ i hi hn => by rw [getD_get _ _ _ hi] at hn; have := h.2 _ (List.getElem_mem hi); omega⟩
theorem all_getD {ps : List Int} {c : Int} (h : ∀ j, j < ps.length → c ≤ ps.getD j 0) : ∀ x ∈ ps, c ≤ x := fun w hw => by
  obtain ⟨i, hi, rfl⟩ := List.mem_iff_getElem.mp hw
  have := h i hi
  rwa [getD_get _ _ _ hi] at this
/-- a list of Ratios -/
def RL (C : Addr) (H : Hp) (xs : List V) (qs : List Rat) (b : Nat) : Prop := xs.length = qs.length ∧ ∀ i, i < qs.length → ∃ a, xs[i]? = some (.ref a) ∧ RN C H a (qs.getD i 0) b
theorem RL.ex {C : Addr} {H H' : Hp} {xs : List V} {qs : List Rat} {b : Nat} (h : RL C H xs qs b) (e : Ex H H') : RL C H' xs qs b := ⟨h.1, fun i hi => by
  obtain ⟨a, h1, h2⟩ := h.2 i hi
  exact ⟨a, h1, h2.ex e⟩⟩
theorem RL.nl {C : Addr} {H H' : Hp} {xs : List V} {qs : List Rat} {b : Nat} (h : RL C H xs qs b) (e : Nl H H') : RL C H' xs qs b := ⟨h.1, fun i hi => by
  obtain ⟨a, h1, h2⟩ := h.2 i hi
  exact ⟨a, h1, h2.nl e⟩⟩
theorem rlE {C : Addr} {H H' : Hp} {xs : List V} {qs : List Rat} {b : Nat} (h : RL C H xs qs b) (e : Exs H H') : RL C H' xs qs b := h.ex e.ex
theorem rlN {C : Addr} {H H' : Hp} {xs : List V} {qs : List Rat} {b : Nat} (h : RL C H xs qs b) (e : Nls H H') : RL C H' xs qs b := h.nl e.nl
theorem RL.mono {C : Addr} {H : Hp} {xs : List V} {qs : List Rat} {b c : Nat} (h : RL C H xs qs b) (hb : b ≤ c) (h9 : c ≤ 13400) : RL C H xs qs c := ⟨h.1, fun i hi => by
  obtain ⟨a, h1, h2⟩ := h.2 i hi
  exact ⟨a, h1, h2.eq rfl hb h9⟩⟩
theorem RL.nil {C : Addr} {H : Hp} {b : Nat} : RL C H [] [] b := ⟨rfl, fun i hi => absurd hi (by simp)⟩
theorem RL.snoc {C : Addr} {H : Hp} {xs : List V} {qs : List Rat} {b : Nat} {a : Addr} {q : Rat} (h : RL C H xs qs b) (r : RN C H a q b) : RL C H (xs ++ [.ref a]) (qs ++ [q]) b := by
  refine ⟨by simp [h.1], fun i hi => ?_⟩
  by_cases e : i < qs.length
  · obtain ⟨c, h1, h2⟩ := h.2 i e
    refine ⟨c, by rw [List.getElem?_append_left (by rw [h.1]; exact e)]; exact h1, ?_⟩
    rw [List.getD_eq_getElem?_getD, List.getElem?_append_left e, ← List.getD_eq_getElem?_getD]
    exact h2
  · have ei : i = qs.length := by simp at hi; omega
    subst ei
    refine ⟨a, by rw [← h.1]; simp, ?_⟩
    rw [List.getD_eq_getElem?_getD]
    simpa using r
theorem RL.set {C : Addr} {H : Hp} {xs : List V} {qs : List Rat} {b i : Nat} {a : Addr} {q : Rat} (h : RL C H xs qs b) (r : RN C H a q b) : RL C H (xs.set i (.ref a)) (qs.set i q) b := by
  refine ⟨by simp [h.1], fun j hj => ?_⟩
  rw [List.length_set] at hj
  by_cases e : i = j
  · subst e
    refine ⟨a, by simp [h.1, hj], ?_⟩
    rw [List.getD_eq_getElem?_getD]
    simpa [hj] using r
  · obtain ⟨c, h1, h2⟩ := h.2 j hj
    refine ⟨c, by rw [List.getElem?_set_ne e]; exact h1, ?_⟩
    rw [List.getD_eq_getElem?_getD, List.getElem?_set_ne e, ← List.getD_eq_getElem?_getD]
    exact h2
theorem RL.at {C : Addr} {H : Hp} {xs : List V} {qs : List Rat} {b : Nat} {i : Int} (h : RL C H xs qs b) (h0 : 0 ≤ i) (h1 : i < qs.length) : ∃ a, atI xs i = some (.ref a) ∧ RN C H a (qs.getD i.toNat 0) b := by
  obtain ⟨a, h2, h3⟩ := h.2 i.toNat (by omega)
  refine ⟨a, ?_, h3⟩
  unfold atI
  rw [ixN_pos h0 (by rw [h.1]; exact h1)]
  exact h2
/-- rl[i] -/
theorem u_ixR {K : PySem.W.Frag} {C : Addr} {H : Hp} {Q : VK} {l : Addr} {xs : List V} {qs : List Rat} {b : Nat} {i : Int} (hl : SqL K H l xs) (h : RL C H xs qs b) (h0 : 0 ≤ i) (h1 : i < qs.length) (k : ∀ a, RN C H a (qs.getD i.toNat 0) b → Q (.ref a) H) : rIx K (.ref l) (.int i) H Q := by
  obtain ⟨a, h2, h3⟩ := h.at h0 h1
  exact w_ixL hl h2 (k a h3)
/-- what a lot brings -/
def worthQ (sh : List Rat) (lot ps : List Int) : Rat := (lot.map fun t => sh.getD t.toNat 0 * (ps.getD t.toNat 0 : Rat)).sum
theorem sum_snocQ (l : List Rat) (q : Rat) : (l ++ [q]).sum = l.sum + q := by
  induction l with
  | nil => simp [Rat.add_comm, Rat.add_zero]
  | cons a r ih => rw [List.cons_append, List.sum_cons, List.sum_cons, ih, Rat.add_assoc]
/-- the plain rule -/
def Rep_Rule (K : PySem.W.Frag) (H : Hp) (x : Addr) (n : Int) (sh : List Int → List Rat) (b : Nat) : Prop := (∃ dx, At H x (.ins (He.ga K "Rule") dx [("many", .int n)])) ∧ 0 ≤ n ∧ n ≤ 24 ∧ sh = (fun _ => List.replicate n.toNat 0) ∧ 1 ≤ b ∧ b ≤ 13400
theorem Rep_Rule.ex {K : PySem.W.Frag} {H H' : Hp} {x : Addr} {n : Int} {sh : List Int → List Rat} {b : Nat} (h : Rep_Rule K H x n sh b) (e : Ex H H') : Rep_Rule K H' x n sh b := by
  obtain ⟨⟨dx, h1⟩, h2⟩ := h
  exact ⟨⟨dx, e.get h1⟩, h2⟩
theorem Rep_Rule.nl {K : PySem.W.Frag} {H H' : Hp} {x : Addr} {n : Int} {sh : List Int → List Rat} {b : Nat} (h : Rep_Rule K H x n sh b) (e : Nl H H') : Rep_Rule K H' x n sh b := by
  obtain ⟨⟨dx, h1⟩, h2⟩ := h
  exact ⟨⟨dx, e.get (fun l z => by cases z) h1⟩, h2⟩
/-- what all rules have: the number of things and methods -/
def RB (C : Addr) (H : Hp) (x : Addr) (n : Int) : Prop := ∃ dx fs, At H x (.ins C dx fs) ∧ fs.lookup ("many" : Str) = some (.int n) ∧ (∀ m ∈ (["shares", "away", "worth", "best", "best_dearest", "MOST", "SMALL", "total_of", "reduced", "bound", "thing_values"] : List Str), fs.lookup m = none) ∧ 0 ≤ n ∧ n ≤ 24
theorem RB.ex {C : Addr} {H H' : Hp} {x : Addr} {n : Int} (h : RB C H x n) (e : Ex H H') : RB C H' x n := by
  obtain ⟨dx, fs, h1, h2⟩ := h
  exact ⟨dx, fs, e.get h1, h2⟩
theorem RB.nl {C : Addr} {H H' : Hp} {x : Addr} {n : Int} (h : RB C H x n) (e : Nl H H') : RB C H' x n := by
  obtain ⟨dx, fs, h1, h2⟩ := h
  exact ⟨dx, fs, e.get (fun l z => by cases z) h1, h2⟩
theorem rbE {C : Addr} {H H' : Hp} {x : Addr} {n : Int} (h : RB C H x n) (e : Exs H H') : RB C H' x n := h.ex e.ex
theorem rbN {C : Addr} {H H' : Hp} {x : Addr} {n : Int} (h : RB C H x n) (e : Nls H H') : RB C H' x n := h.nl e.nl
theorem Rep_Rule.rb {K : PySem.W.Frag} {H : Hp} {x : Addr} {n : Int} {sh : List Int → List Rat} {b : Nat} (h : Rep_Rule K H x n sh b) : RB (He.ga K "Rule") H x n := by
  obtain ⟨⟨dx, h1⟩, h2, h3, _⟩ := h
  refine ⟨dx, _, h1, rfl, fun m hm => ?_, h2, h3⟩
  have : (m == ("many" : Str)) = false := by revert m; decide +kernel
  simp only [List.lookup, this]
theorem Rep_Rule.len {K : PySem.W.Frag} {H : Hp} {x : Addr} {n : Int} {sh : List Int → List Rat} {b : Nat} (h : Rep_Rule K H x n sh b) (lot : List Int) : (sh lot).length = n.toNat := by
  obtain ⟨_, _, _, rfl, _⟩ := h
  simp
section
variable {K : PySem.W.Frag} {C : Addr} {H : Hp} {Q : VK} {E : XK} {x : Addr} {n : Int}
theorem u_rmany (h : RB C H x n) (cl : Cls K C) (na : NoAttr K C "many") (k : Q (.int n) H) : dF K "many" Q (.ref x) H := by
  obtain ⟨dx, fs, h1, h2, _⟩ := h
  exact w_dF h1 cl na h2 k
theorem u_rme {m : Str} {sp : Sp} {t : TA} {σ : L2.St} (h : RB C H x n) (hm : m ∈ (["shares", "away", "worth", "best", "best_dearest", "MOST", "SMALL", "total_of", "reduced", "bound", "thing_values"] : List Str)) (k : t σ H fun vs H2 => sp (.ref x :: vs) H2 Q E) : dMe C m sp [] E t σ Q (.ref x) H := by
  obtain ⟨dx, fs, h1, h2, h3, _⟩ := h
  exact w_dMe0 h1 (h3 m hm) k
theorem u_rcon {f : Str} {v : V} (h : RB C H x n) (cl : Cls K C) (hk : ∃ u, Con K C f v u) (hm : f ∈ (["shares", "away", "worth", "best", "best_dearest", "MOST", "SMALL", "total_of", "reduced", "bound", "thing_values"] : List Str)) (k : Q v H) : dCon K f Q (.ref x) H := by
  obtain ⟨dx, fs, h1, h2, h3, _⟩ := h
  exact w_dCon h1 cl hk (h3 f hm) k
theorem u_risC2 {D : Addr} {b : Bool} (h : RB C H x n) (O : OwnC K C) (hk : PySem.W.kitOne K (.ref C) (.ref D) = some b) (k : Q (.bl b) H) : rIsi K [.ref x, .ref D] H Q := by
  obtain ⟨dx, fs, h1, _⟩ := h
  exact w_isiOA O h1 hk k
theorem u_risO2 (h : RB C H x n) (O : OwnC K C) (k : Q (.bl true) H) : rIsi K [.ref x, .ref C] H Q := by
  obtain ⟨dx, fs, h1, _⟩ := h
  exact w_isiOC O h1 k
end
theorem sum_take {qs : List Rat} {i : Nat} (h : i < qs.length) : (qs.take (i + 1)).sum = (qs.take i).sum + qs.getD i 0 := by
  rw [List.take_succ_eq_append_getElem h, sum_snocQ, getD_get _ _ _ h]
theorem take_snoc {α : Type} {l : List α} {i : Nat} (h : i < l.length) (d : α) : l.take (i + 1) = l.take i ++ [l.getD i d] := by
  rw [List.take_succ_eq_append_getElem h, getD_get _ _ _ h]
theorem adj_pw : ∀ (l : List Int), (∀ j, j + 1 < l.length → l.getD j 0 < l.getD (j + 1) 0) → l.Pairwise (· < ·)
  | [], _ => .nil
  | [a], _ => by simp
  | a :: b :: r, h => by
    have ih := adj_pw (b :: r) fun j hj => by
      have := h (j + 1) (by simpa using hj)
      simpa using this
    have hab : a < b := by have := h 0 (by simp); simpa using this
    refine List.pairwise_cons.mpr ⟨fun x hx => ?_, ih⟩
    rcases List.mem_cons.mp hx with rfl | hx
    · exact hab
    · have := (List.pairwise_cons.mp ih).1 x hx
      omega
theorem pw_adj {l : List Int} (h : l.Pairwise (· < ·)) (j : Nat) (hj : j + 1 < l.length) : l.getD j 0 < l.getD (j + 1) 0 := by
  rw [getD_get _ _ _ hj, getD_get _ _ _ (show j < l.length by omega)]
  exact List.pairwise_iff_getElem.mp h j (j + 1) (by omega) hj (by omega)
theorem lotOf_isLot (c m : Nat) : IsLot (m : Int) ((lotOf c m).map fun n : Nat => (n : Int)) := by
  constructor
  · rw [List.pairwise_map]
    exact (lotOf_sorted c m).imp fun h => by omega
  · intro x hx
    obtain ⟨t, ht, rfl⟩ := List.mem_map.mp hx
    have := lotOf_lt ht
    omega
/-- a plain rule of n things -/
abbrev RuleAt (K : PySem.W.Frag) (H : Hp) (x : Addr) (n : Int) : Prop := Rep_Rule K H x n (fun _ => List.replicate n.toNat 0) 1
theorem sum_rep0 (n : Nat) : (List.replicate n (0 : Rat)).sum = 0 := by
  induction n with
  | zero => rfl
  | succ n ih => rw [List.replicate_succ, List.sum_cons, ih]; exact Rat.add_zero 0
theorem getD_rep0 (n i : Nat) : (List.replicate n (0 : Rat)).getD i 0 = 0 := by
  rw [List.getD_eq_getElem?_getD, List.getElem?_replicate]
  split <;> rfl
theorem worth0 (n : Nat) (lot ps : List Int) : worthQ (List.replicate n 0) lot ps = 0 := by
  unfold worthQ
  induction lot with
  | nil => rfl
  | cons t r ih => rw [List.map_cons, List.sum_cons, ih, getD_rep0]; grind
/-- all things -/
theorem allLot {n : Int} (hn : 0 ≤ n) : IsLot n ((List.range n.toNat).map fun k : Nat => (k : Int)) := by
  constructor
  · rw [List.pairwise_map]
    exact List.pairwise_lt_range.imp fun h => by omega
  · intro x hx
    obtain ⟨k, hk, rfl⟩ := List.mem_map.mp hx
    have := List.mem_range.mp hk
    omega
/-- a list of pairs of ints -/
def PL (H : Hp) (xs : List V) (ps : List (Int × Int)) : Prop := xs.length = ps.length ∧ ∀ i, i < ps.length → ∃ a, xs[i]? = some (.ref a) ∧ At H a (.tup [.int (ps.getD i (0, 0)).1, .int (ps.getD i (0, 0)).2])
theorem PL.ex {H H' : Hp} {xs : List V} {ps : List (Int × Int)} (h : PL H xs ps) (e : Ex H H') : PL H' xs ps := ⟨h.1, fun i hi => by
  obtain ⟨a, h1, h2⟩ := h.2 i hi
  exact ⟨a, h1, e.get h2⟩⟩
theorem PL.nl {H H' : Hp} {xs : List V} {ps : List (Int × Int)} (h : PL H xs ps) (e : Nl H H') : PL H' xs ps := ⟨h.1, fun i hi => by
  obtain ⟨a, h1, h2⟩ := h.2 i hi
  exact ⟨a, h1, e.get (fun l z => by cases z) h2⟩⟩
theorem plE {H H' : Hp} {xs : List V} {ps : List (Int × Int)} (h : PL H xs ps) (e : Exs H H') : PL H' xs ps := h.ex e.ex
theorem plN {H H' : Hp} {xs : List V} {ps : List (Int × Int)} (h : PL H xs ps) (e : Nls H H') : PL H' xs ps := h.nl e.nl
theorem PL.nil {H : Hp} : PL H [] [] := ⟨rfl, fun i hi => absurd hi (by simp)⟩
theorem PL.snoc {H : Hp} {xs : List V} {ps : List (Int × Int)} {a : Addr} {p : Int × Int} (h : PL H xs ps) (r : At H a (.tup [.int p.1, .int p.2])) : PL H (xs ++ [.ref a]) (ps ++ [p]) := by
  refine ⟨by simp [h.1], fun i hi => ?_⟩
  by_cases e : i < ps.length
  · obtain ⟨c, h1, h2⟩ := h.2 i e
    refine ⟨c, by rw [List.getElem?_append_left (by rw [h.1]; exact e)]; exact h1, ?_⟩
    rw [List.getD_eq_getElem?_getD, List.getElem?_append_left e, ← List.getD_eq_getElem?_getD]
    exact h2
  · have ei : i = ps.length := by simp at hi; omega
    subst ei
    refine ⟨a, by rw [← h.1]; simp, ?_⟩
    rw [List.getD_eq_getElem?_getD]
    simpa using r
theorem u_ixP {K : PySem.W.Frag} {H : Hp} {Q : VK} {l : Addr} {xs : List V} {ps : List (Int × Int)} {i : Int} (hl : SqL K H l xs) (h : PL H xs ps) (h0 : 0 ≤ i) (h1 : i < ps.length) (k : ∀ a, At H a (.tup [.int (ps.getD i.toNat (0, 0)).1, .int (ps.getD i.toNat (0, 0)).2]) → Q (.ref a) H) : rIx K (.ref l) (.int i) H Q := by
  obtain ⟨a, h2, h3⟩ := h.2 i.toNat (by omega)
  refine w_ixL hl ?_ (k a h3)
  unfold atI
  rw [ixN_pos h0 (by rw [h.1]; exact h1)]
  exact h2
/-- what comes of worth, and the place of the first wrong price -/
inductive PRes (n : Int) (ps : List Int) : V → Int → Prop
  | len (h : (ps.length : Int) ≠ n) : PRes n ps .non (-1)
  | neg (h : (ps.length : Int) = n) (i : Nat) (hi : i < ps.length) (hw : ps.getD i 0 < 0) (hb : ∀ j, j < i → 0 ≤ ps.getD j 0) : PRes n ps (.int (i : Nat)) (i : Nat)
theorem PRes.det {n : Int} {ps : List Int} {v w : V} {i j : Int} (h : PRes n ps v i) (g : PRes n ps w j) : v = w ∧ i = j := by
  cases h with
  | len h => cases g <;> first | exact ⟨rfl, rfl⟩ | contradiction
  | neg h i hi hw hb =>
    cases g with
    | len h => contradiction
    | neg h2 i2 hi2 hw2 hb2 =>
      have : i = i2 := by
        rcases Nat.lt_trichotomy i i2 with q | q | q
        · have := hb2 i q; omega
        · exact q
        · have := hb i2 q; omega
      subst this
      exact ⟨rfl, rfl⟩
theorem PRes.no {n : Int} {ps : List Int} {v : V} {i : Int} (h : PRes n ps v i) (g : PricesOk n ps) : False := by
  cases h with
  | len h => exact h g.1
  | neg h i hi hw hb =>
    have := g.2 _ (List.getElem_mem hi)
    rw [getD_get _ _ _ hi] at hw
    omega
theorem PRes.lt {n : Int} {ps : List Int} {v : V} {i : Int} (h : PRes n ps v i) (hn : 0 ≤ n) : i < n := by
  cases h with
  | len h => omega
  | neg h i hi hw hb => omega

--lib
/-! ### Weighted rules -/
/-- fields of a Weighted -/
abbrev wF (n : Int) (t : Addr) (a : Int) : List (Str × V) := [("many", .int n), ("weights", .ref t), ("aside", .int a)]
/-- a Weighted with these numbers stands at x -/
structure WR (K : PySem.W.Frag) (H : Hp) (x : Addr) (ws : List Int) (a : Int) : Prop where
  at_ : ∃ dx t, At H x (.ins (He.ga K "Weighted") dx (wF ws.length t a)) ∧ At H t (.tup (ws.map V.int))
  len : ws.length ≤ 24
  pos : ∀ w ∈ ws, 1 ≤ w
  apos : 1 ≤ a
theorem WR.ex {K : PySem.W.Frag} {H H' : Hp} {x : Addr} {ws : List Int} {a : Int} (h : WR K H x ws a) (e : Ex H H') : WR K H' x ws a := by
  obtain ⟨⟨dx, t, h1, h2⟩, h3, h4, h5⟩ := h
  exact ⟨⟨dx, t, e.get h1, e.get h2⟩, h3, h4, h5⟩
theorem WR.nl {K : PySem.W.Frag} {H H' : Hp} {x : Addr} {ws : List Int} {a : Int} (h : WR K H x ws a) (e : Nl H H') : WR K H' x ws a := by
  obtain ⟨⟨dx, t, h1, h2⟩, h3, h4, h5⟩ := h
  exact ⟨⟨dx, t, e.get (fun l z => by cases z) h1, e.get (fun l z => by cases z) h2⟩, h3, h4, h5⟩
theorem wrE {K : PySem.W.Frag} {H H' : Hp} {x : Addr} {ws : List Int} {a : Int} (h : WR K H x ws a) (e : Exs H H') : WR K H' x ws a := h.ex e.ex
theorem wrN {K : PySem.W.Frag} {H H' : Hp} {x : Addr} {ws : List Int} {a : Int} (h : WR K H x ws a) (e : Nls H H') : WR K H' x ws a := h.nl e.nl
theorem WR.posD {K : PySem.W.Frag} {H : Hp} {x : Addr} {ws : List Int} {a : Int} (h : WR K H x ws a) (i : Nat) (hi : i < ws.length) : 1 ≤ ws.getD i 0 := by
  rw [getD_get _ _ _ hi]; exact h.pos _ (List.getElem_mem hi)
section
variable {K : PySem.W.Frag} {H : Hp} {Q : VK} {E : XK} {x : Addr} {ws : List Int} {a : Int}
theorem u_wts (h : WR K H x ws a) (cl : Cls K (He.ga K "Weighted")) (na : NoAttr K (He.ga K "Weighted") "weights") (k : ∀ t, SqT K H t (ws.map V.int) → At H t (.tup (ws.map V.int)) → Q (.ref t) H) : dF K "weights" Q (.ref x) H := by
  obtain ⟨⟨dx, t, h1, h2⟩, h3, h4, h5⟩ := h
  exact w_dF h1 cl na rfl (k t (st_of h2) h2)
theorem u_asd (h : WR K H x ws a) (cl : Cls K (He.ga K "Weighted")) (na : NoAttr K (He.ga K "Weighted") "aside") (k : Q (.int a) H) : dF K "aside" Q (.ref x) H := by
  obtain ⟨⟨dx, t, h1, h2⟩, h3, h4, h5⟩ := h
  exact w_dF h1 cl na rfl k
theorem u_many (h : WR K H x ws a) (cl : Cls K (He.ga K "Weighted")) (na : NoAttr K (He.ga K "Weighted") "many") (k : Q (.int ws.length) H) : dF K "many" Q (.ref x) H := by
  obtain ⟨⟨dx, t, h1, h2⟩, h3, h4, h5⟩ := h
  exact w_dF h1 cl na rfl k
theorem u_meW {m : Str} {sp : Sp} {t : TA} {σ : L2.St} (h : WR K H x ws a) (h1 : (m == ("many" : Str)) = false) (h2 : (m == ("weights" : Str)) = false) (h3 : (m == ("aside" : Str)) = false) (k : t σ H fun vs H2 => sp (.ref x :: vs) H2 Q E) : dMe (He.ga K "Weighted") m sp [] E t σ Q (.ref x) H := by
  obtain ⟨⟨dx, t', h4, h5⟩, h6, h7, h8⟩ := h
  exact w_dMe0 h4 (by simp only [wF, List.lookup, h1, h2, h3]) k
theorem u_isW (h : WR K H x ws a) (O : OwnC K (He.ga K "Weighted")) (k : Q (.bl true) H) : rIsi K [.ref x, .ref (He.ga K "Weighted")] H Q := by
  obtain ⟨⟨dx, t', h4, h5⟩, h6, h7, h8⟩ := h
  exact w_isiOC O h4 k
end
/-! the greatest divisor of all -/
def gL (a : Nat) (ws : List Int) : Nat := ws.foldl (fun g w => Nat.gcd g w.natAbs) a
theorem gL_snoc (a : Nat) (ws : List Int) (w : Int) : gL a (ws ++ [w]) = Nat.gcd (gL a ws) w.natAbs := by unfold gL; rw [List.foldl_append]; rfl
theorem gL_dvd : ∀ (ws : List Int) (a : Nat), gL a ws ∣ a ∧ ∀ w ∈ ws, gL a ws ∣ w.natAbs
  | [], a => ⟨Nat.dvd_refl _, fun w h => by simp at h⟩
  | w :: r, a => by
    obtain ⟨h1, h2⟩ := gL_dvd r (Nat.gcd a w.natAbs)
    refine ⟨Nat.dvd_trans h1 (Nat.gcd_dvd_left _ _), fun x hx => ?_⟩
    rcases List.mem_cons.mp hx with rfl | hx
    · exact Nat.dvd_trans h1 (Nat.gcd_dvd_right _ _)
    · exact h2 x hx
theorem gL_div : ∀ (ws : List Int) (a d : Nat), 0 < d → d ∣ a → (∀ w ∈ ws, 0 ≤ w ∧ d ∣ w.natAbs) → gL (a / d) (ws.map fun w => w / (d : Int)) = gL a ws / d
  | [], a, d, _, _, _ => rfl
  | w :: r, a, d, hd, ha, hw => by
    obtain ⟨h0, h1⟩ := hw w (by simp)
    have e : (w / (d : Int)).natAbs = w.natAbs / d := by
      obtain ⟨n, rfl⟩ := Int.eq_ofNat_of_zero_le h0
      rfl
    show gL (Nat.gcd (a / d) (w / (d : Int)).natAbs) (r.map fun w => w / (d : Int)) = gL (Nat.gcd a w.natAbs) r / d
    rw [e, Nat.gcd_div ha h1]
    exact gL_div r _ d hd (Nat.dvd_gcd ha h1) fun x hx => hw x (List.mem_cons_of_mem _ hx)
theorem gL_one (a : Nat) (ws : List Int) (ha : 0 < a) (hw : ∀ w ∈ ws, 0 ≤ w) : gL (a / gL a ws) (ws.map fun w => w / (gL a ws : Int)) = 1 := by
  obtain ⟨h1, h2⟩ := gL_dvd ws a
  have h3 : 0 < gL a ws := Nat.pos_of_dvd_of_pos h1 ha
  rw [gL_div ws a (gL a ws) h3 h1 fun w hx => ⟨hw w hx, h2 w hx⟩]
  exact Nat.div_self h3

--lib
/-! ### shares by weights -/
def wsum (ws lot : List Int) : Int := (lot.map fun t => ws.getD t.toNat 0).sum
/-- shares when the things of the lot up to place i have got theirs -/
def shWi (ws : List Int) (tot : Int) (part : List Int) : List Rat := (List.range ws.length).map fun t : Nat => if (t : Int) ∈ part then Rat.divInt (ws.getD t 0) tot else 0
def shW (ws : List Int) (a : Int) (lot : List Int) : List Rat := shWi ws (a + wsum ws lot) lot
theorem shWi_len (ws : List Int) (tot : Int) (part : List Int) : (shWi ws tot part).length = ws.length := by unfold shWi; simp
theorem shWi_get (ws : List Int) (tot : Int) (part : List Int) {t : Nat} (h : t < ws.length) : (shWi ws tot part).getD t 0 = if (t : Int) ∈ part then Rat.divInt (ws.getD t 0) tot else 0 := by
  rw [getD_get _ _ _ (by rw [shWi_len]; exact h)]
  unfold shWi
  simp
theorem shWi_nil (ws : List Int) (tot : Int) : shWi ws tot [] = List.replicate ws.length 0 := by
  unfold shWi
  apply List.ext_getElem
  · simp
  · intro i h1 h2; simp
theorem shWi_snoc (ws : List Int) (tot : Int) (part : List Int) {t : Int} (h0 : 0 ≤ t) (h1 : t < ws.length) : (shWi ws tot part).set t.toNat (Rat.divInt (ws.getD t.toNat 0) tot) = shWi ws tot (part ++ [t]) := by
  obtain ⟨t, rfl⟩ := Int.eq_ofNat_of_zero_le h0
  unfold shWi
  apply List.ext_getElem
  · simp
  · intro i h2 h3
    simp only [List.length_set, List.length_map, List.length_range] at h2
    rw [List.getElem_set]
    simp only [List.getElem_map, List.getElem_range, Int.toNat_natCast, List.mem_append, List.mem_singleton]
    by_cases e : t = i
    · subst e; simp
    · have e' : ¬ (i : Int) = (t : Int) := by omega
      simp [e, e']
theorem wsum_snoc (ws lot : List Int) (t : Int) : wsum ws (lot ++ [t]) = wsum ws lot + ws.getD t.toNat 0 := by unfold wsum; simp
theorem wsum_nonneg {ws : List Int} (h : ∀ w ∈ ws, 1 ≤ w) (lot : List Int) : 0 ≤ wsum ws lot := by
  unfold wsum
  induction lot with
  | nil => simp
  | cons t r ih =>
    rw [List.map_cons, List.sum_cons]
    have : 0 ≤ ws.getD t.toNat 0 := by
      rw [List.getD_eq_getElem?_getD]
      cases e : ws[t.toNat]? with
      | none => simp
      | some w =>
        have := h w (List.mem_of_getElem? e)
        simp; omega
    omega
theorem wsum_le {ws : List Int} {B : Int} (hB : 0 ≤ B) (h : ∀ w ∈ ws, w ≤ B) : ∀ (lot : List Int), wsum ws lot ≤ (lot.length : Int) * B
  | [] => by simp [wsum]
  | t :: r => by
    have ih := wsum_le hB h r
    unfold wsum at *
    rw [List.map_cons, List.sum_cons, List.length_cons]
    have : ws.getD t.toNat 0 ≤ B := by
      rw [List.getD_eq_getElem?_getD]
      cases e : ws[t.toNat]? with
      | none => simpa using hB
      | some w => exact h w (List.mem_of_getElem? e)
    rw [Int.natCast_add, Int.add_mul]
    omega
/-- the things of a lot among all things -/
theorem lot_filter {n : Int} {lot : List Int} (h : IsLot n lot) : (((List.range n.toNat).filter fun t : Nat => decide ((t : Int) ∈ lot)).map fun t : Nat => (t : Int)) = lot := by
  refine List.Perm.eq_of_pairwise (le := (· ≤ ·)) (fun a b _ _ h g => by omega) ?_ (h.1.imp fun h => by omega) ?_
  · rw [List.pairwise_map]
    exact (List.pairwise_lt_range.filter _).imp fun h => by omega
  · refine (List.perm_ext_iff_of_nodup ?_ (h.1.imp fun h => by omega)).mpr fun a => ?_
    · unfold List.Nodup
      rw [List.pairwise_map]
      exact (List.pairwise_lt_range.filter _).imp fun h => by omega
    · rw [List.mem_map]
      constructor
      · rintro ⟨t, ht, rfl⟩
        have := (List.mem_filter.mp ht).2
        simpa using this
      · intro ha
        have := h.2 a ha
        refine ⟨a.toNat, ?_, by omega⟩
        rw [List.mem_filter, List.mem_range]
        refine ⟨by omega, ?_⟩
        rw [Int.toNat_of_nonneg this.1]
        simpa using ha
theorem sum_if {α : Type} (l : List α) (p : α → Bool) (f : α → Rat) : (l.map fun t => if p t = true then f t else 0).sum = ((l.filter p).map f).sum := by
  induction l with
  | nil => rfl
  | cons a r ih =>
    rw [List.map_cons, List.sum_cons, ih, List.filter_cons]
    by_cases h : p a
    · simp [h]
    · simp [h]; exact Rat.zero_add _
theorem sum_divInt {α : Type} (l : List α) (f : α → Int) {d : Int} (hd : d ≠ 0) : (l.map fun t => Rat.divInt (f t) d).sum = Rat.divInt (l.map f).sum d := by
  induction l with
  | nil => simp
  | cons a r ih =>
    rw [List.map_cons, List.sum_cons, ih, List.map_cons, List.sum_cons, Rat.divInt_add_divInt _ _ hd hd]
    have : f a * d + (r.map f).sum * d = (f a + (r.map f).sum) * d := by rw [Int.add_mul]
    rw [this]
    exact Rat.divInt_mul_right hd
theorem shW_sum {ws : List Int} {a : Int} {lot : List Int} (h : IsLot ws.length lot) (ht : a + wsum ws lot ≠ 0) : (shW ws a lot).sum = Rat.divInt (wsum ws lot) (a + wsum ws lot) := by
  unfold shW shWi
  have e : (List.range ws.length).map (fun t : Nat => if (t : Int) ∈ lot then Rat.divInt (ws.getD t 0) (a + wsum ws lot) else 0) = (List.range ws.length).map (fun t : Nat => if decide ((t : Int) ∈ lot) = true then Rat.divInt (ws.getD t 0) (a + wsum ws lot) else 0) := by
    simp only [decide_eq_true_eq]
  rw [e, sum_if (List.range ws.length) (fun t : Nat => decide ((t : Int) ∈ lot)) fun t : Nat => Rat.divInt (ws.getD t 0) (a + wsum ws lot)]
  have f := lot_filter h
  rw [Int.toNat_natCast] at f
  have g : (((List.range ws.length).filter fun t : Nat => decide ((t : Int) ∈ lot)).map fun t : Nat => Rat.divInt (ws.getD t 0) (a + wsum ws lot)) = lot.map fun t => Rat.divInt (ws.getD t.toNat 0) (a + wsum ws lot) := by
    generalize a + wsum ws lot = tot
    have q : ∀ l : List Int, l = lot → (((List.range ws.length).filter fun t : Nat => decide ((t : Int) ∈ lot)).map fun t : Nat => (t : Int)) = l → (((List.range ws.length).filter fun t : Nat => decide ((t : Int) ∈ lot)).map fun t : Nat => Rat.divInt (ws.getD t 0) tot) = l.map fun t => Rat.divInt (ws.getD t.toNat 0) tot := fun l _ hl => by
      rw [← hl, List.map_map]
      rfl
    exact q lot rfl f
  rw [g, sum_divInt lot (fun t => ws.getD t.toNat 0) ht]
  rfl
theorem awayW {ws : List Int} {a : Int} {lot : List Int} (h : IsLot ws.length lot) (ht : a + wsum ws lot ≠ 0) : 1 - (shW ws a lot).sum = Rat.divInt a (a + wsum ws lot) := by
  rw [shW_sum h ht]
  have e : (1 : Rat) = Rat.divInt (a + wsum ws lot) (a + wsum ws lot) := (Rat.divInt_self' ht).symm
  rw [e, Rat.divInt_sub_divInt _ _ ht ht, ← Int.sub_mul, Rat.divInt_mul_right ht]
  congr 1
  omega
/-- weight times price -/
def wpsum (ws ps lot : List Int) : Int := (lot.map fun t => ws.getD t.toNat 0 * ps.getD t.toNat 0).sum
theorem worthW {ws ps : List Int} {a : Int} {lot : List Int} (h : IsLot ws.length lot) (ht : a + wsum ws lot ≠ 0) : worthQ (shW ws a lot) lot ps = Rat.divInt (wpsum ws ps lot) (a + wsum ws lot) := by
  unfold worthQ wpsum
  rw [← sum_divInt lot _ ht]
  congr 1
  apply List.map_congr_left
  intro t hm
  have := h.2 t hm
  have e : (shW ws a lot).getD t.toNat 0 = Rat.divInt (ws.getD t.toNat 0) (a + wsum ws lot) := by
    unfold shW
    rw [shWi_get _ _ _ (by omega), Int.toNat_of_nonneg this.1, if_pos hm]
  rw [e, div1 (ps.getD t.toNat 0), Rat.divInt_mul_divInt, Int.mul_one]
/-- a Weighted as a rule; its weights have B bits -/
def Rep_Weighted (K : PySem.W.Frag) (H : Hp) (x : Addr) (n : Int) (sh : List Int → List Rat) (b : Nat) : Prop := ∃ ws a B, WR K H x ws a ∧ n = ws.length ∧ sh = shW ws a ∧ (∀ w ∈ ws, w < 2 ^ B) ∧ a < 2 ^ B ∧ B + 5 ≤ b ∧ b ≤ 13400
theorem Rep_Weighted.ex {K : PySem.W.Frag} {H H' : Hp} {x : Addr} {n : Int} {sh : List Int → List Rat} {b : Nat} (h : Rep_Weighted K H x n sh b) (e : Ex H H') : Rep_Weighted K H' x n sh b := by
  obtain ⟨ws, a, B, h1, h2⟩ := h
  exact ⟨ws, a, B, h1.ex e, h2⟩
theorem Rep_Weighted.nl {K : PySem.W.Frag} {H H' : Hp} {x : Addr} {n : Int} {sh : List Int → List Rat} {b : Nat} (h : Rep_Weighted K H x n sh b) (e : Nl H H') : Rep_Weighted K H' x n sh b := by
  obtain ⟨ws, a, B, h1, h2⟩ := h
  exact ⟨ws, a, B, h1.nl e, h2⟩
theorem WR.rb {K : PySem.W.Frag} {H : Hp} {x : Addr} {ws : List Int} {a : Int} (h : WR K H x ws a) : RB (He.ga K "Weighted") H x ws.length := by
  obtain ⟨⟨dx, t, h1, h2⟩, h3, _⟩ := h
  refine ⟨dx, _, h1, rfl, fun m hm => ?_, by omega, by omega⟩
  have e1 : (m == ("many" : Str)) = false := by revert m; decide +kernel
  have e2 : (m == ("weights" : Str)) = false := by revert m; decide +kernel
  have e3 : (m == ("aside" : Str)) = false := by revert m; decide +kernel
  simp only [wF, List.lookup, e1, e2, e3]
theorem Rep_Weighted.rb {K : PySem.W.Frag} {H : Hp} {x : Addr} {n : Int} {sh : List Int → List Rat} {b : Nat} (h : Rep_Weighted K H x n sh b) : RB (He.ga K "Weighted") H x n := by
  obtain ⟨ws, a, B, h1, rfl, _⟩ := h
  exact h1.rb
theorem Rep_Weighted.len {K : PySem.W.Frag} {H : Hp} {x : Addr} {n : Int} {sh : List Int → List Rat} {b : Nat} (h : Rep_Weighted K H x n sh b) (lot : List Int) : (sh lot).length = n.toNat := by
  obtain ⟨ws, a, B, h1, rfl, rfl, _⟩ := h
  unfold shW
  rw [shWi_len]
  rfl
theorem WR.rep {K : PySem.W.Frag} {H : Hp} {x : Addr} {ws : List Int} {a : Int} {B : Nat} (h : WR K H x ws a) (hw : ∀ w ∈ ws, w < 2 ^ B) (ha : a < 2 ^ B) (hB : B + 5 ≤ 13400) : Rep_Weighted K H x ws.length (shW ws a) (B + 5) := ⟨ws, a, B, h, rfl, rfl, hw, ha, Nat.le_refl _, hB⟩
/-- the total has B + 5 bits -/
theorem tot_bt {ws lot : List Int} {a : Int} {B : Nat} (hp : ∀ w ∈ ws, 1 ≤ w) (ha0 : 1 ≤ a) (hw : ∀ w ∈ ws, w < 2 ^ B) (ha : a < 2 ^ B) (hl : lot.length ≤ 24) : 1 ≤ a + wsum ws lot ∧ (a + wsum ws lot).natAbs < 2 ^ (B + 5) := by
  have h1 := wsum_nonneg hp lot
  have h2 := wsum_le (B := 2 ^ B) (by exact_mod_cast Nat.zero_le _) (fun w hx => by have := hw w hx; omega) lot
  have h3 : (lot.length : Int) * 2 ^ B ≤ 24 * 2 ^ B := Int.mul_le_mul_of_nonneg_right (by omega) (by exact_mod_cast Nat.zero_le _)
  refine ⟨by omega, ?_⟩
  have h4 : a + wsum ws lot < 32 * 2 ^ B := by omega
  have h5 : ((a + wsum ws lot).natAbs : Int) < ((2 ^ (B + 5) : Nat) : Int) := by
    rw [Int.natAbs_of_nonneg (by omega), Nat.pow_add]
    push_cast
    omega
  exact_mod_cast h5
theorem others_lot {n : Int} (hn : 0 ≤ n) (p : Nat → Bool) : IsLot n (((List.range n.toNat).filter p).map fun k : Nat => (k : Int)) := by
  constructor
  · rw [List.pairwise_map]
    exact (List.pairwise_lt_range.filter _).imp fun h => by omega
  · intro x hx
    obtain ⟨k, hk, rfl⟩ := List.mem_map.mp hx
    have := List.mem_range.mp (List.mem_filter.mp hk).1
    omega

--lib
/-! ### Unsure: what comes of its making -/
inductive UOut where
  | many (n : Nat)
  | num (w : Str) (v : V)
  | made
def ufb : List Int → List Int → Nat → Option (Str × Nat)
  | l :: ls, h :: hs, i => if l < 1 then some ("lows", i) else if h < l then some ("highs", i) else ufb ls hs (i + 1)
  | _, _, _ => none
def uOut (ls hs : List Int) (a0 a1 : Int) : UOut :=
  if 24 < ls.length then .many ls.length else if hs.length ≠ ls.length then .num "highs" .non else
  match ufb ls hs 0 with
  | some (w, i) => .num w (.int (i : Nat))
  | none => if a0 < 1 then .num "aside" (.int 0) else if a1 < a0 then .num "aside" (.int 1) else .made
theorem ufb_step {ls hs : List Int} {i : Nat} (hi : i < ls.length) (hl : hs.length = ls.length) : ufb (ls.drop i) (hs.drop i) i = if ls.getD i 0 < 1 then some (("lows" : Str), i) else if hs.getD i 0 < ls.getD i 0 then some (("highs" : Str), i) else ufb (ls.drop (i + 1)) (hs.drop (i + 1)) (i + 1) := by
  rw [List.drop_eq_getElem_cons hi, List.drop_eq_getElem_cons (show i < hs.length by omega), getD_get _ _ _ hi, getD_get hs _ _ (by omega)]
  rfl
theorem ufb_end {ls hs : List Int} {i : Nat} (hi : ls.length ≤ i) : ufb (ls.drop i) (hs.drop i) i = none := by
  rw [List.drop_eq_nil_of_le hi]
  rfl
/-- right numbers -/
structure GoodU (ls hs : List Int) (a0 a1 : Int) : Prop where
  len : ls.length ≤ 24
  same : hs.length = ls.length
  low : ∀ i, i < ls.length → 1 ≤ ls.getD i 0 ∧ ls.getD i 0 ≤ hs.getD i 0
  apos : 1 ≤ a0
  ale : a0 ≤ a1
theorem ufb_none : ∀ {ls hs : List Int} {i : Nat}, hs.length = ls.length → ufb ls hs i = none → ∀ j, j < ls.length → 1 ≤ ls.getD j 0 ∧ ls.getD j 0 ≤ hs.getD j 0
  | [], hs, i, _, _, j, hj => by simp at hj
  | l :: ls, [], i, hl, _, j, hj => by simp at hl
  | l :: ls, h :: hs, i, hl, e, j, hj => by
    unfold ufb at e
    split at e
    · cases e
    · split at e
      · cases e
      · cases j with
        | zero => simp; omega
        | succ j =>
          have := ufb_none (by simpa using hl) e j (by simpa using hj)
          simpa using this
theorem ufb_some : ∀ {ls hs : List Int} {i : Nat}, hs.length = ls.length → (∀ j, j < ls.length → 1 ≤ ls.getD j 0 ∧ ls.getD j 0 ≤ hs.getD j 0) → ufb ls hs i = none
  | [], hs, i, _, _ => by unfold ufb; rfl
  | l :: ls, [], i, hl, _ => by simp at hl
  | l :: ls, h :: hs, i, hl, e => by
    have h0 := e 0 (by simp)
    simp at h0
    unfold ufb
    rw [if_neg (by omega), if_neg (by omega)]
    exact ufb_some (by simpa using hl) fun j hj => by
      have := e (j + 1) (by simpa using hj)
      simpa using this
theorem uOut_made {ls hs : List Int} {a0 a1 : Int} : uOut ls hs a0 a1 = .made ↔ GoodU ls hs a0 a1 := by
  unfold uOut
  constructor
  · intro h
    split at h
    · cases h
    · split at h
      · cases h
      · split at h
        · cases h
        · rename_i h1 h2 h3
          split at h
          · cases h
          · split at h
            · cases h
            · exact ⟨by omega, by omega, ufb_none (by omega) h3, by omega, by omega⟩
  · intro g
    rw [if_neg (by have := g.len; omega), if_neg (by rw [g.same]; simp), ufb_some g.same g.low]
    show (if a0 < 1 then _ else _) = _
    rw [if_neg (by have := g.apos; omega), if_neg (by have := g.ale; omega)]
/-- an Unsure stands at x -/
def UR (K : PySem.W.Frag) (H : Hp) (x : Addr) (ls hs : List Int) (a0 a1 : Int) : Prop := (∃ dx t1 t2 t3, At H x (.ins (He.ga K "Unsure") dx [("many", .int ls.length), ("lows", .ref t1), ("highs", .ref t2), ("aside", .ref t3)]) ∧ At H t1 (.tup (ls.map V.int)) ∧ At H t2 (.tup (hs.map V.int)) ∧ At H t3 (.tup [.int a0, .int a1])) ∧ GoodU ls hs a0 a1
theorem UR.ex {K : PySem.W.Frag} {H H' : Hp} {x : Addr} {ls hs : List Int} {a0 a1 : Int} (h : UR K H x ls hs a0 a1) (e : Ex H H') : UR K H' x ls hs a0 a1 := by
  obtain ⟨⟨dx, t1, t2, t3, h1, h2, h3, h4⟩, g⟩ := h
  exact ⟨⟨dx, t1, t2, t3, e.get h1, e.get h2, e.get h3, e.get h4⟩, g⟩
theorem UR.nl {K : PySem.W.Frag} {H H' : Hp} {x : Addr} {ls hs : List Int} {a0 a1 : Int} (h : UR K H x ls hs a0 a1) (e : Nl H H') : UR K H' x ls hs a0 a1 := by
  obtain ⟨⟨dx, t1, t2, t3, h1, h2, h3, h4⟩, g⟩ := h
  exact ⟨⟨dx, t1, t2, t3, e.get (fun l z => by cases z) h1, e.get (fun l z => by cases z) h2, e.get (fun l z => by cases z) h3, e.get (fun l z => by cases z) h4⟩, g⟩
theorem urE {K : PySem.W.Frag} {H H' : Hp} {x : Addr} {ls hs : List Int} {a0 a1 : Int} (h : UR K H x ls hs a0 a1) (e : Exs H H') : UR K H' x ls hs a0 a1 := h.ex e.ex
theorem urN {K : PySem.W.Frag} {H H' : Hp} {x : Addr} {ls hs : List Int} {a0 a1 : Int} (h : UR K H x ls hs a0 a1) (e : Nls H H') : UR K H' x ls hs a0 a1 := h.nl e.nl
/-- the errors of its making -/
def UErr (K : PySem.W.Frag) (o : UOut) (E : XK) (H0 : Hp) : Prop := match o with
  | .many n => ∀ d H', Ex H0 H' → At H' d (.xd [("most", .int 24), ("many", .int (n : Nat))]) → E (.ref (He.ga K "TooMany")) (some d) H'
  | .num w v => ∀ d H', Ex H0 H' → At H' d (.xd [("at", v), ("what", .str w)]) → E (.ref (He.ga K "BadNumber")) (some d) H'
  | .made => True

--lib
/-! ### weights within bounds: the numbers -/
/-- the weights at the rate q -/
def wAt (ls part ps : List Int) (q : Rat) (dv cv : List Int) : List Int := (List.range ls.length).map fun t : Nat => if (t : Int) ∈ part then (if q ≤ ((ps.getD t 0 : Int) : Rat) then dv.getD t 0 else cv.getD t 0) else ls.getD t 0
theorem wAt_len (ls part ps : List Int) (q : Rat) (dv cv : List Int) : (wAt ls part ps q dv cv).length = ls.length := by unfold wAt; simp
theorem wAt_get (ls part ps : List Int) (q : Rat) (dv cv : List Int) {t : Nat} (h : t < ls.length) : (wAt ls part ps q dv cv).getD t 0 = if (t : Int) ∈ part then (if q ≤ ((ps.getD t 0 : Int) : Rat) then dv.getD t 0 else cv.getD t 0) else ls.getD t 0 := by
  rw [getD_get _ _ _ (by rw [wAt_len]; exact h)]
  unfold wAt
  simp
theorem wAt_nil (ls ps : List Int) (q : Rat) (dv cv : List Int) : wAt ls [] ps q dv cv = ls := by
  apply List.ext_getElem
  · exact wAt_len _ _ _ _ _ _
  · intro i h1 h2
    rw [← getD_get _ _ 0 h1, ← getD_get _ _ 0 h2, wAt_get _ _ _ _ _ _ h2]
    simp
theorem wAt_snoc (ls part ps : List Int) (q : Rat) (dv cv : List Int) {t : Int} (h0 : 0 ≤ t) (h1 : t < ls.length) : (wAt ls part ps q dv cv).set t.toNat (if q ≤ ((ps.getD t.toNat 0 : Int) : Rat) then dv.getD t.toNat 0 else cv.getD t.toNat 0) = wAt ls (part ++ [t]) ps q dv cv := by
  obtain ⟨t, rfl⟩ := Int.eq_ofNat_of_zero_le h0
  apply List.ext_getElem
  · rw [List.length_set, wAt_len, wAt_len]
  · intro i h2 h3
    rw [wAt_len] at h3
    rw [List.getElem_set]
    have e : (wAt ls (part ++ [(t : Int)]) ps q dv cv)[i]'(by rw [wAt_len]; exact h3) = (wAt ls (part ++ [(t : Int)]) ps q dv cv).getD i 0 := (getD_get _ _ 0 _).symm
    rw [e, wAt_get _ _ _ _ _ _ h3]
    by_cases hi : t = i
    · subst hi; simp
    · have e2 : (wAt ls part ps q dv cv)[i]'(by rw [wAt_len]; exact h3) = (wAt ls part ps q dv cv).getD i 0 := (getD_get _ _ 0 _).symm
      have e' : ¬ (i : Int) = (t : Int) := by omega
      rw [if_neg (show ¬ (t : Int).toNat = i by omega), e2, wAt_get _ _ _ _ _ _ h3]
      simp [e']
/-- within the bounds -/
def Box (ls hs ws : List Int) : Prop := ws.length = ls.length ∧ ∀ t, t < ls.length → ls.getD t 0 ≤ ws.getD t 0 ∧ ws.getD t 0 ≤ hs.getD t 0
theorem lin_sumU (l : List Int) (f g : Int → Int) (den num : Int) : (l.map fun t => f t * (g t * den - num)).sum = (l.map fun t => f t * g t).sum * den - (l.map f).sum * num := by
  induction l with
  | nil => simp
  | cons a r ih =>
    simp only [List.map_cons, List.sum_cons, ih]
    grind
/-- gains at the rate num over den -/
def gsum (ws ps lot : List Int) (den num : Int) : Int := (lot.map fun t => ws.getD t.toNat 0 * (ps.getD t.toNat 0 * den - num)).sum
theorem gsum_eq (ws ps lot : List Int) (den num : Int) : gsum ws ps lot den num = wpsum ws ps lot * den - wsum ws lot * num := by
  unfold gsum wpsum wsum
  exact lin_sumU lot _ _ den num
theorem gsum_le {ws us ps : List Int} {den num : Int} : ∀ {lot : List Int}, (∀ t ∈ lot, ws.getD t.toNat 0 * (ps.getD t.toNat 0 * den - num) ≤ us.getD t.toNat 0 * (ps.getD t.toNat 0 * den - num)) → gsum ws ps lot den num ≤ gsum us ps lot den num
  | [], _ => Int.le_refl _
  | t :: r, h => by
    have h1 := h t (by simp)
    have h2 := gsum_le (lot := r) fun x hx => h x (by simp [hx])
    unfold gsum at *
    simp only [List.map_cons, List.sum_cons]
    omega
/-- what the lot brings -/
def val (ws : List Int) (a : Int) (ps lot : List Int) : Rat := Rat.divInt (wpsum ws ps lot) (a + wsum ws lot)
section
variable {ws ps lot : List Int} {a : Int} {q : Rat}
theorem val_le (hT : 0 < a + wsum ws lot) : val ws a ps lot ≤ q ↔ gsum ws ps lot q.den q.num ≤ a * q.num := by
  unfold val
  rw [divI_le_q q hT, gsum_eq, Int.mul_add]
  constructor <;> intro h <;> grind
theorem le_val (hT : 0 < a + wsum ws lot) : q ≤ val ws a ps lot ↔ a * q.num ≤ gsum ws ps lot q.den q.num := by
  have h := div_le (a := q.num) (c := wpsum ws ps lot) (den1 q) hT
  rw [← rat_eq q] at h
  unfold val
  rw [h, gsum_eq, Int.mul_add]
  constructor <;> intro h <;> grind
theorem val_eq (hT : 0 < a + wsum ws lot) (h : val ws a ps lot = q) : gsum ws ps lot q.den q.num = a * q.num :=
  Int.le_antisymm ((val_le hT).mp (by rw [h]; exact Rat.le_refl)) ((le_val hT).mp (by rw [h]; exact Rat.le_refl))
end
theorem box_pos {ls hs ws : List Int} {a0 a1 : Int} (g : GoodU ls hs a0 a1) (b : Box ls hs ws) : ∀ w ∈ ws, 1 ≤ w := fun w hw => by
  obtain ⟨i, hi, rfl⟩ := List.mem_iff_getElem.mp hw
  have h1 := g.low i (by rw [← b.1]; exact hi)
  have h2 := b.2 i (by rw [← b.1]; exact hi)
  rw [getD_get ws _ _ hi] at h2
  omega
theorem wsum_pos {ls hs ws : List Int} {a0 a1 a : Int} (g : GoodU ls hs a0 a1) (b : Box ls hs ws) (ha : 1 ≤ a) (lot : List Int) : 0 < a + wsum ws lot := by
  have := wsum_nonneg (box_pos g b) lot
  omega
theorem wAt_box {ls hs dv cv ps lot : List Int} {a0 a1 : Int} (g : GoodU ls hs a0 a1) (hd : (dv = ls ∧ cv = hs) ∨ (dv = hs ∧ cv = ls)) (q : Rat) : Box ls hs (wAt ls lot ps q dv cv) := by
  refine ⟨wAt_len _ _ _ _ _ _, fun t ht => ?_⟩
  have := g.low t ht
  rw [wAt_get _ _ _ _ _ _ ht]
  rcases hd with ⟨rfl, rfl⟩ | ⟨rfl, rfl⟩ <;> (split <;> first | (split <;> omega) | omega)
/-- the lows for the dear things, the highs for the others: the least gains -/
theorem min_g' {ls hs ws ps lot : List Int} (hl : IsLot ls.length lot) (b : ∀ t, t < ls.length → ls.getD t 0 ≤ ws.getD t 0 ∧ ws.getD t 0 ≤ hs.getD t 0) (q : Rat) : gsum (wAt ls lot ps q ls hs) ps lot q.den q.num ≤ gsum ws ps lot q.den q.num := by
  refine gsum_le fun t ht => ?_
  have h1 := hl.2 t ht
  have h2 := b t.toNat (by omega)
  rw [wAt_get _ _ _ _ _ _ (show t.toNat < ls.length by omega), if_pos (by rw [Int.toNat_of_nonneg h1.1]; exact ht)]
  by_cases h : q ≤ ((ps.getD t.toNat 0 : Int) : Rat)
  · rw [if_pos h]
    have h3 := (le_int q _).mp h
    exact Int.mul_le_mul_of_nonneg_right h2.1 (by omega)
  · rw [if_neg h]
    have h3 : ¬ q.num ≤ ps.getD t.toNat 0 * q.den := fun z => h ((le_int q _).mpr z)
    exact Int.mul_le_mul_of_nonpos_right h2.2 (by omega)
theorem max_g' {ls hs ws ps lot : List Int} (hl : IsLot ls.length lot) (b : ∀ t, t < ls.length → ls.getD t 0 ≤ ws.getD t 0 ∧ ws.getD t 0 ≤ hs.getD t 0) (q : Rat) : gsum ws ps lot q.den q.num ≤ gsum (wAt ls lot ps q hs ls) ps lot q.den q.num := by
  refine gsum_le fun t ht => ?_
  have h1 := hl.2 t ht
  have h2 := b t.toNat (by omega)
  rw [wAt_get _ _ _ _ _ _ (show t.toNat < ls.length by omega), if_pos (by rw [Int.toNat_of_nonneg h1.1]; exact ht)]
  by_cases h : q ≤ ((ps.getD t.toNat 0 : Int) : Rat)
  · rw [if_pos h]
    have h3 := (le_int q _).mp h
    exact Int.mul_le_mul_of_nonneg_right h2.2 (by omega)
  · rw [if_neg h]
    have h3 : ¬ q.num ≤ ps.getD t.toNat 0 * q.den := fun z => h ((le_int q _).mpr z)
    exact Int.mul_le_mul_of_nonpos_right h2.1 (by omega)
theorem min_g {ls hs ws ps lot : List Int} (hl : IsLot ls.length lot) (b : Box ls hs ws) (q : Rat) : gsum (wAt ls lot ps q ls hs) ps lot q.den q.num ≤ gsum ws ps lot q.den q.num := min_g' hl b.2 q
theorem max_g {ls hs ws ps lot : List Int} (hl : IsLot ls.length lot) (b : Box ls hs ws) (q : Rat) : gsum ws ps lot q.den q.num ≤ gsum (wAt ls lot ps q hs ls) ps lot q.den q.num := max_g' hl b.2 q
theorem count_two {p q : Int → Bool} : ∀ {l : List Int}, (∀ t ∈ l, p t = true → q t = true) → l.countP p ≤ l.countP q ∧ (l.countP p = l.countP q → ∀ t ∈ l, p t = q t)
  | [], _ => by simp
  | t :: r, h => by
    obtain ⟨h1, h2⟩ := count_two (l := r) fun x hx => h x (by simp [hx])
    have h3 := h t (by simp)
    rw [List.countP_cons, List.countP_cons]
    cases e1 : p t <;> cases e2 : q t
    · simp
      refine ⟨h1, fun e => ⟨by rw [e1, e2], h2 e⟩⟩
    · simp
      exact ⟨by omega, fun e => by omega⟩
    · rw [e1, e2] at h3; simp at h3
    · simp
      refine ⟨h1, fun e => ⟨by rw [e1, e2], h2 e⟩⟩
theorem ndec_iff {a b : Prop} [Decidable a] [Decidable b] (h : (!decide a) = (!decide b)) : a ↔ b := by by_cases ha : a <;> by_cases hb : b <;> simp_all
/-- the walk to the settled weights ends -/
theorem prog {ls hs dv cv ps lot : List Int} {a0 a1 a : Int} (g : GoodU ls hs a0 a1) (hl : IsLot ls.length lot) (ha : 1 ≤ a) (hd : (dv = ls ∧ cv = hs) ∨ (dv = hs ∧ cv = ls)) :
    ∃ cnt : Rat → Nat, ∀ ws, Box ls hs ws → wAt ls lot ps (val (wAt ls lot ps (val ws a ps lot) dv cv) a ps lot) dv cv = wAt ls lot ps (val ws a ps lot) dv cv ∨ cnt (val (wAt ls lot ps (val ws a ps lot) dv cv) a ps lot) < cnt (val ws a ps lot) := by
  have same : ∀ r r' : Rat, (∀ t ∈ lot, (r ≤ ((ps.getD t.toNat 0 : Int) : Rat) ↔ r' ≤ ((ps.getD t.toNat 0 : Int) : Rat))) → wAt ls lot ps r' dv cv = wAt ls lot ps r dv cv := fun r r' h => by
    unfold wAt
    apply List.map_congr_left
    intro t ht
    by_cases hm : (t : Int) ∈ lot
    · have := h t hm
      rw [Int.toNat_natCast] at this
      simp only [hm, if_true, this]
    · simp only [hm, if_false]
  rcases hd with ⟨rfl, rfl⟩ | ⟨rfl, rfl⟩
  · refine ⟨fun r => lot.countP fun t => !decide (r ≤ ((ps.getD t.toNat 0 : Int) : Rat)), fun ws b => ?_⟩
    have h1 : val (wAt dv lot ps (val ws a ps lot) dv cv) a ps lot ≤ val ws a ps lot := by
      rw [val_le (wsum_pos g (wAt_box g (.inl ⟨rfl, rfl⟩) _) ha lot)]
      exact Int.le_trans (min_g hl b _) (Int.le_of_eq (val_eq (wsum_pos g b ha lot) rfl))
    generalize val (wAt dv lot ps (val ws a ps lot) dv cv) a ps lot = r' at *
    generalize val ws a ps lot = r at *
    obtain ⟨c1, c2⟩ := count_two (l := lot) (p := fun t => !decide (r' ≤ ((ps.getD t.toNat 0 : Int) : Rat))) (q := fun t => !decide (r ≤ ((ps.getD t.toNat 0 : Int) : Rat))) fun t _ h => by
      simp only [Bool.not_eq_true', decide_eq_false_iff_not] at h ⊢
      intro z
      exact h (Rat.le_trans h1 z)
    by_cases e : (lot.countP fun t => !decide (r' ≤ ((ps.getD t.toNat 0 : Int) : Rat))) = lot.countP fun t => !decide (r ≤ ((ps.getD t.toNat 0 : Int) : Rat))
    · left
      refine same r r' fun t ht => ?_
      exact (ndec_iff (c2 e t ht)).symm
    · right
      show List.countP _ _ < List.countP _ _
      omega
  · refine ⟨fun r => lot.countP fun t => decide (r ≤ ((ps.getD t.toNat 0 : Int) : Rat)), fun ws b => ?_⟩
    have h1 : val ws a ps lot ≤ val (wAt cv lot ps (val ws a ps lot) dv cv) a ps lot := by
      rw [le_val (wsum_pos g (wAt_box g (.inr ⟨rfl, rfl⟩) _) ha lot)]
      exact Int.le_trans (Int.le_of_eq (val_eq (wsum_pos g b ha lot) rfl).symm) (max_g hl b _)
    generalize val (wAt cv lot ps (val ws a ps lot) dv cv) a ps lot = r' at *
    generalize val ws a ps lot = r at *
    obtain ⟨c1, c2⟩ := count_two (l := lot) (p := fun t => decide (r' ≤ ((ps.getD t.toNat 0 : Int) : Rat))) (q := fun t => decide (r ≤ ((ps.getD t.toNat 0 : Int) : Rat))) fun t _ h => by
      simp only [decide_eq_true_eq] at h ⊢
      exact Rat.le_trans h1 h
    by_cases e : (lot.countP fun t => decide (r' ≤ ((ps.getD t.toNat 0 : Int) : Rat))) = lot.countP fun t => decide (r ≤ ((ps.getD t.toNat 0 : Int) : Rat))
    · left
      refine same r r' fun t ht => ?_
      exact (decide_eq_decide.mp (c2 e t ht)).symm
    · right
      show List.countP _ _ < List.countP _ _
      omega
theorem box_lows {ls hs : List Int} {a0 a1 : Int} (g : GoodU ls hs a0 a1) : Box ls hs ls := ⟨rfl, fun t ht => ⟨Int.le_refl _, (g.low t ht).2⟩⟩
theorem box_lt {ls hs ws : List Int} {B : Int} (b : Box ls hs ws) (hs' : hs.length = ls.length) (hb : ∀ w ∈ hs, w < B) : ∀ w ∈ ws, w < B := fun w hw => by
  obtain ⟨i, hi, rfl⟩ := List.mem_iff_getElem.mp hw
  have hi2 : i < hs.length := by rw [hs', ← b.1]; exact hi
  have h2 := b.2 i (by rw [← b.1]; exact hi)
  rw [getD_get ws _ _ hi, getD_get hs _ _ hi2] at h2
  have := hb _ (List.getElem_mem hi2)
  omega
theorem val_nonneg {ws ps lot : List Int} {a : Int} (hw : ∀ w ∈ ws, 1 ≤ w) (hp : ∀ p ∈ ps, 0 ≤ p) (ha : 1 ≤ a) : 0 ≤ (val ws a ps lot).num := by
  have z : ∀ {l : List Int} (_ : ∀ w ∈ l, 0 ≤ w) (i : Nat), 0 ≤ l.getD i 0 := fun {l} h i => by
    rw [List.getD_eq_getElem?_getD]
    cases e : l[i]? with
    | none => simp
    | some w => exact h w (List.mem_of_getElem? e)
  have h1 : ∀ l : List Int, 0 ≤ wpsum ws ps l := fun l => by
    unfold wpsum
    induction l with
    | nil => simp
    | cons t r ih =>
      rw [List.map_cons, List.sum_cons]
      have := Int.mul_nonneg (z (fun w hx => by have := hw w hx; omega) t.toNat) (z hp t.toNat)
      omega
  have h2 := wsum_nonneg hw lot
  rw [Rat.num_nonneg]
  unfold val
  have h3 := le_divI (f := 0) (t := wpsum ws ps lot) (show 0 < a + wsum ws lot by omega)
  have := h3.mpr (by have := h1 lot; omega)
  exact_mod_cast this
theorem wpsum_btU {ws ps : List Int} (hw : ∀ w ∈ ws, w.natAbs < 2 ^ 64) (hp : ∀ p ∈ ps, p.natAbs < 2 ^ 64) : ∀ lot : List Int, (wpsum ws ps lot).natAbs ≤ lot.length * 2 ^ 128
  | [] => by simp [wpsum]
  | t :: r => by
    have ih := wpsum_btU hw hp r
    have z : ∀ {l : List Int} (_ : ∀ w ∈ l, w.natAbs < 2 ^ 64) (i : Nat), (l.getD i 0).natAbs ≤ 2 ^ 64 := fun {l} h i => by
      rw [List.getD_eq_getElem?_getD]
      cases e : l[i]? with
      | none => simp
      | some w => exact Nat.le_of_lt (h w (List.mem_of_getElem? e))
    have h1 := Nat.mul_le_mul (z hw t.toNat) (z hp t.toNat)
    have e : wpsum ws ps (t :: r) = ws.getD t.toNat 0 * ps.getD t.toNat 0 + wpsum ws ps r := by unfold wpsum; simp
    have h2 := Int.natAbs_add_le (ws.getD t.toNat 0 * ps.getD t.toNat 0) (wpsum ws ps r)
    rw [Int.natAbs_mul] at h2
    rw [e, List.length_cons, Nat.add_mul]
    omega

--lib
/-! ### two lots by weights within bounds -/
theorem getD_set {ws : List Int} {v : Nat} {x : Int} (hv : v < ws.length) (i : Nat) : (ws.set v x).getD i 0 = if i = v then x else ws.getD i 0 := by
  rw [List.getD_eq_getElem?_getD, List.getElem?_set]
  by_cases h : v = i
  · subst h
    rw [if_pos rfl, if_pos hv, if_pos rfl]
    rfl
  · rw [if_neg h, if_neg (fun z => h z.symm), ← List.getD_eq_getElem?_getD]
def lsum (ws : List Int) (k : Int → Int) (lot : List Int) : Int := (lot.map fun t => ws.getD t.toNat 0 * k t).sum
theorem wsum_l (ws lot : List Int) : wsum ws lot = lsum ws (fun _ => 1) lot := by unfold wsum lsum; simp
theorem wpsum_l (ws ps lot : List Int) : wpsum ws ps lot = lsum ws (fun t => ps.getD t.toNat 0) lot := rfl
theorem lsum_set {ws : List Int} {k : Int → Int} {v : Nat} (x : Int) (hv : v < ws.length) : ∀ {lot : List Int}, lot.Nodup → (∀ t ∈ lot, 0 ≤ t) → lsum (ws.set v x) k lot = lsum (ws.set v 0) k lot + (if (v : Int) ∈ lot then x * k v else 0)
  | [], _, _ => by simp [lsum]
  | t :: r, hn, h0 => by
    obtain ⟨n1, n2⟩ := List.nodup_cons.mp hn
    have ih := lsum_set (ws := ws) (k := k) x hv n2 fun s hs => h0 s (by simp [hs])
    have ht := h0 t (by simp)
    unfold lsum at *
    simp only [List.map_cons, List.sum_cons]
    rw [ih, getD_set hv, getD_set hv]
    by_cases e : t.toNat = v
    · have e' : (v : Int) = t := by omega
      have nr : (v : Int) ∉ r := by rw [e']; exact n1
      rw [if_pos e, if_pos e, if_neg nr, if_pos (by rw [e']; simp), e']
      omega
    · have e' : ¬ (v : Int) = t := by omega
      rw [if_neg e, if_neg e]
      by_cases hm : (v : Int) ∈ r
      · rw [if_pos hm, if_pos (by simp [hm])]; omega
      · rw [if_neg hm, if_neg (by simp [hm, e'])]; omega
/-- how much the first lot brings more, crosswise -/
def fcr (ws ps F S : List Int) (a : Int) : Int := wpsum ws ps F * (a + wsum ws S) - wpsum ws ps S * (a + wsum ws F)
theorem fcr_aff {ws ps F S : List Int} {a : Int} {n : Int} {v : Nat} (hv : v < ws.length) (hF : IsLot n F) (hS : IsLot n S) (l h x : Int) : fcr (ws.set v x) ps F S a * (h - l) = fcr (ws.set v l) ps F S a * (h - x) + fcr (ws.set v h) ps F S a * (x - l) := by
  have nF : F.Nodup := hF.1.imp fun h => by omega
  have nS : S.Nodup := hS.1.imp fun h => by omega
  have zF : ∀ t ∈ F, 0 ≤ t := fun t ht => (hF.2 t ht).1
  have zS : ∀ t ∈ S, 0 ≤ t := fun t ht => (hS.2 t ht).1
  unfold fcr
  simp only [wsum_l, wpsum_l]
  rw [lsum_set x hv nF zF, lsum_set x hv nS zS, lsum_set l hv nF zF, lsum_set l hv nS zS, lsum_set h hv nF zF, lsum_set h hv nS zS]
  rw [lsum_set x hv nF zF, lsum_set x hv nS zS, lsum_set l hv nF zF, lsum_set l hv nS zS, lsum_set h hv nF zF, lsum_set h hv nS zS]
  generalize lsum (ws.set v 0) (fun t => ps.getD t.toNat 0) F = P
  generalize lsum (ws.set v 0) (fun t => ps.getD t.toNat 0) S = Q
  generalize lsum (ws.set v 0) (fun _ => 1) F = R
  generalize lsum (ws.set v 0) (fun _ => 1) S = T
  generalize ps.getD (v : Int).toNat 0 = p
  split <;> split <;> grind
theorem fcr_a {ws ps F S : List Int} (a a0 a1 : Int) : fcr ws ps F S a * (a1 - a0) = fcr ws ps F S a0 * (a1 - a) + fcr ws ps F S a1 * (a - a0) := by
  unfold fcr
  generalize wpsum ws ps F = P
  generalize wpsum ws ps S = Q
  generalize wsum ws F = R
  generalize wsum ws S = T
  grind
theorem nn_of_mul {x k : Int} (hk : 0 < k) (h : 0 ≤ x * k) : 0 ≤ x := by
  by_cases hx : 0 ≤ x
  · exact hx
  · have := Int.mul_neg_of_neg_of_pos (show x < 0 by omega) hk
    omega
theorem fcr_congr {ws us ps F S : List Int} {a : Int} (h : ∀ t, t ∈ F ∨ t ∈ S → ws.getD t.toNat 0 = us.getD t.toNat 0) : fcr ws ps F S a = fcr us ps F S a := by
  have w : ∀ l : List Int, (∀ t ∈ l, ws.getD t.toNat 0 = us.getD t.toNat 0) → wsum ws l = wsum us l ∧ wpsum ws ps l = wpsum us ps l := fun l hl => by
    unfold wsum wpsum
    exact ⟨by rw [List.map_congr_left hl], by rw [List.map_congr_left fun t ht => by rw [hl t ht]]⟩
  unfold fcr
  rw [(w F fun t ht => h t (.inl ht)).1, (w F fun t ht => h t (.inl ht)).2, (w S fun t ht => h t (.inr ht)).1, (w S fun t ht => h t (.inr ht)).2]
/-- what holds at the corners holds within -/
theorem fcr_box {ls hs ps F S : List Int} {a : Int} {vs : List Nat} (hl : hs.length = ls.length) (hlow : ∀ t, t < ls.length → ls.getD t 0 ≤ hs.getD t 0) (hF : IsLot ls.length F) (hS : IsLot ls.length S) (hv : ∀ v ∈ vs, v < ls.length)
    (hc : ∀ ws, ws.length = ls.length → (∀ v ∈ vs, ws.getD v 0 = ls.getD v 0 ∨ ws.getD v 0 = hs.getD v 0) → 0 ≤ fcr ws ps F S a) :
    ∀ (us : List Nat), (∀ u ∈ us, u ∈ vs) → ∀ ws, ws.length = ls.length → (∀ v ∈ vs, (v ∈ us → ls.getD v 0 ≤ ws.getD v 0 ∧ ws.getD v 0 ≤ hs.getD v 0) ∧ (v ∉ us → ws.getD v 0 = ls.getD v 0 ∨ ws.getD v 0 = hs.getD v 0)) → 0 ≤ fcr ws ps F S a
  | [], _, ws, hw, h => hc ws hw fun v hm => (h v hm).2 (by simp)
  | u :: us, hu, ws, hw, h => by
    have huv := hu u (by simp)
    have hun := hv u huv
    have bu := (h u huv).1 (by simp)
    have ih := fcr_box hl hlow hF hS hv hc us fun z hz => hu z (by simp [hz])
    have edge : ∀ x, x = ls.getD u 0 ∨ x = hs.getD u 0 → 0 ≤ fcr (ws.set u x) ps F S a := fun x hx => by
      refine ih _ (by rw [List.length_set]; exact hw) fun v hm => ?_
      rw [getD_set (by omega)]
      by_cases e : v = u
      · subst e
        rw [if_pos rfl]
        have := hlow v hun
        refine ⟨fun _ => ?_, fun _ => hx⟩
        rcases hx with rfl | rfl <;> omega
      · rw [if_neg e]
        exact ⟨fun z => (h v hm).1 (by simp [z]), fun z => (h v hm).2 (by simp [z, e])⟩
    by_cases e : ls.getD u 0 = hs.getD u 0
    · have : ws.set u (ls.getD u 0) = ws := by
        have e2 : ls.getD u 0 = ws[u]'(by omega) := by rw [← getD_get ws u 0 (by omega)]; omega
        rw [e2, List.set_getElem_self]
      have := edge (ls.getD u 0) (.inl rfl)
      rw [‹ws.set u (ls.getD u 0) = ws›] at this
      exact this
    · have af := fcr_aff (ws := ws) (ps := ps) (a := a) (v := u) (by omega) hF hS (ls.getD u 0) (hs.getD u 0) (ws.getD u 0)
      have self : ws.set u (ws.getD u 0) = ws := by rw [getD_get ws u 0 (by omega), List.set_getElem_self]
      rw [self] at af
      refine nn_of_mul (show 0 < hs.getD u 0 - ls.getD u 0 by have := hlow u hun; omega) ?_
      rw [af]
      have h1 := Int.mul_nonneg (edge _ (.inl rfl)) (show 0 ≤ hs.getD u 0 - ws.getD u 0 by omega)
      have h2 := Int.mul_nonneg (edge _ (.inr rfl)) (show 0 ≤ ws.getD u 0 - ls.getD u 0 by omega)
      omega
/-- the weights of a corner -/
def cW (ls hs : List Int) (vs : List Nat) (c : Nat) : Nat → List Int
  | 0 => ls
  | i + 1 => if c / 2 ^ i % 2 = 1 then (cW ls hs vs c i).set (vs.getD i 0) (hs.getD (vs.getD i 0) 0) else cW ls hs vs c i
theorem cW_len (ls hs : List Int) (vs : List Nat) (c : Nat) : ∀ i, (cW ls hs vs c i).length = ls.length
  | 0 => rfl
  | i + 1 => by
    unfold cW
    split
    · rw [List.length_set, cW_len ls hs vs c i]
    · exact cW_len ls hs vs c i
theorem cW_get {ls hs : List Int} {vs : List Nat} {c : Nat} (hv : ∀ v ∈ vs, v < ls.length) (hn : vs.Nodup) : ∀ i, i ≤ vs.length → (∀ j, j < i → (cW ls hs vs c i).getD (vs.getD j 0) 0 = if c / 2 ^ j % 2 = 1 then hs.getD (vs.getD j 0) 0 else ls.getD (vs.getD j 0) 0) ∧ ∀ t, t ∉ vs.take i → (cW ls hs vs c i).getD t 0 = ls.getD t 0
  | 0, _ => ⟨fun j hj => by omega, fun t _ => rfl⟩
  | i + 1, hi => by
    obtain ⟨h1, h2⟩ := cW_get (c := c) (hs := hs) hv hn i (by omega)
    have hvi : vs.getD i 0 ∈ vs := by rw [getD_get _ _ _ (show i < vs.length by omega)]; exact List.getElem_mem _
    have hlt : vs.getD i 0 < (cW ls hs vs c i).length := by rw [cW_len]; exact hv _ hvi
    have hnew : vs.getD i 0 ∉ vs.take i := fun hm => by
      obtain ⟨j, hj, e⟩ := List.mem_iff_getElem.mp hm
      rw [List.length_take] at hj
      rw [List.getElem_take, getD_get _ _ _ (show i < vs.length by omega)] at e
      have := (List.getElem_inj hn).mp e
      omega
    have tk : ∀ t, t ∈ vs.take (i + 1) ↔ t ∈ vs.take i ∨ t = vs.getD i 0 := fun t => by rw [take_snoc (show i < vs.length by omega) 0, List.mem_append, List.mem_singleton]
    unfold cW
    split
    · rename_i hb
      refine ⟨fun j hj => ?_, fun t ht => ?_⟩
      · rw [getD_set hlt]
        by_cases e : j = i
        · subst e; rw [if_pos rfl, if_pos hb]
        · rw [if_neg (fun z => ?_), h1 j (by omega)]
          apply hnew
          rw [← z]
          have hj2 : j < (vs.take i).length := by rw [List.length_take]; omega
          have : (vs.take i)[j] = vs.getD j 0 := by rw [List.getElem_take, getD_get _ _ _ (show j < vs.length by omega)]
          rw [← this]
          exact List.getElem_mem _
      · rw [getD_set hlt, if_neg (fun z => ht ((tk t).mpr (.inr z))), h2 t fun z => ht ((tk t).mpr (.inl z))]
    · rename_i hb
      refine ⟨fun j hj => ?_, fun t ht => h2 t fun z => ht ((tk t).mpr (.inl z))⟩
      by_cases e : j = i
      · subst e; rw [if_neg hb, h2 _ hnew]
      · exact h1 j (by omega)
/-- a number with these bits -/
theorem bits_ex (b : Nat → Bool) : ∀ n, ∃ c, c < 2 ^ n ∧ ∀ i, i < n → (c / 2 ^ i % 2 = 1 ↔ b i = true)
  | 0 => ⟨0, by decide, fun i hi => by omega⟩
  | n + 1 => by
    obtain ⟨c, h1, h2⟩ := bits_ex b n
    have hp : 0 < 2 ^ n := Nat.pow_pos (by decide)
    refine ⟨c + (if b n then 2 ^ n else 0), ?_, fun i hi => ?_⟩
    · rw [Nat.pow_succ]; split <;> omega
    · by_cases e : i = n
      · subst e
        cases hb : b i
        · simp [Nat.div_eq_of_lt h1]
        · rw [if_pos rfl, Nat.add_div_right _ hp, Nat.div_eq_of_lt h1]; simp
      · rw [← h2 i (by omega)]
        split
        · have e2 : 2 ^ n = 2 ^ i * (2 * 2 ^ (n - i - 1)) := by
            rw [← Nat.mul_assoc, ← Nat.pow_succ, ← Nat.pow_add]
            congr 1
            omega
          rw [e2, Nat.add_mul_div_left _ _ (Nat.pow_pos (by decide)), Nat.add_mul_mod_self_left]
        · rfl

--lib
/-! ### wrong prices -/
theorem pres_set {n z : Int} {ps : List Int} {j : Nat} (h : PricesOk n ps) (hj : j < ps.length) (hz : z < 0) : PRes n (ps.set j z) (.int (j : Nat)) (j : Nat) := by
  refine .neg (by rw [List.length_set]; exact h.1) j (by rw [List.length_set]; exact hj) ?_ fun i hi => ?_
  · rw [List.getD_eq_getElem?_getD, List.getElem?_set_self hj]; exact hz
  · rw [List.getD_eq_getElem?_getD, List.getElem?_set_ne (by omega), ← List.getD_eq_getElem?_getD, getD_get _ _ _ (by omega)]
    exact h.2 _ (List.getElem_mem _)
theorem pres_snoc {n z : Int} {ps : List Int} (h : PricesOk n ps) : PRes n (ps ++ [z]) .non (-1) := .len (by rw [List.length_append, List.length_singleton]; have := h.1; omega)
theorem bt_set {z : Int} {ps : List Int} {j : Nat} (h : ∀ p ∈ ps, p.natAbs < 2 ^ 64) (hz : z.natAbs < 2 ^ 64) : ∀ p ∈ ps.set j z, p.natAbs < 2 ^ 64 := fun p hp => by
  rcases List.mem_or_eq_of_mem_set hp with hp | hp
  · exact h p hp
  · rw [hp]; exact hz
theorem bt_snoc {z : Int} {ps : List Int} (h : ∀ p ∈ ps, p.natAbs < 2 ^ 64) (hz : z.natAbs < 2 ^ 64) : ∀ p ∈ ps ++ [z], p.natAbs < 2 ^ 64 := fun p hp => by
  rcases List.mem_append.mp hp with hp | hp
  · exact h p hp
  · rw [List.mem_singleton.mp hp]; exact hz

--lib
/-! ### lists of lists of ints -/
def LLi (H : Hp) (xs : List V) (nss : List (List Int)) : Prop := xs.length = nss.length ∧ ∀ i, i < nss.length → ∃ a, xs[i]? = some (.ref a) ∧ At H a (.lst ((nss.getD i []).map V.int))
theorem LLi.ex {H H' : Hp} {xs : List V} {nss : List (List Int)} (h : LLi H xs nss) (e : Ex H H') : LLi H' xs nss := ⟨h.1, fun i hi => by
  obtain ⟨a, h1, h2⟩ := h.2 i hi
  exact ⟨a, h1, e.get h2⟩⟩
theorem LLi.nil {H : Hp} : LLi H [] [] := ⟨rfl, fun i hi => absurd hi (by simp)⟩
theorem LLi.snoc {H : Hp} {xs : List V} {nss : List (List Int)} {a : Addr} {ns : List Int} (h : LLi H xs nss) (r : At H a (.lst (ns.map V.int))) : LLi H (xs ++ [.ref a]) (nss ++ [ns]) := by
  refine ⟨by simp [h.1], fun i hi => ?_⟩
  by_cases e : i < nss.length
  · obtain ⟨c, h1, h2⟩ := h.2 i e
    refine ⟨c, by rw [List.getElem?_append_left (by rw [h.1]; exact e)]; exact h1, ?_⟩
    rw [List.getD_eq_getElem?_getD, List.getElem?_append_left e, ← List.getD_eq_getElem?_getD]
    exact h2
  · have ei : i = nss.length := by simp at hi; omega
    subst ei
    refine ⟨a, by rw [← h.1]; simp, ?_⟩
    rw [List.getD_eq_getElem?_getD]
    simpa using r
/-- what is not the list at p stands: the lists in it too, if p is none of them -/
theorem LLi.of {H H' : Hp} {xs : List V} {nss : List (List Int)} {p : Addr} (h : LLi H xs nss) (ho : ∀ b o, b ≠ p → At H b o → At H' b o) (hp : V.ref p ∉ xs) : LLi H' xs nss := ⟨h.1, fun i hi => by
  obtain ⟨a, h1, h2⟩ := h.2 i hi
  exact ⟨a, h1, ho a _ (fun z => hp (by rw [← z]; exact List.mem_of_getElem? h1)) h2⟩⟩
theorem LLi.app {H : Hp} {xs ys : List V} {nss mss : List (List Int)} (h : LLi H xs nss) (g : LLi H ys mss) : LLi H (xs ++ ys) (nss ++ mss) := by
  refine ⟨by simp [h.1, g.1], fun i hi => ?_⟩
  by_cases e : i < nss.length
  · obtain ⟨c, h1, h2⟩ := h.2 i e
    refine ⟨c, by rw [List.getElem?_append_left (by rw [h.1]; exact e)]; exact h1, ?_⟩
    rw [List.getD_eq_getElem?_getD, List.getElem?_append_left e, ← List.getD_eq_getElem?_getD]
    exact h2
  · obtain ⟨c, h1, h2⟩ := g.2 (i - nss.length) (by simp at hi; omega)
    refine ⟨c, by rw [List.getElem?_append_right (by rw [h.1]; omega), h.1]; exact h1, ?_⟩
    rw [List.getD_eq_getElem?_getD, List.getElem?_append_right (by omega), ← List.getD_eq_getElem?_getD]
    exact h2

local macro_rules | `(tactic| walk_at "ex") => `(tactic| first | with_reducible assumption | ((with_reducible apply Z.exE); exact inferInstance))
local macro_rules | `(tactic| walk_at "fr") => `(tactic| first | with_reducible assumption | ((with_reducible apply Z.frE); (with_reducible assumption); exact inferInstance))
local macro_rules | `(tactic| walk_at "fx") => `(tactic| first | with_reducible assumption | ((with_reducible apply Z.getE); (with_reducible assumption); exact inferInstance) | ((with_reducible apply Z.getTN); (with_reducible assumption); exact inferInstance) | ((with_reducible apply Z.getIN); (with_reducible assumption); exact inferInstance))
local macro_rules | `(tactic| walk_at "fl") => `(tactic| first | with_reducible assumption | ((with_reducible apply Z.lA); (with_reducible assumption); exact inferInstance) | ((with_reducible apply Z.lE); (with_reducible assumption); exact inferInstance))
local macro_rules | `(tactic| walk_at "fi") => `(tactic| first | walk_at "fl" | ((with_reducible apply Z.lU); (walk_at "fl"); exact rfl))
local macro_rules | `(tactic| walk_at "ti") => `(tactic| first | walk_at "ft" | ((with_reducible apply Z.tU); (walk_at "ft"); exact rfl))
local macro_rules | `(tactic| walk_at "ft") => `(tactic| first | with_reducible assumption | ((with_reducible apply Z.tA); (with_reducible assumption); exact inferInstance) | ((with_reducible apply Z.tE); (with_reducible assumption); exact inferInstance) | ((with_reducible apply Z.tNA); (with_reducible assumption); exact inferInstance) | ((with_reducible apply Z.tEN); (with_reducible assumption); exact inferInstance))
local macro_rules | `(tactic| walk_at "fa") => `(tactic| first | with_reducible assumption | ((with_reducible apply Z.aE); (with_reducible assumption); exact inferInstance) | ((with_reducible apply Or.inl); (walk_at "fl")) | ((with_reducible apply Or.inr); (walk_at "ft")))
local macro_rules | `(tactic| walk_at "num") => `(tactic| first | with_reducible assumption | omega | (simp only [List.length_map, List.length_append, List.length_cons, List.length_nil, List.length_range, List.length_take, List.length_drop, List.length_replicate]; omega) | (simp only [List.length_map, List.length_append, List.length_cons, List.length_nil, List.length_range, List.length_take, List.length_drop, List.length_replicate] at *; omega) | decide | exact rfl)
local macro_rules | `(tactic| walk_at "nat") => `(tactic| first | with_reducible assumption | (simp only [Int.reduceToNat]; exact rfl) | (simp only [Int.toNat_natCast]; exact rfl) | exact rfl)
local macro_rules | `(tactic| walk_at "sz") => `(tactic| first | with_reducible assumption | (show _ ≤ 16777216; walk_at "num") | (show _ < 16777216; walk_at "num"))
local macro_rules | `(tactic| walk_at "div") => `(tactic| first | with_reducible assumption | ((with_reducible apply Z.CDivZ.of); with_reducible assumption) | exact Z.CDivZ.of (L2.wide_div (b := 64) (by omega) (by omega) (by decide) (by decide)) | exact Z.CDivZ.of (L2.wide_div (b := 64) (by decide) (by decide) (by decide) (by decide)))
local macro_rules | `(tactic| walk_at "look") => `(tactic| first | with_reducible assumption | exact R.rF_top _ _ | exact R.rF_bottom _ _ | exact rfl)
local macro_rules | `(tactic| walk_at "call") => `(tactic| fail)
local macro_rules | `(tactic| walk_at "rn") => `(tactic| (first | with_reducible assumption | ((with_reducible apply R.rnE); (with_reducible assumption); exact inferInstance) | ((with_reducible apply R.rnN); (with_reducible assumption); exact inferInstance)))
local macro_rules | `(tactic| walk_at "rb") => `(tactic| (first | with_reducible assumption | ((with_reducible apply R.rbE); (with_reducible assumption); exact inferInstance) | ((with_reducible apply R.rbN); (with_reducible assumption); exact inferInstance)))
local macro_rules | `(tactic| walk_at "rl") => `(tactic| (first | with_reducible assumption | ((with_reducible apply R.rlE); (with_reducible assumption); exact inferInstance) | ((with_reducible apply R.rlN); (with_reducible assumption); exact inferInstance)))
local macro_rules | `(tactic| walk_at "call") => `(tactic| ((with_reducible apply R.u_rme); (walk_at "rb"); (decide +kernel)))
local macro_rules | `(tactic| walk_at "call") => `(tactic| ((with_reducible apply R.u_rmany); (walk_at "rb"); (with_reducible assumption); (with_reducible assumption)))
local macro_rules | `(tactic| walk_at "call") => `(tactic| ((with_reducible apply R.u_rcon); (walk_at "rb"); (with_reducible assumption); (with_reducible assumption); (decide +kernel)))
local macro_rules | `(tactic| walk_at "call") => `(tactic| ((with_reducible apply R.u_risC2); (walk_at "rb"); (with_reducible assumption); (with_reducible assumption)))
local macro_rules | `(tactic| walk_at "call") => `(tactic| ((with_reducible apply R.u_risO2); (walk_at "rb"); (with_reducible assumption)))
local macro_rules | `(tactic| walk_at "call") => `(tactic| ((with_reducible apply R.u_ixR); (walk_at "fl"); (walk_at "rl"); (walk_at "num"); (walk_at "num"); (intro ra hra)))
local macro_rules | `(tactic| walk_at "pl") => `(tactic| (first | with_reducible assumption | ((with_reducible apply R.plE); (with_reducible assumption); exact inferInstance) | ((with_reducible apply R.plN); (with_reducible assumption); exact inferInstance)))
local macro_rules | `(tactic| walk_at "call") => `(tactic| ((with_reducible apply R.u_ixP); (walk_at "fl"); (walk_at "pl"); (walk_at "num"); (walk_at "num"); (intro pa hpa)))
local macro_rules | `(tactic| walk_at "wr") => `(tactic| (first | with_reducible assumption | ((with_reducible apply R.wrE); (with_reducible assumption); exact inferInstance) | ((with_reducible apply R.wrN); (with_reducible assumption); exact inferInstance)))
local macro_rules | `(tactic| walk_at "call") => `(tactic| ((with_reducible apply R.u_meW); (walk_at "wr"); (decide +kernel); (decide +kernel); (decide +kernel)))
local macro_rules | `(tactic| walk_at "call") => `(tactic| ((with_reducible apply R.u_wts); (walk_at "wr"); (with_reducible assumption); (with_reducible assumption); (intro tw htw htw2)))
local macro_rules | `(tactic| walk_at "call") => `(tactic| ((with_reducible apply R.u_asd); (walk_at "wr"); (with_reducible assumption); (with_reducible assumption)))
local macro_rules | `(tactic| walk_at "call") => `(tactic| ((with_reducible apply R.u_many); (walk_at "wr"); (with_reducible assumption); (with_reducible assumption)))
local macro_rules | `(tactic| walk_at "call") => `(tactic| ((with_reducible apply R.u_isW); (walk_at "wr"); (with_reducible assumption)))
local macro_rules | `(tactic| walk_at "call") => `(tactic| ((with_reducible apply R.u_OO); (walk_at "rn"); (walk_at "rn"); (first | decide | omega); (intro p H2 hn he hr)))
local macro_rules | `(tactic| walk_at "call") => `(tactic| ((with_reducible apply R.u_OI); (walk_at "rn"); (walk_at "bt"); (first | decide | omega); (intro p H2 hn he hr)))
local macro_rules | `(tactic| walk_at "call") => `(tactic| ((with_reducible apply R.u_IO); (walk_at "rn"); (walk_at "bt"); (first | decide | omega); (intro p H2 hn he hr)))
local macro_rules | `(tactic| walk_at "call") => `(tactic| ((with_reducible apply R.u_UO); (walk_at "rn"); (intro p H2 hn he hr)))
local macro_rules | `(tactic| walk_at "call") => `(tactic| ((with_reducible apply R.u_C1); (walk_at "rn"); (intro p H2 hn he hr)))
local macro_rules | `(tactic| walk_at "call") => `(tactic| ((with_reducible apply R.u_eOO); (walk_at "rn"); (walk_at "rn")))
local macro_rules | `(tactic| walk_at "call") => `(tactic| ((with_reducible apply R.u_eOI); (walk_at "rn")))
local macro_rules | `(tactic| walk_at "call") => `(tactic| ((with_reducible apply R.u_eIO); (walk_at "rn")))
local macro_rules | `(tactic| walk_at "call") => `(tactic| ((with_reducible apply R.u_bO); (walk_at "rn")))
local macro_rules | `(tactic| walk_at "call") => `(tactic| ((with_reducible apply R.u_cIO); (walk_at "rn"); (walk_at "bt"); (first | decide | omega)))
local macro_rules | `(tactic| walk_at "call") => `(tactic| ((with_reducible apply R.u_cOO); (walk_at "rn"); (walk_at "rn")))
local macro_rules | `(tactic| walk_at "call") => `(tactic| ((with_reducible apply R.u_cOI); (walk_at "rn"); (walk_at "bt"); (first | decide | omega)))
local macro_rules | `(tactic| walk_at "call") => `(tactic| ((with_reducible apply R.u_me); (walk_at "rn"); (decide +kernel); (decide +kernel)))
local macro_rules | `(tactic| walk_at "call") => `(tactic| ((with_reducible apply R.u_top); (walk_at "rn"); (with_reducible assumption); (with_reducible assumption)))
local macro_rules | `(tactic| walk_at "call") => `(tactic| ((with_reducible apply R.u_bot); (walk_at "rn"); (with_reducible assumption); (with_reducible assumption)))
local macro_rules | `(tactic| walk_at "call") => `(tactic| ((with_reducible apply R.u_isR); (walk_at "rn"); (with_reducible assumption)))
local macro_rules | `(tactic| walk_at "st1") => `(tactic| (first
  | ((with_reducible apply Z.w_var); exact rfl)
  | with_reducible refine Z.w_c ?_
  | with_reducible refine Z.w_op ?_
  | with_reducible refine Z.w_un ?_
  | with_reducible refine Z.w_cb ?_
  | with_reducible refine Z.w_nil ?_
  | with_reducible refine Z.w_cons ?_
  | with_reducible refine Z.w_tup ?_
  | with_reducible refine Z.w_lst ?_
  | with_reducible refine Z.w_call0 ?_
  | with_reducible refine Z.w_call ?_
  | with_reducible refine Z.w_test ?_
  | with_reducible refine Z.w_B ?_
  | with_reducible refine Z.w_bl ?_
  | with_reducible refine Z.w_and ?_
  | with_reducible refine Z.w_or ?_
  | with_reducible refine Z.w_not ?_
  | with_reducible refine Z.w_andV ?_
  | with_reducible refine Z.w_orV ?_
  | with_reducible refine Z.w_notV ?_
  | with_reducible refine Z.w_ifE ?_
  | with_reducible refine Z.w_isN2 ?_
  | with_reducible refine Z.w_notN2 ?_
  | with_reducible refine Z.isN_n ?_
  | with_reducible refine Z.isN_i ?_
  | with_reducible refine Z.isN_s ?_
  | with_reducible refine Z.isN_r ?_
  | with_reducible refine Z.isN_b ?_
  | with_reducible refine Z.notN_n ?_
  | with_reducible refine Z.notN_i ?_
  | with_reducible refine Z.notN_s ?_
  | with_reducible refine Z.notN_r ?_
  | with_reducible refine Z.notN_b ?_
  | with_reducible refine Z.w_seq ?_
  | with_reducible refine Z.w_asg ?_
  | with_reducible refine Z.w_gnS ?_
  | with_reducible refine Z.w_gn ?_
  | with_reducible refine Z.w_ret ?_
  | with_reducible refine Z.w_retN ?_
  | with_reducible refine Z.w_drop ?_
  | with_reducible refine Z.w_next ?_
  | with_reducible refine Z.w_brk ?_
  | with_reducible refine Z.w_cnt ?_
  | with_reducible refine Z.w_if ?_
  | with_reducible refine Z.w_enx ?_
  | with_reducible refine Z.w_ert ?_
  | with_reducible refine Z.w_ebk ?_
  | with_reducible refine Z.w_ect ?_
  | with_reducible refine Z.w_nx ?_
  | with_reducible refine Z.w_bk ?_
  | with_reducible refine Z.w_ct ?_
  | with_reducible refine Z.w_rt ?_
  | ((with_reducible apply Z.w_aug); exact rfl)
  | with_reducible refine Z.w_for ?_
  | with_reducible refine Z.w_lc ?_
  | with_reducible refine Z.w_iL ?_
  | with_reducible refine Z.w_iT ?_
  | with_reducible refine Z.w_iA ?_
  | with_reducible refine Z.w_iR1 ?_
  | with_reducible refine Z.w_iR2 ?_
  | with_reducible refine Z.w_iE ?_
  | with_reducible refine Z.w_iEA ?_
  | with_reducible refine Z.w_bm ?_
  | with_reducible refine Z.w_bm0 ?_
  | with_reducible refine Z.w_yes ?_
  | with_reducible refine Z.w_par ?_
  | with_reducible refine Z.w_exP ?_
  | with_reducible refine Z.w_fld ?_
  | with_reducible refine Z.w_sfld ?_
  | with_reducible refine Z.w_make ?_
  | with_reducible refine Z.w_raise ?_
  | with_reducible refine Z.w_mkO ?_
  | with_reducible refine Z.w_xf ?_
  | with_reducible refine Z.w_gSub ?_
  | with_reducible refine Z.w_revT ?_
  | with_reducible refine Z.w_revL ?_
  | with_reducible refine Z.w_tryA ?_
  | with_reducible refine Z.w_tryO ?_
  | with_reducible refine Z.w_tryM ?_
  | with_reducible refine Z.w_con ?_
  | with_reducible refine Z.w_callZ0 ?_
  | with_reducible refine Z.w_callZ ?_
  | with_reducible refine Z.w_methZ ?_
  | with_reducible refine Z.w_meth ?_
  | with_reducible refine Z.w_makeZ ?_
  | with_reducible refine Z.w_makeK ?_
  | with_reducible refine Z.w_makeKZ ?_
  | with_reducible refine Z.w_opS ?_
  | with_reducible refine Z.w_chain ?_
  | with_reducible refine Z.w_sl ?_
  | with_reducible refine Z.w_noPart ?_
  | with_reducible refine Z.w_part ?_
  | ((with_reducible refine Z.w_wp ?_ ?_); exact rfl)))
local macro_rules | `(tactic| walk_at "st2") => `(tactic| (first
  | walk_at "call"
  | with_reducible refine Z.w_ipI ?_
  | with_reducible refine Z.w_I0 ?_
  | with_reducible refine Z.w_U ?_
  | with_reducible refine Z.w_addI ?_
  | ((with_reducible refine Z.w_mulI ?_ ?_); (walk_at "mul"))
  | with_reducible refine Z.w_eqIr ?_
  | with_reducible refine Z.w_neIr ?_
  | with_reducible refine Z.w_eqSr ?_
  | with_reducible refine Z.w_neSr ?_
  | with_reducible refine Z.w_eqZB ?_
  | with_reducible refine Z.w_neZB ?_
  | with_reducible refine Z.w_bool1 ?_
  | with_reducible refine Z.w_eqZI ?_
  | with_reducible refine Z.w_neZI ?_
  | with_reducible refine Z.w_eqZS ?_
  | with_reducible refine Z.w_neZS ?_
  | with_reducible refine Z.w_T ?_
  | with_reducible refine Z.w_F ?_
  | with_reducible refine Z.w_nT ?_
  | with_reducible refine Z.w_nF ?_
  | with_reducible refine Z.w_int1 ?_
  | with_reducible refine Z.w_exI ?_
  | with_reducible refine Z.w_max2 ?_
  | with_reducible refine Z.w_min2 ?_
  | with_reducible refine Z.w_gcd ?_
  | with_reducible refine Z.w_absI ?_
  | ((with_reducible apply Z.w_dF); (walk_at "fx"); (with_reducible assumption); (with_reducible assumption); (walk_at "look"))
  | ((with_reducible apply Z.w_dCon); (walk_at "fx"); (with_reducible assumption); (with_reducible assumption); (first | with_reducible assumption | rfl | decide +kernel))
  | ((with_reducible apply Z.w_sup); (exact rfl); (walk_at "fx"))
  | ((with_reducible apply Z.w_dMe0); (walk_at "fx"); (exact rfl))
  | with_reducible refine Z.w_isB ?_
  | with_reducible refine Z.w_isnB ?_
  | with_reducible refine Z.w_isiII ?_
  | with_reducible refine Z.w_isiIB ?_
  | ((with_reducible apply Z.w_cl); (with_reducible assumption); (intro ea hea))
  | ((with_reducible apply Z.w_clN); (with_reducible assumption))
  | ((with_reducible apply Z.w_clO); (with_reducible assumption); (intro ea hea))
  | ((with_reducible apply Z.w_clON); (with_reducible assumption))
  | with_reducible refine Z.w_cl0 ?_
  | ((with_reducible apply Z.w_as); (with_reducible assumption); (intro ea hea))
  | ((with_reducible apply Z.w_only); (with_reducible assumption); (intro ea hea))
  | ((with_reducible apply Z.w_asN); (with_reducible assumption))
  | ((with_reducible apply Z.w_onlyN); (with_reducible assumption))
  | ((with_reducible apply Z.w_isY); (with_reducible assumption); (with_reducible assumption))
  | ((with_reducible apply Z.w_isYt); (with_reducible assumption); (with_reducible assumption))
  | ((with_reducible apply Z.w_isYd); (with_reducible assumption); (walk_at "fx"); (with_reducible assumption))
  | ((with_reducible apply Z.w_isYdt); (with_reducible assumption); (walk_at "fx"); (with_reducible assumption))
  | ((with_reducible apply Z.w_dXf); (walk_at "fx"); (first | rfl | (simp only [List.zip_cons_cons, List.zip_nil_right, List.zip_nil_left, List.reverse_cons, List.reverse_nil, List.nil_append, List.singleton_append, List.cons_append, List.lookup]; rfl) | decide +kernel))
  | ((with_reducible apply Z.w_dMX); (exact rfl); (decide); (intro d H2 hn he hp))
  | ((with_reducible apply Z.w_isiOC2); (walk_at "fx"); (with_reducible assumption))
  | ((with_reducible apply Z.w_isiOA2); (walk_at "fx"); (with_reducible assumption); (with_reducible assumption))
  | ((with_reducible apply Z.w_isiOI2); (walk_at "fx"); (with_reducible assumption))
  | ((with_reducible apply Z.w_isiIC); (with_reducible assumption))
  | ((with_reducible apply Z.w_OO); (walk_at "fx"); (walk_at "fx"))
  | ((with_reducible apply Z.w_OI); (walk_at "fx"))
  | ((with_reducible apply Z.w_IO); (walk_at "fx"))
  | ((with_reducible apply Z.w_UO); (walk_at "fx"))
  | ((with_reducible apply Z.w_C1); (walk_at "fx"))
  | ((with_reducible refine Z.w_shl ?_ ?_); (walk_at "num"))
  | with_reducible refine Z.w_shr ?_
  | with_reducible refine Z.w_odd ?_
  | ((with_reducible apply Z.w_sum); (walk_at "fl"))
  | ((with_reducible apply Z.w_eqLr); (walk_at "fi"); (walk_at "fi"))
  | ((with_reducible apply Z.w_neLr); (walk_at "fi"); (walk_at "fi"))
  | ((with_reducible apply Z.w_eqTr); (walk_at "ti"); (walk_at "ti"))
  | ((with_reducible apply Z.w_neTr); (walk_at "ti"); (walk_at "ti"))
  | ((with_reducible apply Z.w_eqLI); (walk_at "fi"); (walk_at "fi"))
  | ((with_reducible apply Z.w_neLI); (walk_at "fi"); (walk_at "fi"))
  | ((with_reducible apply Z.w_eqTI); (walk_at "ti"); (walk_at "ti"))
  | ((with_reducible apply Z.w_neTI); (walk_at "ti"); (walk_at "ti"))
  | ((with_reducible apply Z.w_eqLFr); (walk_at "fl"); (walk_at "fl"); (exact rfl); (kernel_rfl))
  | ((with_reducible apply Z.w_neLFr); (walk_at "fl"); (walk_at "fl"); (exact rfl); (kernel_rfl))
  | ((with_reducible apply Z.w_eqTFr); (walk_at "ft"); (walk_at "ft"); (exact rfl); (kernel_rfl))
  | ((with_reducible apply Z.w_neTFr); (walk_at "ft"); (walk_at "ft"); (exact rfl); (kernel_rfl))
  | ((with_reducible apply Z.w_eqLF); (walk_at "fl"); (walk_at "fl"); (exact rfl); (exact rfl); (kernel_rfl); (kernel_rfl))
  | ((with_reducible apply Z.w_neLF); (walk_at "fl"); (walk_at "fl"); (exact rfl); (exact rfl); (kernel_rfl); (kernel_rfl))
  | ((with_reducible apply Z.w_eqTF); (walk_at "ft"); (walk_at "ft"); (exact rfl); (exact rfl); (kernel_rfl); (kernel_rfl))
  | ((with_reducible apply Z.w_neTF); (walk_at "ft"); (walk_at "ft"); (exact rfl); (exact rfl); (kernel_rfl); (kernel_rfl))
  | ((with_reducible apply Z.w_inT); (walk_at "ft"))
  | ((with_reducible apply Z.w_ninT); (walk_at "ft"))
  | ((with_reducible apply Z.w_inL); (walk_at "fl"))
  | ((with_reducible apply Z.w_ninL); (walk_at "fl"))
  | with_reducible refine Z.wb_F ?_
  | with_reducible refine Z.wb_T ?_
  | ((with_reducible apply Z.w_ins); (walk_at "fx"); (walk_at "sz"); (walk_at "nat"); (walk_at "num"); (walk_at "num"); (intro H2 hp hnl hk ho); (try (have hke := Z.kmut hk (by with_reducible assumption) inferInstance; clear hk)))
  | ((with_reducible apply Z.w_popI); (walk_at "fx"); (walk_at "num"); (walk_at "num"); (walk_at "num"); (intro H2 hp hnl hk ho); (try (have hke := Z.kmut hk (by with_reducible assumption) inferInstance; clear hk)))
  | ((with_reducible apply Z.w_pop0); (walk_at "fx"); (walk_at "num"); (intro H2 hp hnl hk ho); (try (have hke := Z.kmut hk (by with_reducible assumption) inferInstance; clear hk)))
  | ((with_reducible apply Z.w_setI); (walk_at "fx"); (walk_at "num"); (walk_at "num"); (intro H2 hp hnl hk ho); (try (have hke := Z.kmut hk (by with_reducible assumption) inferInstance; clear hk)))
  | ((with_reducible apply Z.w_setV); (walk_at "fx"); (walk_at "num"); (walk_at "num"); (intro H2 hp hnl hk ho); (try (have hke := Z.kmut hk (by with_reducible assumption) inferInstance; clear hk)))
  | ((with_reducible apply Z.w_gT); (walk_at "ft"); (exact rfl))
  | with_reducible refine Z.w_gC ?_
  | with_reducible refine Z.w_gN ?_
  | with_reducible refine Z.w_isiBI ?_
  | with_reducible refine Z.w_isiBB ?_
  | with_reducible refine Z.w_isiSS ?_
  | with_reducible refine Z.w_isiIS ?_
  | with_reducible refine Z.w_isiSI ?_
  | ((with_reducible refine Z.w_two ?_ ?_ ?_); (exact rfl); (exact rfl))
  | ((with_reducible apply Z.w_isiTT); (walk_at "fx"))
  | ((with_reducible apply Z.w_isiLL); (walk_at "fx"))
  | ((with_reducible apply Z.w_addL); (walk_at "fx"); (walk_at "fx"); (walk_at "sz"); (intro p H2 hn he hp))
  | ((with_reducible apply Z.w_dRevT); (walk_at "ti"); (intro p H2 hn he hp))
  | ((with_reducible apply Z.w_dRevL); (walk_at "fi"); (intro p H2 hn he hp))
  | ((with_reducible apply Z.w_catI); (walk_at "ti"); (walk_at "ti"); (walk_at "num"); (intro p H2 he hp))
  | ((with_reducible apply Z.w_slTo); (walk_at "ti"); (walk_at "num"); (intro p H2 he hp))
  | ((with_reducible apply Z.w_slFrom); (walk_at "ti"); (walk_at "num"); (intro p H2 he hp))
  | ((with_reducible apply Z.w_slBack); (walk_at "ti"); (walk_at "num"); (intro p H2 he hp))
  | ((with_reducible apply Z.w_slAny); (walk_at "ti"); (intro p H2 ms he hsub hp))
  | ((with_reducible apply Z.w_sortI); (walk_at "fi"); (intro p H2 ms hn he hp hperm hsort))
  | ((with_reducible apply Z.w_slLIf); (walk_at "fl"); (walk_at "num"); (intro p H2 hn he hp))
  | ((with_reducible apply Z.w_slLIt); (walk_at "fl"); (walk_at "num"); (intro p H2 hn he hp))
  | ((with_reducible apply Z.w_slLIft); (walk_at "fl"); (walk_at "num"); (walk_at "num"); (intro p H2 hn he hp))
  | ((with_reducible apply Z.w_slLVt); (walk_at "fl"); (walk_at "num"); (intro p H2 hn he hp))
  | ((with_reducible apply Z.w_slLVf); (walk_at "fl"); (walk_at "num"); (intro p H2 hn he hp))
  | ((with_reducible apply Z.w_app); (walk_at "fx"); (walk_at "sz"); (intro H2 hp hnl hk ho); (try (have hke := Z.kmut hk (by with_reducible assumption) inferInstance; clear hk)))
  | ((with_reducible apply Z.ele); (with_reducible assumption); (walk_at "sz"); (walk_at "ex"))
  | ((with_reducible apply Z.w_tupL); (walk_at "fl"); (intro p H2 hn he hp))
  | ((with_reducible apply Z.w_tupT); (walk_at "ft"))
  | ((with_reducible apply Z.w_listL); (walk_at "fl"); (intro p H2 hn he hp))
  | ((with_reducible apply Z.w_listT); (walk_at "ft"); (intro p H2 hn he hp))
  | ((with_reducible refine Z.w_newT ?_ (fun p H2 hn he hp => ?_)); (walk_at "sz"))
  | ((with_reducible refine Z.w_newL ?_ (fun p H2 hn he hp => ?_)); (walk_at "sz"))
  | ((with_reducible apply Z.w_lenLI); (walk_at "fl"))
  | ((with_reducible apply Z.w_lenTI); (walk_at "ft"))
  | ((with_reducible apply Z.w_lenL); (walk_at "fl"))
  | ((with_reducible apply Z.w_lenT); (walk_at "ft"))
  | ((with_reducible apply Z.w_pow); (exact ⟨by decide, by decide, by decide⟩); (simp only [Int.reduceToNat, Int.reducePow]; exact rfl))
  | ((with_reducible refine Z.w_I (C := Z.CDivZ) ?_ ?_); (walk_at "div"))
  | ((with_reducible refine Z.w_I (C := fun _ j => 0 < j) ?_ ?_); (first | assumption | omega | decide))
  | ((with_reducible apply Z.cgK); (with_reducible assumption); (intro H2 ex2; first | exact trivial | walk_at "fl"); (walk_at "sz"); (focus (intro Dl i x H2 acc hi ec cd hz y; walk_at "go"; done)); (intro p H2 hn he hp); (rotate_left); (exact rfl))
  | ((with_reducible apply Z.w_ixT); (walk_at "ft"); (exact rfl))
  | ((with_reducible apply Z.w_ixL); (walk_at "fl"); (exact rfl))
  | ((with_reducible apply Z.w_ixLN); (walk_at "fl"); (walk_at "nat"); (walk_at "num"); (walk_at "num"))
  | ((with_reducible apply Z.w_ixTN); (walk_at "ft"); (walk_at "nat"); (walk_at "num"); (walk_at "num"))
  | ((with_reducible apply Z.w_ixLI); (walk_at "fi"); (walk_at "nat"); (walk_at "num"); (walk_at "num"))
  | ((with_reducible apply Z.w_ixTI); (walk_at "ti"); (walk_at "nat"); (walk_at "num"); (walk_at "num"))
  | ((with_reducible apply Z.i_L); (walk_at "fl"); (intro J S))
  | ((with_reducible apply Z.i_A); (walk_at "fa"); (intro J S))
  | ((with_reducible apply Z.i_T); (walk_at "ft"); (intro J S))
  | ((with_reducible apply Z.i_E); (walk_at "fl"); (intro J S))
  | ((with_reducible apply Z.i_EA); (walk_at "fa"); (intro J S))
  | ((with_reducible refine Z.i_R1 ?_ ?_ (fun J S => ?_)); (walk_at "num"); (walk_at "num"))
  | ((with_reducible refine Z.i_R2 ?_ (fun J S => ?_)); (exact ⟨by walk_at "num", by walk_at "num", by walk_at "num", by walk_at "num"⟩))
  | ((with_reducible apply Z.w_tyL); (walk_at "fx"))
  | ((with_reducible apply Or.inl); (walk_at "st2"))
  | ((with_reducible apply Or.inr); (walk_at "st2"))))
local macro_rules | `(tactic| walk_at "go") => `(tactic| repeat (first | walk_at "st1" | walk_at "st2"))
local macro_rules | `(tactic| walk_at "numb") => `(tactic| first | with_reducible assumption | omega | (simp only [List.length_map, List.length_append, List.length_cons, List.length_nil, List.length_range, List.length_take, List.length_drop, List.length_replicate]; omega) | decide | exact rfl)
local macro_rules | `(tactic| walk_at "br") => `(tactic| (first
  | ((with_reducible refine Z.w_decT ?_ ?_); (walk_at "numb"))
  | ((with_reducible refine Z.w_decF ?_ ?_); (walk_at "numb"))
  | ((with_reducible refine Z.w_ndecF ?_ ?_); (walk_at "numb"))
  | ((with_reducible refine Z.w_ndecT ?_ ?_); (walk_at "numb"))))
local macro_rules | `(tactic| walk_at "run") => `(tactic| repeat (first | walk_at "st1" | walk_at "st2" | walk_at "br"))
local macro_rules | `(tactic| walk_at "bt") => `(tactic| (first | with_reducible assumption | ((with_reducible apply Z.bt_mul); (walk_at "bt"); (walk_at "bt")) | ((with_reducible apply Z.bt_add); (walk_at "bt"); (walk_at "bt")) | ((with_reducible apply Z.bt_sub); (walk_at "bt"); (walk_at "bt")) | ((with_reducible apply Z.bt_neg); (walk_at "bt")) | ((with_reducible apply Z.bt_abs); (walk_at "bt")) | ((with_reducible apply R.Sz.den); with_reducible assumption) | ((with_reducible apply R.Sz.num); with_reducible assumption) | (show _ < 2 ^ 64; omega) | (show _ < 2 ^ 200; omega)))
local macro_rules | `(tactic| walk_at "mul") => `(tactic| first | with_reducible assumption | exact Z.CM.of_right (by decide) | exact Z.CM.of_left (by decide) | exact Z.CM.of_right (by omega) | exact Z.CM.of_left (by omega) | ((with_reducible apply Z.cm); (walk_at "bt"); (walk_at "bt"); (first | decide | omega)))
def sp_check_lot (K : PySem.W.Frag) : Sp := fun vs H Q E => ∃ (a : Addr) (lot : List Int) (n : Int), vs = [.ref a, .int n] ∧ SqT K H a (lot.map V.int) ∧ (¬ IsLot n lot → ∀ H', Ex H H' → E (.ref (He.ga K "BadLot")) none H') ∧ (IsLot n lot → ∀ H', Ex H H' → Q .non H')
theorem ok_check_lot (T : Tx P K mg) : FnOk P w K mg base (L2.CX P w) 1 (He.ga K "check_lot") (Z.fdOf K (He.ga K "check_lot")) ["lot", "many"] (sp_check_lot K) := by
  refine T.F_check_lot.ok sc_check_lot (fun vs H Q E h => ?_) (fun cdv A outer s H vs Q E hr h => ?_)
  · obtain ⟨a, lot, n, rfl, _⟩ := h
    rfl
  · obtain ⟨a, lot, n, rfl, ha, hE, k⟩ := h
    rw [isLot_iff] at hE k
    refine ⟨_, (pss_cons (ps_set (i := 2) sc_check_lot.nd rfl (Or.inl rfl) (pe_un Z.un_neg pe_int))
      (pss_one (ps_for (passes_of rfl) rfl (Z.piT (K := K) rfl (pv 0)) (pg_name (i := 3) sc_check_lot.nd rfl (by first | exact Or.inl rfl | exact Or.inr rfl)) (pss_cons (ps_if (PW.pt (pw_or (pt_cmpR Z.op_le (pv 3) (pv 2) (nomark _)) (pw_or1 (pt_cmpR Z.op_ge (pv 3) (pv 1) (nomark _))))) (pss_one (ps_raise rfl (takes_of rfl rfl rfl rfl) (pmk_own PySem.F.excBase_ValueError T.x_BadLot.1 T.g_BadLot T.x_BadLot.2.1 (raises_own T.x_BadLot.2.2.1 T.x_BadLot.2.2.2) (by exact rfl)))) pss_nil)
      (pss_one (ps_set (i := 2) sc_check_lot.nd rfl (Or.inl rfl) (pv 3))))))), ?_⟩
    try dsimp only [cxOf, Cx.nox, Cx.wish]
    try (show (_ : TS) _ [some _, some _, none, none] _)
    walk_at "go"
    rename_i J S
    refine Z.fg S (fun i σ G => ∃ (b : Int) (v : Option V), σ = [some (.ref a), some (.int n), some (.int b), v] ∧ Ex H G ∧ (okFrom n b (lot.drop i) ↔ okFrom n (-1) lot)) ⟨-1, none, rfl, Ex.refl H, Iff.rfl⟩ (fun i σ' G _ ⟨_, _, _, e, _⟩ => e.t ha) ?_ ?_
    · rintro i y σ' G G2 hi ⟨b, v, rfl, eG, hiff⟩ e2 hy
      obtain ⟨hi2, rfl⟩ := get_int hy
      rw [List.drop_eq_getElem_cons hi2, ← getD_get lot i 0 hi2] at hiff
      have hiff : (b < lot.getD i 0 ∧ lot.getD i 0 < n ∧ okFrom n (lot.getD i 0) (lot.drop (i + 1))) ↔ okFrom n (-1) lot := hiff
      walk_at "go"
      refine Z.w_dec (fun h => ?_) (fun h => ?_)
      · walk_at "go"
        exact hE (fun z => by have := hiff.mpr z; omega) _ (by walk_at "ex")
      · walk_at "go"
        refine Z.w_dec (fun h' => ?_) (fun h' => ?_)
        · walk_at "go"
          exact hE (fun z => by have := hiff.mpr z; omega) _ (by walk_at "ex")
        · walk_at "go"
          exact ⟨_, _, rfl, eG.trans e2, ⟨fun z => hiff.mp ⟨by omega, by omega, z⟩, fun z => (hiff.mpr z).2.2⟩⟩
    · rintro σ' G ⟨b, v, rfl, eG, hiff⟩
      rw [List.length_map, List.drop_length] at hiff
      walk_at "go"
      exact k (hiff.mp trivial) G eG

theorem ok_BadNumber___init__ (T : Tx P K mg) : FnOk P w K mg base (L2.CX P w) 1 (He.ma K (He.ga K "BadNumber") "__init__") (Z.fdOf K (He.ma K (He.ga K "BadNumber") "__init__")) ["self", "what", "at"] (Z.spX (He.ga K "BadNumber") ["what", "at"]) := by
  refine Z.FunS.ok (x0 := "self") T.F_BadNumber___init__ sc_BadNumber___init__ (by decide +kernel) rfl rfl rfl (by decide +kernel) (by decide +kernel) T.p_top T.n_super T.c_BadNumber (fun vs H Q E h => ?_) (fun cc cda A outer s H vs Q E hr h S => ?_)
  · obtain ⟨a, ws, rfl, hl, _⟩ := h
    simpa using hl
  · obtain ⟨a, ws, rfl, hl, ha, k⟩ := h
    obtain ⟨v1, v2, rfl⟩ : ∃ v1 v2, ws = [v1, v2] := by
      match ws, hl with
      | [v1, v2], _ => exact ⟨v1, v2, rfl⟩
    refine ⟨_, _, Z.ps_supE (Z.pe_supX S T.mro_BadNumber_BadNumber T.third T.si_BadNumber.1 T.si_BadNumber.2.1 (pa_cons pe_str pa_nil)), (pss_cons (ps_ost (pv 0) (pv 1)) (pss_one (ps_ost (pv 0) (pv 2)))), ?_⟩
    refine ⟨a, rfl, T.oe_BadNumber, ha, by decide, ha, ?_⟩
    refine ⟨_, rfl, _, rfl, a, He.ga K "BadNumber", rfl, T.oe_BadNumber, T.nf_BadNumber_what, .inl ⟨ha, fun dx hd hne => ?_⟩⟩
    refine ⟨_, rfl, _, rfl, a, He.ga K "BadNumber", rfl, T.oe_BadNumber, T.nf_BadNumber_at, .inr ⟨dx, _, upd_same, by rw [upd_ne hne, upd_same], by simp, ?_⟩⟩
    rw [Z.upd_swap hne]
    exact k dx hd hne

def sp_check_prices (K : PySem.W.Frag) : Sp := fun vs H Q E => ∃ (a : Addr) (ps : List Int) (n : Int), vs = [.ref a, .int n] ∧ SqL K H a (ps.map V.int) ∧ PErr K n ps E H ∧ (PricesOk n ps → ∀ H', Ex H H' → Q .non H')
theorem ok_check_prices (T : Tx P K mg) : FnOk P w K mg base (L2.CX P w) 3 (He.ga K "check_prices") (Z.fdOf K (He.ga K "check_prices")) ["prices", "many"] (sp_check_prices K) := by
  refine T.F_check_prices.ok sc_check_prices (fun vs H Q E h => ?_) (fun cdv A outer s H vs Q E hr h => ?_)
  · obtain ⟨a, ps, n, rfl, _⟩ := h
    rfl
  · obtain ⟨a, ps, n, rfl, ha, hE, k⟩ := h
    refine ⟨_, (pss_cons (ps_if (pt_cmpR (Z.op_ne (K := K) rfl hr.units) (pe_callB (Z.call_len (K := K) rfl) (by rfl) T.n_len (by decide +kernel) (pa_cons (pv 0) pa_nil)) (pv 1) (nomark _)) (pss_one (Z.ps_raiseZ rfl (takes_of rfl rfl rfl rfl) (pmk_oex T.oe_BadNumber T.si_BadNumber.2.2.1 T.si_BadNumber.2.2.2 (ok_BadNumber___init__ T) (hr.mono (by decide)) T.b_BadNumber___init__ .nil passL (by rfl) T.g_BadNumber (pa_cons pe_str (pa_cons pe_non pa_nil))))) pss_nil)
      (pss_one (ps_for (passes_of rfl) rfl (pi_enum (by rfl) T.n_enumerate (pa_cons (pv 0) pa_nil)) (pg_tup (by rfl) (pgs_cons (pg_name (i := 2) sc_check_prices.nd rfl (by first | exact Or.inl rfl | exact Or.inr rfl)) (pgs_cons (pg_name (i := 3) sc_check_prices.nd rfl (by first | exact Or.inl rfl | exact Or.inr rfl)) pgs_nil))) (pss_one (ps_if (pt_cmpR Z.op_lt (pv 3) pe_int (nomark _)) (pss_one (Z.ps_raiseZ rfl (takes_of rfl rfl rfl rfl) (pmk_oex T.oe_BadNumber T.si_BadNumber.2.2.1 T.si_BadNumber.2.2.2 (ok_BadNumber___init__ T) (hr.mono (by decide)) T.b_BadNumber___init__ .nil passL (by rfl) T.g_BadNumber (pa_cons pe_str (pa_cons (pv 2) pa_nil))))) pss_nil))))), ?_⟩
    try dsimp only [cxOf, Cx.nox, Cx.wish]
    try (show (_ : TS) _ [some _, some _, none, none] _)
    walk_at "go"
    refine Z.w_ndec (fun h => ?_) (fun h => ?_)
    · walk_at "go"
      exact hE.1 h _ _ (by assumption) (by walk_at "ex") (by assumption)
    · walk_at "go"
      rename_i J S
      refine Z.fg S (fun i σ G => ∃ (v2 v3 : Option V), σ = [some (.ref a), some (.int n), v2, v3] ∧ Ex H G ∧ ∀ j, j < i → 0 ≤ ps.getD j 0) ⟨none, none, rfl, Ex.refl H, fun j hj => absurd hj (by omega)⟩ (fun i σ' G _ ⟨_, _, _, e, _⟩ => e.l ha) ?_ ?_
      · rintro i y σ' G G2 hi ⟨v2, v3, rfl, eG, hall⟩ e2 ⟨t, z, rfl, ht, hz⟩
        obtain ⟨hi2, rfl⟩ := get_int hz
        walk_at "go"
        refine Z.w_dec (fun h' => ?_) (fun h' => ?_)
        · walk_at "go"
          exact hE.2 h i hi2 h' hall _ _ (by walk_at "fr") (by walk_at "ex") (by assumption)
        · walk_at "go"
          refine ⟨_, _, rfl, eG.trans e2, fun j hj => ?_⟩
          by_cases e : j = i
          · subst e; omega
          · exact hall j (by omega)
      · rintro σ' G ⟨v2, v3, rfl, eG, hall⟩
        rw [List.length_map] at hall
        walk_at "go"
        exact k ⟨h, all_getD hall⟩ G eG

def sp_brought (K : PySem.W.Frag) : Sp := fun vs H Q _ => ∃ (wl pl l : Addr) (ws ps : List Int) (a : Int) (lot : List Int), vs = [.ref l, .ref pl, .ref wl, .int a] ∧ SqL K H wl (ws.map V.int) ∧ SqL K H pl (ps.map V.int) ∧ SqT K H l (lot.map V.int) ∧ (∀ t ∈ lot, 0 ≤ t ∧ t < ws.length ∧ t < ps.length) ∧ (∀ x ∈ ps, x.natAbs < 2 ^ 64) ∧ lot.length ≤ 100 ∧
  ∀ p H', Fr H p → Ex H H' → At H' p (.tup [.int (wpsum ws ps lot), .int (a + wsum ws lot)]) → Q (.ref p) H'
theorem ok_brought (T : Tx P K mg) : FnOk P w K mg base (L2.CX P w) 1 (He.ga K "brought") (Z.fdOf K (He.ga K "brought")) ["lot", "prices", "weights", "aside"] (sp_brought K) := by
  refine T.F_brought.ok sc_brought (fun vs H Q E h => ?_) (fun cdv A outer s H vs Q E hr h => ?_)
  · obtain ⟨wl, pl, l, ws, ps, a, lot, rfl, _⟩ := h
    rfl
  · obtain ⟨wl, pl, l, ws, ps, a, lot, rfl, hwl, hpl, hl, hlot, hpb, hll, k⟩ := h
    have hin : ∀ i, i < lot.length → 0 ≤ lot.getD i 0 ∧ lot.getD i 0 < ws.length ∧ lot.getD i 0 < ps.length := fun i hi => hlot _ (by rw [getD_get _ _ _ hi]; exact List.getElem_mem hi)
    have eq : ∀ f : Int → Int, (List.range lot.length).map (fun i => f (lot.getD i 0)) = lot.map f := fun f => by
      apply List.ext_getElem
      · simp
      · intro i h1 h2
        simp only [List.getElem_map, List.getElem_range]
        rw [getD_get _ _ _ (by simpa using h2)]
    refine ⟨_, PSs.nox (pss_cons (ps_set (i := 4) sc_brought.nd rfl (Or.inl rfl) (pe_callB (Z.call_sum (K := K) rfl rfl) (by rfl) T.n_sum (by decide +kernel) (pa_cons (pe_lc (own := [("thing", 5)]) rfl sc_brought.nd (Z.piT (K := K) rfl (pv 0)) (blkOk_by (N := ["lot", "prices", "weights", "aside", "top", "thing"]) (sc := defScope s_brought) (by decide +kernel)) (fun _ _ _ _ _ => (pg_name (i := 5) sc_brought.nd rfl (by first | exact Or.inl rfl | exact Or.inr rfl))) (fun _ _ _ _ _ => pts_nil) (fun _ _ _ _ _ => (pe_op Z.op_mul (pe_ix (Z.ix (K := K) rfl) (pv 2) (pv 5) (fun _ _ => rfl)) (pe_ix (Z.ix (K := K) rfl) (pv 1) (pv 5) (fun _ _ => rfl))))) pa_nil)))
      (pss_one (ps_ret (pe_tup (pa_cons (pv 4) (pa_cons (pe_op Z.op_add (pv 3) (pe_callB (Z.call_sum (K := K) rfl rfl) (by rfl) T.n_sum (by decide +kernel) (pa_cons (pe_lc (own := [("thing", 5)]) rfl sc_brought.nd (Z.piT (K := K) rfl (pv 0)) (blkOk_by (N := ["lot", "prices", "weights", "aside", "top", "thing"]) (sc := defScope s_brought) (by decide +kernel)) (fun _ _ _ _ _ => (pg_name (i := 5) sc_brought.nd rfl (by first | exact Or.inl rfl | exact Or.inr rfl))) (fun _ _ _ _ _ => pts_nil) (fun _ _ _ _ _ => (pe_ix (Z.ix (K := K) rfl) (pv 2) (pv 5) (fun _ _ => rfl)))) pa_nil))) pa_nil)))))), ?_⟩
    try dsimp only [cxOf, Cx.nox, Cx.wish]
    try (show (_ : TS) _ [some _, some _, some _, some _, none, none] _)
    walk_at "go"
    rename_i J S
    refine Z.cgI S (fun i => ws.getD (lot.getD i 0).toNat 0 * ps.getD (lot.getD i 0).toNat 0) (fun H' e => e.t hl) (by rw [List.length_map]; show _ ≤ 16777216; omega) (fun Dl i y G hi ec cd hy => ?_) (fun p1 H1 hn1 he1 hp1 => ?_) rfl
    · obtain ⟨hi2, rfl⟩ := get_int hy
      have ht := hin i hi2
      have hpt : (ps.getD (lot.getD i 0).toNat 0).natAbs < 2 ^ 64 := by
        rw [getD_get _ _ _ (show (lot.getD i 0).toNat < ps.length by omega)]; exact hpb _ (List.getElem_mem _)
      walk_at "go"
    rw [List.length_map, eq fun t => ws.getD t.toNat 0 * ps.getD t.toNat 0] at hp1
    walk_at "go"
    rename_i J2 S2
    refine Z.cgI S2 (fun i => ws.getD (lot.getD i 0).toNat 0) (fun H' e => by walk_at "ft") (by rw [List.length_map]; show _ ≤ 16777216; omega) (fun Dl i y G hi ec cd hy => ?_) (fun p2 H2 hn2 he2 hp2 => ?_) rfl
    · obtain ⟨hi2, rfl⟩ := get_int hy
      have ht := hin i hi2
      walk_at "go"
    rw [List.length_map, eq fun t => ws.getD t.toNat 0] at hp2
    walk_at "go"
    rename_i p3 H3 hn3 he3 hp3
    exact k p3 H3 (he1.back (he2.back hn3)) (by walk_at "ex") hp3

/-- a cell of the script, or 0: some int -/
def sp__law_cell (K : PySem.W.Frag) : Sp := fun vs H Q _ => ∃ (l : Addr) (ns : List Int) (j : Int), vs = [.ref l, .int j] ∧ SqL K H l (ns.map V.int) ∧ 0 ≤ j ∧ ∀ i : Int, Q (.int i) H
theorem ok__law_cell (T : Tx P K mg) : FnOk P w K mg base (L2.CX P w) 1 (He.ga K "_law_cell") (Z.fdOf K (He.ga K "_law_cell")) ["_law_script", "_law_place"] (sp__law_cell K) := by
  refine T.F__law_cell.ok sc__law_cell (fun vs H Q E h => ?_) (fun cdv A outer s H vs Q E hr h => ?_)
  · obtain ⟨l, ns, j, rfl, _⟩ := h
    rfl
  · obtain ⟨l, ns, j, rfl, hl, hj, k⟩ := h
    refine ⟨_, PSs.nox (pss_cons (ps_if (pt_cmpR Z.op_lt (pv 1) (pe_callB (Z.call_len (K := K) rfl) (by rfl) T.n_len (by decide +kernel) (pa_cons (pv 0) pa_nil)) (nomark _)) (pss_one (ps_ret (pe_callTy Z.call_int (by rfl) T.n_int (by decide +kernel) (pa_cons (pe_ix (Z.ix (K := K) rfl) (pv 0) (pv 1) (fun _ _ => rfl)) pa_nil)))) pss_nil)
      (pss_one (ps_ret pe_int))), ?_⟩
    try dsimp only [cxOf, Cx.nox, Cx.wish]
    try (show (_ : TS) _ [some _, some _] _)
    walk_at "go"
    refine Z.w_dec (fun hc => ?_) (fun hc => ?_)
    · walk_at "go"
      exact k _
    · walk_at "go"
      exact k _
theorem u_cell {H : Hp} {Q : VK} {E : XK} {l : Addr} {ns : List Int} {j : Int} (h : SqL K H l (ns.map V.int)) (hj : 0 ≤ j) (k : ∀ i : Int, Q (.int i) H) : sp__law_cell K [.ref l, .int j] H Q E := ⟨l, ns, j, rfl, h, hj, k⟩
local macro_rules | `(tactic| walk_at "call") => `(tactic| ((with_reducible apply R.u_cell); (walk_at "fl"); (walk_at "num"); (intro cell)))

/-- as many numbers as sizes, each below its size -/
def Dr (sz ds : List Int) : Prop := ds.length = sz.length ∧ ∀ k, k < ds.length → 0 ≤ ds.getD k 0 ∧ ds.getD k 0 < sz.getD k 0
def sp__law_draws (K : PySem.W.Frag) : Sp := fun vs H Q _ => ∃ (c : Int) (l : Addr) (sz : List Int), vs = [.int c, .ref l] ∧ SqL K H l (sz.map V.int) ∧ sz.length ≤ 100000 ∧ (∀ z ∈ sz, 0 < z ∧ z < 2 ^ 250) ∧
  ∀ (p : Addr) (H' : Hp) (ds : List Int), Fr H p → Ex H H' → At H' p (.lst (ds.map V.int)) → Dr sz ds → Q (.ref p) H'
theorem dr_snoc {sz ds : List Int} {z : Int} (hl : ds.length < sz.length) (h : ∀ k, k < ds.length → 0 ≤ ds.getD k 0 ∧ ds.getD k 0 < sz.getD k 0) (h0 : 0 ≤ z) (h1 : z < sz.getD ds.length 0) :
    ∀ k, k < (ds ++ [z]).length → 0 ≤ (ds ++ [z]).getD k 0 ∧ (ds ++ [z]).getD k 0 < sz.getD k 0 := by
  intro k hk
  rw [List.length_append] at hk
  by_cases e : k < ds.length
  · have := h k e
    simp only [List.getD_eq_getElem?_getD, List.getElem?_append_left e] at this ⊢
    exact this
  · have ek : k = ds.length := by simp at hk; omega
    subst ek
    simp only [List.getD_eq_getElem?_getD] at h1 ⊢
    simp [h0, h1]
theorem ok__law_draws (T : Tx P K mg) : FnOk P w K mg base (L2.CX P w) 1 (He.ga K "_law_draws") (Z.fdOf K (He.ga K "_law_draws")) ["_law_cell_here", "_law_sizes"] (sp__law_draws K) := by
  refine T.F__law_draws.ok sc__law_draws (fun vs H Q E h => ?_) (fun cdv A outer s H vs Q E hr h => ?_)
  · obtain ⟨c, l, sz, rfl, _⟩ := h
    rfl
  · obtain ⟨c, l, sz, rfl, hl, hz, hp, k⟩ := h
    have gp : ∀ i, i < sz.length → 0 < sz.getD i 0 ∧ sz.getD i 0 < 2 ^ 250 := fun i hi => by
      rw [List.getD_eq_getElem?_getD, List.getElem?_eq_getElem hi]
      exact hp _ (List.getElem_mem hi)
    refine ⟨_, PSs.nox (pss_cons (ps_if (pt_cmpR (Z.op_eq (K := K) rfl hr.units) (pv 0) pe_int (nomark _)) (pss_one (ps_ret (pe_lc (own := [("_law_size", 4)]) rfl sc__law_draws.nd (Z.piL (K := K) rfl (pv 1)) (blkOk_by (N := ["_law_cell_here", "_law_sizes", "_law_left", "_law_found", "_law_size", "_law_k", "_law_low", "_law_high"]) (sc := defScope s__law_draws) (by decide +kernel)) (fun _ _ _ _ _ => (pg_name (i := 4) sc__law_draws.nd rfl (by first | exact Or.inl rfl | exact Or.inr rfl))) (fun _ _ _ _ _ => pts_nil) (fun _ _ _ _ _ => pe_int)))) pss_nil)
      (pss_cons (ps_if (pt_cmpR Z.op_ge (pv 0) (pe_op op_pow pe_int pe_int) (nomark _)) (pss_cons (ps_set (i := 2) sc__law_draws.nd rfl (Or.inl rfl) (pe_op Z.op_sub (pv 0) (pe_op op_pow pe_int pe_int)))
      (pss_cons (ps_set (i := 3) sc__law_draws.nd rfl (Or.inl rfl) (pe_lst pa_nil))
      (pss_cons (ps_for PassesOwn.never rfl (Z.piL (K := K) rfl (pv 1)) (pg_name (i := 4) sc__law_draws.nd rfl (by first | exact Or.inl rfl | exact Or.inr rfl)) (pss_cons (ps_expr (pe_bm PySem.F.plainAttrs_list PySem.F.slot_list_append PySem.F.type_list_append mt_append (pv 3) (pa_cons (pe_op Z.op_mod (pe_callTy Z.call_int (by rfl) T.n_int (by decide +kernel) (pa_cons (pv 2) pa_nil)) (pv 4)) pa_nil)))
      (pss_one (ps_set (i := 2) sc__law_draws.nd rfl (Or.inl rfl) (pe_op Z.op_fdivP (pv 2) (pv 4))))))
      (pss_one (ps_ret (pv 3)))))) pss_nil)
      (pss_cons (ps_set (i := 3) sc__law_draws.nd rfl (Or.inl rfl) (pe_lst pa_nil))
      (pss_cons (ps_for PassesOwn.never rfl (pi_range1 (by rfl) T.n_range (pa_cons (pe_callB (Z.call_len (K := K) rfl) (by rfl) T.n_len (by decide +kernel) (pa_cons (pv 1) pa_nil)) pa_nil)) (pg_name (i := 5) sc__law_draws.nd rfl (by first | exact Or.inl rfl | exact Or.inr rfl)) (pss_cons (ps_set (i := 6) sc__law_draws.nd rfl (Or.inl rfl) (pe_op Z.op_mod (pe_callTy Z.call_int (by rfl) T.n_int (by decide +kernel) (pa_cons (pe_op Z.op_add (pe_op Z.op_mul (pv 0) pe_int) (pe_op Z.op_mul (pe_op Z.op_add (pv 5) pe_int) pe_int)) pa_nil)) pe_int))
      (pss_cons (ps_set (i := 6) sc__law_draws.nd rfl (Or.inl rfl) (pe_op Z.op_mod (pe_callTy Z.call_int (by rfl) T.n_int (by decide +kernel) (pa_cons (pe_op Z.op_add (pe_op Z.op_mul (pv 6) pe_int) (pe_op Z.op_mul (pe_op Z.op_add (pv 5) pe_int) pe_int)) pa_nil)) pe_int))
      (pss_cons (ps_set (i := 7) sc__law_draws.nd rfl (Or.inl rfl) (pe_op Z.op_mod (pe_callTy Z.call_int (by rfl) T.n_int (by decide +kernel) (pa_cons (pe_op Z.op_add (pe_op Z.op_mul (pv 0) pe_int) (pe_op Z.op_mul (pe_op Z.op_add (pv 5) pe_int) pe_int)) pa_nil)) pe_int))
      (pss_cons (ps_set (i := 7) sc__law_draws.nd rfl (Or.inl rfl) (pe_op Z.op_mod (pe_callTy Z.call_int (by rfl) T.n_int (by decide +kernel) (pa_cons (pe_op Z.op_add (pe_op Z.op_mul (pv 7) pe_int) (pv 6)) pa_nil)) pe_int))
      (pss_one (ps_expr (pe_bm PySem.F.plainAttrs_list PySem.F.slot_list_append PySem.F.type_list_append mt_append (pv 3) (pa_cons (pe_op Z.op_mod (pe_callTy Z.call_int (by rfl) T.n_int (by decide +kernel) (pa_cons (pe_op Z.op_add (pe_op Z.op_mul (pv 7) pe_int) (pv 6)) pa_nil)) (pe_ix (Z.ix (K := K) rfl) (pv 1) (pv 5) (fun _ _ => rfl))) pa_nil)))))))))
      (pss_one (ps_ret (pv 3))))))), ?_⟩
    try dsimp only [cxOf, Cx.nox, Cx.wish]
    try (show (_ : TS) _ [some _, some _, none, none, none, none, none, none] _)
    walk_at "go"
    refine Z.w_dec (fun hc => ?_) (fun hc => ?_)
    · walk_at "go"
      rename_i J S p H2 hn he hp
      refine k p H2 (List.replicate sz.length 0) hn he (hp.l (by rw [List.length_map])) ⟨List.length_replicate, fun i hi => ?_⟩
      · rw [List.length_replicate] at hi
        simp only [List.getD_eq_getElem?_getD, List.getElem?_replicate, hi, if_true, Option.getD_some]
        have := (gp i hi).1
        rw [List.getD_eq_getElem?_getD] at this
        exact ⟨Int.le_refl 0, this⟩
    · walk_at "go"
      refine Z.w_dec (fun hd => ?_) (fun hd => ?_)
      · walk_at "go"
        rename_i F H1 hF e1 h1 J S
        refine Z.fg S (fun i σ H' => ∃ (left : Int) (ds : List Int) (v : Option V), σ = [some (.int c), some (.ref l), some (.int left), some (.ref F), v, none, none, none] ∧ Ex H H' ∧ At H' F (.lst (ds.map V.int)) ∧ ds.length = i ∧ ∀ k, k < ds.length → 0 ≤ ds.getD k 0 ∧ ds.getD k 0 < sz.getD k 0)
          ⟨_, [], none, rfl, e1, h1, rfl, fun k hk => absurd hk (by simp)⟩ (fun i σ' H' _ ⟨_, _, _, _, e, _⟩ => by walk_at "fl") ?_ ?_
        · rintro i x σ' H' H'' hi ⟨left, ds, v, rfl, e, hds, hlen, hall⟩ e2 hx
          rw [List.length_map] at hi
          rw [List.getElem?_map, List.getElem?_eq_getElem hi] at hx
          obtain rfl := (Option.some.inj hx).symm
          have g0 := gp i hi
          have ei : sz.getD i 0 = sz[i] := by rw [List.getD_eq_getElem?_getD, List.getElem?_eq_getElem hi]; rfl
          rw [ei] at g0
          have hds2 := e2.get hds
          have hdv : CDivW left sz[i] := wide_div (b := 250) g0.1 (by have := g0.2; have := g0.1; omega) (by decide) (by decide)
          walk_at "go"
          rename_i H2 hp2 hnl2 ho2 hke
          refine ⟨_, ds ++ [left % sz[i]], some _, rfl, hke, hp2.l (by rw [List.map_append]; rfl), by simp [hlen], dr_snoc (by omega) hall (Int.emod_nonneg _ (by omega)) ?_⟩
          rw [hlen, ei]
          exact Int.emod_lt_of_pos _ g0.1
        · rintro σ' H' ⟨left, ds, v, rfl, e, hds, hlen, hall⟩
          walk_at "go"
          exact k F H' ds hF e hds ⟨by simpa using hlen, hall⟩
      · walk_at "go"
        rename_i F H1 hF e1 h1 J S
        refine Z.fg S (fun i σ H' => ∃ (ds : List Int) (v5 v6 v7 : Option V), σ = [some (.int c), some (.ref l), none, some (.ref F), none, v5, v6, v7] ∧ Ex H H' ∧ At H' F (.lst (ds.map V.int)) ∧ ds.length = i ∧ ∀ k, k < ds.length → 0 ≤ ds.getD k 0 ∧ ds.getD k 0 < sz.getD k 0)
          ⟨[], none, none, none, rfl, e1, h1, rfl, fun k hk => absurd hk (by simp)⟩ (fun i σ' H' _ _ => trivial) ?_ ?_
        · rintro i x σ' H' H'' hi ⟨ds, v5, v6, v7, rfl, e, hds, hlen, hall⟩ e2 rfl
          have hi' : i < sz.length := by simpa using hi
          have g0 := gp i hi'
          have hds2 := e2.get hds
          have g1 : 0 < sz.getD (Int.toNat (i : Int)) 0 := by rw [Int.toNat_natCast]; exact g0.1
          walk_at "go"
          rename_i H2 hp2 hnl2 ho2 hke
          refine ⟨ds ++ [_], some _, some _, some _, rfl, hke, hp2.l (by rw [List.map_append]; rfl), by simp [hlen], dr_snoc (by omega) hall (Int.emod_nonneg _ (by omega)) ?_⟩
          rw [hlen]
          exact Int.emod_lt_of_pos _ g1
        · rintro σ' H' ⟨ds, v5, v6, v7, rfl, e, hds, hlen, hall⟩
          walk_at "go"
          exact k F H' ds hF e hds ⟨by simpa using hlen, hall⟩
theorem u_draws {H : Hp} {Q : VK} {E : XK} {l : Addr} {sz : List Int} {c : Int} (h : SqL K H l (sz.map V.int)) (hz : sz.length ≤ 100000 ∧ ∀ z ∈ sz, 0 < z ∧ z < 2 ^ 250) (k : ∀ (p : Addr) (H' : Hp) (ds : List Int), Fr H p → Ex H H' → At H' p (.lst (ds.map V.int)) → Dr sz ds → Q (.ref p) H') : sp__law_draws K [.int c, .ref l] H Q E :=
  ⟨c, l, sz, rfl, h, hz.1, hz.2, k⟩
theorem Dr.all {n : Nat} {c : Int} {ds : List Int} (h : Dr (List.replicate n c) ds) : ds.length = n ∧ ∀ x ∈ ds, 0 ≤ x ∧ x < c := by
  have hl : ds.length = n := by rw [h.1, List.length_replicate]
  refine ⟨hl, fun x hx => ?_⟩
  obtain ⟨i, hi, rfl⟩ := List.mem_iff_getElem.mp hx
  have q := h.2 i hi
  rw [getD_get _ _ _ hi, List.getD_eq_getElem?_getD, List.getElem?_replicate, if_pos (by omega)] at q
  exact q
/-- the bounds one by one -/
def Bs : List Int → List Int → Nat → Prop
  | [], _, _ => True
  | z :: r, ds, k => (0 ≤ ds.getD k 0 ∧ ds.getD k 0 < z) ∧ Bs r ds (k + 1)
theorem bs_of : ∀ (sz ds : List Int) (k : Nat), (∀ i, i < sz.length → 0 ≤ ds.getD (k + i) 0 ∧ ds.getD (k + i) 0 < sz.getD i 0) → Bs sz ds k
  | [], _, _, _ => trivial
  | z :: r, ds, k, h => ⟨by have := h 0 (by simp); simpa using this, bs_of r ds (k + 1) fun i hi => by
      have := h (i + 1) (by simpa using hi)
      rw [show k + 1 + i = k + (i + 1) by omega]
      simpa using this⟩
theorem Dr.bnd {sz ds : List Int} (h : Dr sz ds) : ds.length = sz.length ∧ Bs sz ds 0 := ⟨h.1, bs_of sz ds 0 fun i hi => by rw [Nat.zero_add]; exact h.2 i (by rw [h.1]; exact hi)⟩
theorem Dr.drop {sz ds : List Int} {j : Nat} {c : Int} (h : Dr sz ds) (hz : ∀ z ∈ sz.drop j, z ≤ c) : ∀ x ∈ ds.drop j, 0 ≤ x ∧ x < c := fun x hx => by
  obtain ⟨i, hi, rfl⟩ := List.mem_iff_getElem.mp hx
  have h1 : j + i < ds.length := by rw [List.length_drop] at hi; omega
  have h2 : j + i < sz.length := by rw [← h.1]; exact h1
  have q := h.2 (j + i) h1
  rw [getD_get _ _ _ h1, getD_get _ _ _ h2] at q
  have h3 : i < (sz.drop j).length := by rw [List.length_drop]; omega
  have := hz (sz.drop j)[i] (List.getElem_mem h3)
  rw [List.getElem_drop] at this ⊢
  omega
theorem Dr.whole {sz ds : List Int} {c : Int} (h : Dr sz ds) (hz : ∀ z ∈ sz, z ≤ c) : ∀ x ∈ ds, 0 ≤ x ∧ x < c := h.drop (j := 0) hz
local macro_rules | `(tactic| walk_at "call") => `(tactic| ((with_reducible apply R.u_draws); (walk_at "fi"); (first | decide | with_reducible assumption); (intro p H2 ds hn he hp hd); (try dsimp only at hd); (try (have hb := R.Dr.bnd hd; simp only [R.Bs, List.length_cons, List.length_nil, Nat.reduceAdd, and_true] at hb))))

def sp__law_row (K : PySem.W.Frag) : Sp := fun vs H Q _ => ∃ (c n : Int), vs = [.int c, .int n] ∧ 0 ≤ n ∧ n ≤ 50000 ∧
  ∀ (p : Addr) (H' : Hp) (ns : List Int), Fr H p → Ex H H' → At H' p (.lst (ns.map V.int)) → ns.length = n.toNat → (∀ x ∈ ns, 0 ≤ x ∧ x < 999999999999999999) → Q (.ref p) H'
theorem ok__law_row (T : Tx P K mg) : FnOk P w K mg base (L2.CX P w) 2 (He.ga K "_law_row") (Z.fdOf K (He.ga K "_law_row")) ["_law_cell_here", "_law_count"] (sp__law_row K) := by
  refine T.F__law_row.ok sc__law_row (fun vs H Q E h => ?_) (fun cdv A outer s H vs Q E hr h => ?_)
  · obtain ⟨c, n, rfl, _⟩ := h
    rfl
  · obtain ⟨c, n, rfl, hn0, hn1, k⟩ := h
    refine ⟨_, PSs.nox (pss_cons (ps_set (i := 2) sc__law_row.nd rfl (Or.inl rfl) (pe_call (ok__law_draws T) (hr.mono (by decide)) (by rfl) T.g__law_draws T.F__law_draws.kp T.b__law_draws .nil passL (pa_cons (pv 0) (pa_cons (pe_op Z.op_add (pe_lst (pa_cons pe_int pa_nil)) (pe_lc (own := [("_law_k", 4)]) rfl sc__law_row.nd (pi_range1 (by rfl) T.n_range (pa_cons (pv 1) pa_nil)) (blkOk_by (N := ["_law_cell_here", "_law_count", "_law_drawn", "_law_bound", "_law_k", "_law_value"]) (sc := defScope s__law_row) (by decide +kernel)) (fun _ _ _ _ _ => (pg_name (i := 4) sc__law_row.nd rfl (by first | exact Or.inl rfl | exact Or.inr rfl))) (fun _ _ _ _ _ => pts_nil) (fun _ _ _ _ _ => (pe_op op_pow pe_int pe_int)))) pa_nil))))
      (pss_cons (ps_set (i := 3) sc__law_row.nd rfl (Or.inr rfl) (pe_ix (Z.ix (K := K) rfl) (pe_lst (pa_cons pe_int (pa_cons pe_int (pa_cons (pe_op op_pow pe_int pe_int) (pa_cons (pe_op Z.op_sub (pe_op op_pow pe_int pe_int) pe_int) pa_nil))))) (pe_ix (Z.ix (K := K) rfl) (pv 2) pe_int (fun _ _ => rfl)) (fun _ _ => rfl)))
      (pss_one (ps_ret (pe_lc (own := [("_law_value", 5)]) rfl sc__law_row.nd (Z.piL (K := K) rfl (pe_slice (Z.slL (K := K) rfl) (pv 2) (po_some pe_int) po_none)) (blkOk_by (N := ["_law_cell_here", "_law_count", "_law_drawn", "_law_bound", "_law_k", "_law_value"]) (sc := defScope s__law_row) (by decide +kernel)) (fun _ _ _ _ _ => (pg_name (i := 5) sc__law_row.nd rfl (by first | exact Or.inl rfl | exact Or.inr rfl))) (fun _ _ _ _ _ => pts_nil) (fun _ _ _ _ _ => (pe_op Z.op_mod (pe_callTy Z.call_int (by rfl) T.n_int (by decide +kernel) (pa_cons (pv 5) pa_nil)) (pv 3)))))))), ?_⟩
    try dsimp only [cxOf, Cx.nox, Cx.wish]
    try (show (_ : TS) _ [some _, some _, none, none, none, none] _)
    walk_at "go"
    rename_i p0 H0 hn0 he0 hp0 J1 S1 p1 H1 hn1' he1 hp1 p2 H2 hn2 he2 hp2
    refine u_draws (sz := 4 :: List.replicate n.toNat 1000000000000000000) (sq_of hp2) ⟨by simp; omega, ?_⟩ fun p3 H3 ds hn3 he3 hp3 hd => ?_
    · intro z hz
      rcases List.mem_cons.mp hz with rfl | hz
      · decide
      · rw [List.eq_of_mem_replicate hz]; decide
    have hl : ds.length = n.toNat + 1 := by rw [hd.1]; simp
    have h0 := hd.2 0 (by omega)
    have h0' : ds.getD 0 0 < 4 := h0.2
    walk_at "go"
    rename_i p4 H4 hn4 he4 hp4 p5 H5 hn5 he5 hp5 J5 S5
    have hbd : ∃ bd : Int, ([4, 30, 1000000000, 1000000000000000000 - 1] : List Int).getD (ds.getD 0 0).toNat 0 = bd ∧ 0 < bd ∧ bd ≤ 999999999999999999 := by
      have : ds.getD 0 0 = 0 ∨ ds.getD 0 0 = 1 ∨ ds.getD 0 0 = 2 ∨ ds.getD 0 0 = 3 := by omega
      rcases this with e | e | e | e <;> rw [e] <;> exact ⟨_, rfl, by decide, by decide⟩
    obtain ⟨bd, ebd, hbd0, hbd1⟩ := hbd
    rw [ebd]
    have hlen : (ds.drop (Int.toNat 1)).length = n.toNat := by simp [hl]
    generalize hds : ds.drop (Int.toNat 1) = es at *
    refine Z.cgI S5 (fun i => es.getD i 0 % bd) (fun H' e => by walk_at "fl") (by rw [List.length_map, hlen]; show _ ≤ 16777216; omega) (fun Dl i x H' hi ec c y => ?_) (fun p8 H8 hn8 he8 hp8 => ?_) rfl
    · obtain ⟨hi2, rfl⟩ := get_int y
      walk_at "go"
    · rw [List.length_map, hlen] at hp8
      refine k p8 H8 _ (by walk_at "fr") (by walk_at "ex") hp8 (by simp) ?_
      intro x hx
      obtain ⟨i, _, rfl⟩ := List.mem_map.mp hx
      exact ⟨Int.emod_nonneg _ (by omega), Int.lt_of_lt_of_le (Int.emod_lt_of_pos _ hbd0) hbd1⟩
theorem u_row {H : Hp} {Q : VK} {E : XK} {c n : Int} (h0 : 0 ≤ n) (h1 : n ≤ 50000) (k : ∀ (p : Addr) (H' : Hp) (ns : List Int), Fr H p → Ex H H' → At H' p (.lst (ns.map V.int)) → ns.length = n.toNat → (∀ x ∈ ns, 0 ≤ x ∧ x < 999999999999999999) → Q (.ref p) H') : sp__law_row K [.int c, .int n] H Q E := ⟨c, n, rfl, h0, h1, k⟩
local macro_rules | `(tactic| walk_at "call") => `(tactic| ((with_reducible apply R.u_row); (walk_at "num"); (walk_at "num"); (intro p H2 ns hn he hp hl hx)))

def sp__law_power : Sp := fun vs H Q _ => ∃ m : Nat, vs = [.int (m : Int)] ∧ m ≤ 1000 ∧ ∀ H', Ex H H' → Q (.int ((2 ^ m : Nat) : Int)) H'
theorem ok__law_power (T : Tx P K mg) : FnOk P w K mg base (L2.CX P w) 1 (He.ga K "_law_power") (Z.fdOf K (He.ga K "_law_power")) ["_law_many"] sp__law_power := by
  refine T.F__law_power.ok sc__law_power (fun vs H Q E h => ?_) (fun cdv A outer s H vs Q E hr h => ?_)
  · obtain ⟨m, rfl, _⟩ := h
    rfl
  · obtain ⟨m, rfl, hm, k⟩ := h
    refine ⟨_, PSs.nox (pss_cons (ps_set (i := 1) sc__law_power.nd rfl (Or.inl rfl) pe_int)
      (pss_cons (ps_for PassesOwn.never rfl (pi_range1 (by rfl) T.n_range (pa_cons (pv 0) pa_nil)) (pg_name (i := 2) sc__law_power.nd rfl (by first | exact Or.inl rfl | exact Or.inr rfl)) (pss_one (ps_set (i := 1) sc__law_power.nd rfl (Or.inl rfl) (pe_op Z.op_mul (pv 1) pe_int))))
      (pss_one (ps_ret (pv 1))))), ?_⟩
    try dsimp only [cxOf, Cx.nox, Cx.wish]
    try (show (_ : TS) _ [some _, none, none] _)
    walk_at "go"
    refine Z.fg (by assumption) (fun i σ G => ∃ v, σ = [some (.int (m : Int)), some (.int ((2 ^ i : Nat) : Int)), v] ∧ Ex H G) ⟨none, rfl, Ex.refl _⟩ (fun i σ' G _ _ => trivial) ?_ ?_
    · rintro i x σ' G G2 hi ⟨v, rfl, e⟩ e2 y
      walk_at "go"
      refine ⟨some x, ?_, e.trans e2⟩
      rw [Nat.pow_succ, Int.natCast_mul]
      rfl
    · rintro σ' G ⟨v, rfl, e⟩
      walk_at "go"
      rw [Int.toNat_natCast]
      exact k _ e

/-- some of the things -/
def sp__law_shuffled (K : PySem.W.Frag) : Sp := fun vs H Q _ => ∃ (p t : Addr) (ps ts : List Int), vs = [.ref p, .ref t] ∧ SqL K H p (ps.map V.int) ∧ SqL K H t (ts.map V.int) ∧ ps.length ≤ 100 ∧ ts.length ≤ 100 ∧ ∀ q H' (ns : List Int), Fr H q → Ex H H' → At H' q (.lst (ns.map V.int)) → ns.length ≤ ps.length → Q (.ref q) H'
theorem ok__law_shuffled (T : Tx P K mg) : FnOk P w K mg base (L2.CX P w) 1 (He.ga K "_law_shuffled") (Z.fdOf K (He.ga K "_law_shuffled")) ["_law_places", "_law_things"] (sp__law_shuffled K) := by
  refine T.F__law_shuffled.ok sc__law_shuffled (fun vs H Q E h => ?_) (fun cdv A outer s H vs Q E hr h => ?_)
  · obtain ⟨p, t, ps, ts, rfl, _⟩ := h
    rfl
  · obtain ⟨p, t, ps, ts, rfl, hp, ht, hpl, htl, k⟩ := h
    refine ⟨_, PSs.nox (pss_cons (ps_set (i := 2) sc__law_shuffled.nd rfl (Or.inl rfl) (pe_callTy (Z.call_list (K := K) rfl) (by rfl) T.n_list (by decide +kernel) (pa_cons (pv 1) pa_nil)))
      (pss_cons (ps_set (i := 3) sc__law_shuffled.nd rfl (Or.inl rfl) (pe_lst pa_nil))
      (pss_cons (ps_for PassesOwn.never rfl (Z.piL (K := K) rfl (pv 0)) (pg_name (i := 4) sc__law_shuffled.nd rfl (by first | exact Or.inl rfl | exact Or.inr rfl)) (pss_one (ps_if (pt_cmpR Z.op_gt (pe_callB (Z.call_len (K := K) rfl) (by rfl) T.n_len (by decide +kernel) (pa_cons (pv 2) pa_nil)) pe_int (nomark _)) (pss_one (ps_expr (pe_bm PySem.F.plainAttrs_list PySem.F.slot_list_append PySem.F.type_list_append mt_append (pv 3) (pa_cons (pe_bm PySem.F.plainAttrs_list PySem.F.slot_list_pop PySem.F.type_list_pop mt_popAt (pv 2) (pa_cons (pe_op Z.op_mod (pe_callTy Z.call_int (by rfl) T.n_int (by decide +kernel) (pa_cons (pv 4) pa_nil)) (pe_callB (Z.call_len (K := K) rfl) (by rfl) T.n_len (by decide +kernel) (pa_cons (pv 2) pa_nil))) pa_nil)) pa_nil)))) pss_nil)))
      (pss_one (ps_ret (pv 3)))))), ?_⟩
    try dsimp only [cxOf, Cx.nox, Cx.wish]
    try (show (_ : TS) _ [some _, some _, none, none, none] _)
    walk_at "go"
    rename_i L1 H1 hL1 he1 hp1 F2 H2 hF2 he2 hp2 J S
    have hne : F2 ≠ L1 := fun z => hp1.ne hF2 z.symm
    refine Z.fg S (fun i σ G => ∃ (ls ns : List Int) (v4 : Option V), σ = [some (.ref p), some (.ref t), some (.ref L1), some (.ref F2), v4] ∧ Ex H G ∧ At G L1 (.lst (ls.map V.int)) ∧ At G F2 (.lst (ns.map V.int)) ∧ ns.length ≤ i ∧ ls.length ≤ 100)
      ⟨ts, [], none, rfl, he1.trans he2, he2.get hp1, hp2, Nat.le_refl _, htl⟩ (fun i σ' G _ ⟨_, _, _, _, e, _⟩ => e.l hp) ?_ ?_
    · rintro i y σ' G G2 hi ⟨ls, ns, v4, rfl, eG, hL, hF, hn, hl⟩ e2 hy
      obtain ⟨hi2, rfl⟩ := get_int hy
      have hL2 := e2.get hL
      have hF2' := e2.get hF
      have fL : Fr H L1 := hL1
      have fF : Fr H F2 := he1.back hF2
      walk_at "go"
      refine Z.w_dec (fun h => ?_) (fun h => ?_)
      · have m0 := Int.emod_nonneg (ps.getD i 0) (show (ls.length : Int) ≠ 0 by omega)
        have m1 := Int.emod_lt_of_pos (ps.getD i 0) (show (0 : Int) < ls.length by omega)
        walk_at "go"
        rename_i G3 hp3 hnl3 ho3 hke3
        have hF3 := ho3 F2 _ hne hF2'
        have hl3 : (ls.eraseIdx (ps.getD i 0 % (ls.length : Int)).toNat).length ≤ 100 := Nat.le_trans (List.length_eraseIdx_le _ _) hl
        walk_at "go"
        rename_i G4 hp4 hnl4 ho4 hke4
        exact ⟨_, ns ++ [_], _, rfl, hke4, ho4 L1 _ (Ne.symm hne) hp3, hp4.l (by rw [List.map_append]; rfl), by rw [List.length_append]; simp; omega, hl3⟩
      · walk_at "go"
        exact ⟨ls, ns, _, rfl, eG.trans e2, hL2, hF2', by omega, hl⟩
    · rintro σ' G ⟨ls, ns, v4, rfl, eG, hL, hF, hn, hl⟩
      walk_at "go"
      exact k F2 G ns (he1.back hF2) eG hF (by rw [List.length_map] at hn; exact hn)

def sp__law_is_int : Sp := fun vs H Q _ => ∃ i : Int, vs = [.int i] ∧ Q (.bl true) H
theorem ok__law_is_int (T : Tx P K mg) : FnOk P w K mg base (L2.CX P w) 1 (He.ga K "_law_is_int") (Z.fdOf K (He.ga K "_law_is_int")) ["_law_x"] sp__law_is_int := by
  refine T.F__law_is_int.ok sc__law_is_int (fun vs H Q E h => ?_) (fun cdv A outer s H vs Q E hr h => ?_)
  · obtain ⟨i, rfl, _⟩ := h
    rfl
  · obtain ⟨i, rfl, k⟩ := h
    refine ⟨_, PSs.nox (pss_one (ps_ret (pe_and (pe_callB (Z.call_isi (K := K) rfl) (by rfl) T.n_isinstance (by decide +kernel) (pa_cons (pv 0) (pa_cons (pe_bltn (v := .ty "int") (u := .type "int") (by rfl) T.n_int (by decide +kernel) rfl) pa_nil))) (pe_one (pe_not (pe_callB (Z.call_isi (K := K) rfl) (by rfl) T.n_isinstance (by decide +kernel) (pa_cons (pv 0) (pa_cons (pe_bltn (v := .ty "bool") (u := .type "bool") (by rfl) T.n_bool (by decide +kernel) rfl) pa_nil)))))))), ?_⟩
    try dsimp only [cxOf, Cx.nox, Cx.wish]
    try (show (_ : TS) _ [some _] _)
    walk_at "go"
    exact k
theorem u_isint {H : Hp} {Q : VK} {E : XK} {i : Int} (k : Q (.bl true) H) : sp__law_is_int [.int i] H Q E := ⟨i, rfl, k⟩
local macro_rules | `(tactic| walk_at "call") => `(tactic| ((with_reducible refine R.u_isint ?_)))

/-- None, a text or an int -/
def Flt (v : V) : Prop := v = .non ∨ (∃ s, v = .str s) ∨ ∃ i, v = .int i
def sp__law_refused (K : PySem.W.Frag) : Sp := fun vs H Q _ => ∃ (a b : Addr) (xs : List V), vs = [.ref a, .ref b] ∧ SqT K H a xs ∧ SqT K H b xs ∧ xs.length ≤ 3 ∧ (∀ v ∈ xs, Flt v) ∧ ∀ H', Ex H H' → Q (.bl true) H'
theorem ok__law_refused (T : Tx P K mg) : FnOk P w K mg base (L2.CX P w) 2 (He.ga K "_law_refused") (Z.fdOf K (He.ga K "_law_refused")) ["_law_answer", "_law_due"] (sp__law_refused K) := by
  refine T.F__law_refused.ok sc__law_refused (fun vs H Q E h => ?_) (fun cdv A outer s H vs Q E hr h => ?_)
  · obtain ⟨a, b, xs, rfl, _⟩ := h
    rfl
  · obtain ⟨a, b, xs, rfl, ha, hb, hlen, hflat, k⟩ := h
    refine ⟨_, PSs.nox (pss_cons (ps_if (pt_cmpR (Z.op_ne (K := K) rfl hr.units) (pe_callB (Z.call_len (K := K) rfl) (by rfl) T.n_len (by decide +kernel) (pa_cons (pv 0) pa_nil)) (pe_callB (Z.call_len (K := K) rfl) (by rfl) T.n_len (by decide +kernel) (pa_cons (pv 1) pa_nil)) (nomark _)) (pss_one (ps_ret pe_bl)) pss_nil)
      (pss_cons (ps_for PassesOwn.never rfl (pi_range1 (by rfl) T.n_range (pa_cons (pe_callB (Z.call_len (K := K) rfl) (by rfl) T.n_len (by decide +kernel) (pa_cons (pv 1) pa_nil)) pa_nil)) (pg_name (i := 2) sc__law_refused.nd rfl (by first | exact Or.inl rfl | exact Or.inr rfl)) (pss_one (ps_if (pt_cmp (pc_isN (pe_ix (Z.ix (K := K) rfl) (pv 1) (pv 2) (fun _ _ => rfl)))) (pss_one (ps_if (pt_cmp (pc_notN (pe_ix (Z.ix (K := K) rfl) (pv 0) (pv 2) (fun _ _ => rfl)))) (pss_one (ps_ret pe_bl)) pss_nil)) (pss_one (ps_if (pt_val (pe_callB (Z.call_isi (K := K) rfl) (by rfl) T.n_isinstance (by decide +kernel) (pa_cons (pe_ix (Z.ix (K := K) rfl) (pv 1) (pv 2) (fun _ _ => rfl)) (pa_cons (pe_bltn (v := .ty "str") (u := .type "str") (by rfl) T.n_str (by decide +kernel) rfl) pa_nil)))) (pss_one (ps_if (PW.pt (pw_or (pt_not (pt_val (pe_callB (Z.call_isi (K := K) rfl) (by rfl) T.n_isinstance (by decide +kernel) (pa_cons (pe_ix (Z.ix (K := K) rfl) (pv 0) (pv 2) (fun _ _ => rfl)) (pa_cons (pe_bltn (v := .ty "str") (u := .type "str") (by rfl) T.n_str (by decide +kernel) rfl) pa_nil))))) (pw_or1 (pt_cmpR (Z.op_ne (K := K) rfl hr.units) (pe_ix (Z.ix (K := K) rfl) (pv 0) (pv 2) (fun _ _ => rfl)) (pe_ix (Z.ix (K := K) rfl) (pv 1) (pv 2) (fun _ _ => rfl)) (nomark _))))) (pss_one (ps_ret pe_bl)) pss_nil)) (pss_one (ps_if (PW.pt (pw_or (pt_not (pt_val (pe_call (ok__law_is_int T) (hr.mono (by decide)) (by rfl) T.g__law_is_int T.F__law_is_int.kp T.b__law_is_int .nil passL (pa_cons (pe_ix (Z.ix (K := K) rfl) (pv 0) (pv 2) (fun _ _ => rfl)) pa_nil)))) (pw_or1 (pt_cmpR (Z.op_ne (K := K) rfl hr.units) (pe_ix (Z.ix (K := K) rfl) (pv 0) (pv 2) (fun _ _ => rfl)) (pe_ix (Z.ix (K := K) rfl) (pv 1) (pv 2) (fun _ _ => rfl)) (nomark _))))) (pss_one (ps_ret pe_bl)) pss_nil)))))))
      (pss_one (ps_ret pe_bl)))), ?_⟩
    try dsimp only [cxOf, Cx.nox, Cx.wish]
    try (show (_ : TS) _ [some _, some _, none] _)
    walk_at "go"
    walk_at "run"
    rename_i J S
    refine Z.fg S (fun i σ G => ∃ (v2 : Option V), σ = [some (.ref a), some (.ref b), v2] ∧ Ex H G) ⟨none, rfl, Ex.refl _⟩ (fun i σ' G _ _ => trivial) ?_ ?_
    · rintro i y σ' G G2 hi ⟨v2, rfl, eG⟩ e2 rfl
      have hi2 : i < xs.length := by omega
      obtain ⟨v, hv⟩ : ∃ v, xs[i]? = some v := ⟨_, List.getElem?_eq_getElem hi2⟩
      have hat : atI xs (i : Int) = some v := by
        unfold atI
        rw [ixN_pos (by omega) (by omega), Int.toNat_natCast]
        exact hv
      have ha2 : SqT K G2 a xs := by walk_at "ft"
      have hb2 : SqT K G2 b xs := by walk_at "ft"
      have ixa : ∀ {Q : VK}, Q v G2 → rIx K (.ref a) (.int (i : Nat)) G2 Q := fun q => w_ixT ha2 hat q
      have ixb : ∀ {Q : VK}, Q v G2 → rIx K (.ref b) (.int (i : Nat)) G2 Q := fun q => w_ixT hb2 hat q
      clear ha2 hb2
      walk_at "run"
      refine ixb ?_
      rcases hflat v (List.mem_of_getElem? hv) with rfl | ⟨s', rfl⟩ | ⟨j, rfl⟩
      · walk_at "run"
        refine ixa ?_
        walk_at "run"
        exact ⟨_, rfl, by walk_at "ex"⟩
      · walk_at "run"
        refine ixb ?_
        walk_at "run"
        refine ixa ?_
        walk_at "run"
        refine ixa ?_
        walk_at "run"
        refine ixb ?_
        walk_at "run"
        exact ⟨_, rfl, by walk_at "ex"⟩
      · walk_at "run"
        refine ixb ?_
        walk_at "run"
        refine ixa ?_
        walk_at "run"
        refine ixa ?_
        walk_at "run"
        refine ixb ?_
        walk_at "run"
        exact ⟨_, rfl, by walk_at "ex"⟩
    · rintro σ' G ⟨v2, rfl, eG⟩
      walk_at "go"
      exact k _ eG

/-- lows and highs -/
def Bnd (p : Int × Int) : Prop := 1 ≤ p.1 ∧ p.1 ≤ p.2 ∧ p.2 < 1000000000000000000
theorem gsn_lt {α : Type} {l : List α} {z d : α} {j : Nat} (h : j < l.length) : (l ++ [z]).getD j d = l.getD j d := by
  rw [List.getD_eq_getElem?_getD, List.getElem?_append_left h, ← List.getD_eq_getElem?_getD]
theorem gsn_eq {α : Type} {l : List α} {z d : α} {j : Nat} (h : l.length = j) : (l ++ [z]).getD j d = z := by
  rw [List.getD_eq_getElem?_getD, List.getElem?_append_right (by omega), h, Nat.sub_self]
  rfl
def sp__law_bounds (K : PySem.W.Frag) : Sp := fun vs H Q _ => ∃ (c d n : Int), vs = [.int c, .int d, .int n] ∧ 0 ≤ n ∧ n ≤ 100 ∧
  ∀ p H' xs ps, Fr H p → Ex H H' → At H' p (.lst xs) → PL H' xs ps → ps.length = n.toNat → (∀ b ∈ ps, Bnd b) → Q (.ref p) H'
theorem ok__law_bounds (T : Tx P K mg) : FnOk P w K mg base (L2.CX P w) 3 (He.ga K "_law_bounds") (Z.fdOf K (He.ga K "_law_bounds")) ["_law_low_cell", "_law_high_cell", "_law_count"] (sp__law_bounds K) := by
  refine T.F__law_bounds.ok sc__law_bounds (fun vs H Q E h => ?_) (fun cdv A outer s H vs Q E hr h => ?_)
  · obtain ⟨c, d, n, rfl, _⟩ := h
    rfl
  · obtain ⟨c, d, n, rfl, h0, h1, k⟩ := h
    refine ⟨_, PSs.nox (pss_cons (ps_set (i := 3) sc__law_bounds.nd rfl (Or.inl rfl) (pe_call (ok__law_row T) (hr.mono (by decide)) (by rfl) T.g__law_row T.F__law_row.kp T.b__law_row .nil passL (pa_cons (pv 0) (pa_cons (pv 2) pa_nil))))
      (pss_cons (ps_set (i := 4) sc__law_bounds.nd rfl (Or.inl rfl) (pe_call (ok__law_row T) (hr.mono (by decide)) (by rfl) T.g__law_row T.F__law_row.kp T.b__law_row .nil passL (pa_cons (pv 1) (pa_cons (pv 2) pa_nil))))
      (pss_cons (ps_set (i := 5) sc__law_bounds.nd rfl (Or.inl rfl) (pe_lst pa_nil))
      (pss_cons (ps_for PassesOwn.never rfl (pi_range1 (by rfl) T.n_range (pa_cons (pv 2) pa_nil)) (pg_name (i := 6) sc__law_bounds.nd rfl (by first | exact Or.inl rfl | exact Or.inr rfl)) (pss_cons (ps_set (i := 7) sc__law_bounds.nd rfl (Or.inl rfl) (pe_op Z.op_add pe_int (pe_ix (Z.ix (K := K) rfl) (pv 3) (pv 6) (fun _ _ => rfl))))
      (pss_one (ps_expr (pe_bm PySem.F.plainAttrs_list PySem.F.slot_list_append PySem.F.type_list_append mt_append (pv 5) (pa_cons (pe_tup (pa_cons (pv 7) (pa_cons (pe_op Z.op_add (pv 7) (pe_op Z.op_mod (pe_callTy Z.call_int (by rfl) T.n_int (by decide +kernel) (pa_cons (pe_ix (Z.ix (K := K) rfl) (pv 4) (pv 6) (fun _ _ => rfl)) pa_nil)) (pe_op Z.op_sub (pe_op op_pow pe_int pe_int) (pv 7)))) pa_nil))) pa_nil))))))
      (pss_one (ps_ret (pv 5))))))), ?_⟩
    try dsimp only [cxOf, Cx.nox, Cx.wish]
    try (show (_ : TS) _ [some _, some _, some _, none, none, none, none, none] _)
    walk_at "go"
    rename_i B4 H4 bs hB4 he4 hp4 hbl hbx X5 H5 xs5 hX5 he5 hp5 hxl hxx C9 H9 hC9 he9 hp9 J S
    refine Z.fg S (fun i σ G => ∃ (xs : List V) (ps : List (Int × Int)) (v6 v7 : Option V), σ = [some (.int c), some (.int d), some (.int n), some (.ref B4), some (.ref X5), some (.ref C9), v6, v7] ∧ Ex H5 G ∧ At G C9 (.lst xs) ∧ PL G xs ps ∧ ps.length = i ∧ ∀ b ∈ ps, Bnd b)
      ⟨[], [], none, none, rfl, he9, hp9, PL.nil, rfl, fun b hb => by simp at hb⟩ (fun i σ' G _ _ => trivial) ?_ ?_
    · rintro i y σ' G G2 hi ⟨xs, ps, v6, v7, rfl, eG, hG, hPL, hpl, hB⟩ e2 rfl
      have hb1 := hbx _ (List.getElem_mem (show i < bs.length by omega))
      rw [← getD_get _ _ 0] at hb1
      have hG2 := e2.get hG
      have hPL2 := hPL.ex e2
      have hxl2 := hPL.1
      walk_at "go"
      rename_i q1 G3 hq1 hge1 hqp1 G6 hp6' hnl6 ho6 hke6
      refine ⟨_, _, _, _, rfl, hke6, hp6', ((hPL2.ex hge1).nl hnl6).snoc (p := (_, _)) (hnl6.get (fun l z => by cases z) hqp1), by rw [List.length_append, hpl]; rfl, fun b hb => ?_⟩
      rcases List.mem_append.mp hb with hb | hb
      · exact hB b hb
      · rw [List.mem_singleton] at hb
        subst hb
        have z0 : (0 : Int) < 1000000000000000000 - (1 + bs.getD i 0) := by omega
        have m0 := Int.emod_nonneg (xs5.getD i 0) (show (1000000000000000000 - (1 + bs.getD i 0) : Int) ≠ 0 by omega)
        have m1 := Int.emod_lt_of_pos (xs5.getD i 0) z0
        unfold Bnd
        simp only
        omega
    · rintro σ' G ⟨xs, ps, v6, v7, rfl, eG, hG, hPL, hpl, hB⟩
      walk_at "go"
      exact k C9 G xs ps (he4.back (he5.back hC9)) ((he4.trans he5).trans eG) hG hPL (by omega) hB

def sp__law_within (K : PySem.W.Frag) : Sp := fun vs H Q _ => ∃ (c : Int) (l : Addr) (xs : List V) (ps : List (Int × Int)), vs = [.int c, .ref l] ∧ SqL K H l xs ∧ PL H xs ps ∧ ps.length ≤ 100 ∧ (∀ b ∈ ps, Bnd b) ∧
  ∀ p H' (ws : List Int), Fr H p → Ex H H' → At H' p (.lst (ws.map V.int)) → ws.length = ps.length → (∀ i, i < ps.length → (ps.getD i (0, 0)).1 ≤ ws.getD i 0 ∧ ws.getD i 0 ≤ (ps.getD i (0, 0)).2) → Q (.ref p) H'
theorem ok__law_within (T : Tx P K mg) : FnOk P w K mg base (L2.CX P w) 2 (He.ga K "_law_within") (Z.fdOf K (He.ga K "_law_within")) ["_law_cell_here", "_law_couples"] (sp__law_within K) := by
  refine T.F__law_within.ok sc__law_within (fun vs H Q E h => ?_) (fun cdv A outer s H vs Q E hr h => ?_)
  · obtain ⟨c, l, xs, ps, rfl, _⟩ := h
    rfl
  · obtain ⟨c, l, xs, ps, rfl, hl, hPL, hpl, hB, k⟩ := h
    have hxl := hPL.1
    refine ⟨_, PSs.nox (pss_cons (ps_set (i := 2) sc__law_within.nd rfl (Or.inl rfl) (pe_call (ok__law_draws T) (hr.mono (by decide)) (by rfl) T.g__law_draws T.F__law_draws.kp T.b__law_draws .nil passL (pa_cons (pv 0) (pa_cons (pe_lc (own := [("_law_couple", 5)]) rfl sc__law_within.nd (Z.piL (K := K) rfl (pv 1)) (blkOk_by (N := ["_law_cell_here", "_law_couples", "_law_drawn", "_law_found", "_law_k", "_law_couple"]) (sc := defScope s__law_within) (by decide +kernel)) (fun _ _ _ _ _ => (pg_name (i := 5) sc__law_within.nd rfl (by first | exact Or.inl rfl | exact Or.inr rfl))) (fun _ _ _ _ _ => pts_nil) (fun _ _ _ _ _ => (pe_op op_pow pe_int pe_int))) pa_nil))))
      (pss_cons (ps_set (i := 3) sc__law_within.nd rfl (Or.inl rfl) (pe_lst pa_nil))
      (pss_cons (ps_for PassesOwn.never rfl (pi_range1 (by rfl) T.n_range (pa_cons (pe_callB (Z.call_len (K := K) rfl) (by rfl) T.n_len (by decide +kernel) (pa_cons (pv 1) pa_nil)) pa_nil)) (pg_name (i := 4) sc__law_within.nd rfl (by first | exact Or.inl rfl | exact Or.inr rfl)) (pss_one (ps_expr (pe_bm PySem.F.plainAttrs_list PySem.F.slot_list_append PySem.F.type_list_append mt_append (pv 3) (pa_cons (pe_op Z.op_add (pe_ix (Z.ix (K := K) rfl) (pe_ix (Z.ix (K := K) rfl) (pv 1) (pv 4) (fun _ _ => rfl)) pe_int (fun _ _ => rfl)) (pe_op Z.op_mod (pe_callTy Z.call_int (by rfl) T.n_int (by decide +kernel) (pa_cons (pe_ix (Z.ix (K := K) rfl) (pv 2) (pv 4) (fun _ _ => rfl)) pa_nil)) (pe_op Z.op_add (pe_op Z.op_sub (pe_ix (Z.ix (K := K) rfl) (pe_ix (Z.ix (K := K) rfl) (pv 1) (pv 4) (fun _ _ => rfl)) pe_int (fun _ _ => rfl)) (pe_ix (Z.ix (K := K) rfl) (pe_ix (Z.ix (K := K) rfl) (pv 1) (pv 4) (fun _ _ => rfl)) pe_int (fun _ _ => rfl))) pe_int))) pa_nil)))))
      (pss_one (ps_ret (pv 3)))))), ?_⟩
    try dsimp only [cxOf, Cx.nox, Cx.wish]
    try (show (_ : TS) _ [some _, some _, none, none, none, none] _)
    walk_at "go"
    rename_i J0 S0 p1 H1 hn1 he1 hp1
    refine u_draws (sq_of hp1) ⟨by simp; omega, fun z hz => by rw [List.eq_of_mem_replicate hz]; decide⟩ fun F7 H7 fs hF7 he7 hp7 hfd => ?_
    have hfl := hfd.1
    rw [List.length_replicate] at hfl
    walk_at "go"
    rename_i C9 H9 hC9 he9 hp9 J S
    refine Z.fg S (fun i σ G => ∃ (ws : List Int) (v4 v5 : Option V), σ = [some (.int c), some (.ref l), some (.ref F7), some (.ref C9), v4, v5] ∧ Ex H7 G ∧ At G C9 (.lst (ws.map V.int)) ∧ ws.length = i ∧ ∀ j, j < i → (ps.getD j (0, 0)).1 ≤ ws.getD j 0 ∧ ws.getD j 0 ≤ (ps.getD j (0, 0)).2)
      ⟨[], none, none, rfl, he9, hp9, rfl, fun j hj => by omega⟩ (fun i σ' G _ _ => trivial) ?_ ?_
    · rintro i y σ' G G2 hi ⟨ws, v4, v5, rfl, eG, hG, hwl, hW⟩ e2 rfl
      have hi2 : i < ps.length := by omega
      have hb1 := hB _ (List.getElem_mem hi2)
      have eg : ps[i] = ps.getD i (0, 0) := (getD_get _ _ _ hi2).symm
      rw [eg] at hb1
      unfold Bnd at hb1
      have hpos : 0 < (ps.getD i (0, 0)).2 - (ps.getD i (0, 0)).1 + 1 := by omega
      have hG2 := e2.get hG
      have hPL2 : PL G2 xs ps := ((hPL.ex he1).ex he7).ex (eG.trans e2)
      have hl2 : SqL K G2 l xs := by walk_at "fl"
      have ixp : ∀ {R : VK} {G' : Hp}, Ex G2 G' → (∀ a, At G' a (.tup [.int (ps.getD i (0, 0)).1, .int (ps.getD i (0, 0)).2]) → R (.ref a) G') → rIx K (.ref l) (.int (i : Nat)) G' R := fun e kk => u_ixP (e.l hl2) (hPL2.ex e) (by omega) (by omega) kk
      walk_at "go"
      rename_i pa hpa pb hpb pc hpc G3 hp3 hnl3 ho3 hke3
      rw [Int.toNat_natCast] at *
      refine ⟨ws ++ [_], _, _, rfl, hke3, hp3.l (by rw [List.map_append]; rfl), by rw [List.length_append, hwl]; rfl, fun j hj => ?_⟩
      by_cases e : j = i
      · subst e
        have m0 := Int.emod_nonneg (fs.getD j 0) (show ((ps.getD j (0, 0)).2 - (ps.getD j (0, 0)).1 + 1 : Int) ≠ 0 by omega)
        have m1 := Int.emod_lt_of_pos (fs.getD j 0) (show (0 : Int) < (ps.getD j (0, 0)).2 - (ps.getD j (0, 0)).1 + 1 by omega)
        rw [gsn_eq hwl]
        omega
      · have := hW j (by omega)
        rw [gsn_lt (by omega)]
        exact this
    · rintro σ' G ⟨ws, v4, v5, rfl, eG, hG, hwl, hW⟩
      walk_at "go"
      exact k C9 G ws (he1.back (he7.back hC9)) ((he1.trans he7).trans eG) hG (by omega) fun i hi => hW i (by omega)

theorem wpsum_snoc (ws ps lot : List Int) (t : Int) : wpsum ws ps (lot ++ [t]) = wpsum ws ps lot + ws.getD t.toNat 0 * ps.getD t.toNat 0 := by unfold wpsum; simp
def sp__law_worth (K : PySem.W.Frag) : Sp := fun vs H Q _ => ∃ (wl pl l : Addr) (ws ps : List Int) (a : Int) (lot : List Int), vs = [.ref wl, .int a, .ref pl, .ref l] ∧ SqL K H wl (ws.map V.int) ∧ SqL K H pl (ps.map V.int) ∧ SqA K H l (lot.map V.int) ∧ (∀ t ∈ lot, 0 ≤ t ∧ t < ws.length ∧ t < ps.length) ∧ (∀ x ∈ ps, x.natAbs < 2 ^ 64) ∧
  ∀ p H', Fr H p → Ex H H' → At H' p (.tup [.int (wpsum ws ps lot), .int (a + wsum ws lot)]) → Q (.ref p) H'
theorem ok__law_worth (T : Tx P K mg) : FnOk P w K mg base (L2.CX P w) 1 (He.ga K "_law_worth") (Z.fdOf K (He.ga K "_law_worth")) ["_law_weights", "_law_apart", "_law_prices", "_law_lot"] (sp__law_worth K) := by
  refine T.F__law_worth.ok sc__law_worth (fun vs H Q E h => ?_) (fun cdv A outer s H vs Q E hr h => ?_)
  · obtain ⟨wl, pl, l, ws, ps, a, lot, rfl, _⟩ := h
    rfl
  · obtain ⟨wl, pl, l, ws, ps, a, lot, rfl, hwl, hpl, hl, hlot, hpb, k⟩ := h
    refine ⟨_, PSs.nox (pss_cons (ps_set (i := 4) sc__law_worth.nd rfl (Or.inl rfl) pe_int)
      (pss_cons (ps_set (i := 5) sc__law_worth.nd rfl (Or.inl rfl) (pv 1))
      (pss_cons (ps_for PassesOwn.never rfl (Z.piA (K := K) rfl (pv 3)) (pg_name (i := 6) sc__law_worth.nd rfl (by first | exact Or.inl rfl | exact Or.inr rfl)) (pss_cons (ps_set (i := 4) sc__law_worth.nd rfl (Or.inl rfl) (pe_op Z.op_add (pv 4) (pe_op Z.op_mul (pe_ix (Z.ix (K := K) rfl) (pv 0) (pv 6) (fun _ _ => rfl)) (pe_ix (Z.ix (K := K) rfl) (pv 2) (pv 6) (fun _ _ => rfl)))))
      (pss_one (ps_set (i := 5) sc__law_worth.nd rfl (Or.inl rfl) (pe_op Z.op_add (pv 5) (pe_ix (Z.ix (K := K) rfl) (pv 0) (pv 6) (fun _ _ => rfl)))))))
      (pss_one (ps_ret (pe_tup (pa_cons (pv 4) (pa_cons (pv 5) pa_nil)))))))), ?_⟩
    try dsimp only [cxOf, Cx.nox, Cx.wish]
    try (show (_ : TS) _ [some _, some _, some _, some _, none, none, none] _)
    walk_at "go"
    rename_i J S
    refine Z.fg S (fun i σ G => ∃ (v6 : Option V), σ = [some (.ref wl), some (.int a), some (.ref pl), some (.ref l), some (.int (wpsum ws ps (lot.take i))), some (.int (a + wsum ws (lot.take i))), v6] ∧ Ex H G) ⟨none, by rw [List.take_zero]; show _ = [_, _, _, _, some (V.int 0), some (V.int (a + 0)), _]; rw [Int.add_zero]; try rfl, Ex.refl _⟩ (fun i σ' G _ ⟨_, _, e⟩ => aOk hl e) ?_ ?_
    · rintro i y σ' G G2 hi ⟨v6, rfl, eG⟩ e2 hy
      obtain ⟨hi2, rfl⟩ := get_int hy
      have ht := hlot (lot.getD i 0) (by rw [getD_get _ _ _ hi2]; exact List.getElem_mem hi2)
      have hcm : CM (ws.getD (lot.getD i 0).toNat 0) (ps.getD (lot.getD i 0).toNat 0) := CM.of_right (by rw [getD_get _ _ _ (show (lot.getD i 0).toNat < ps.length by omega)]; exact hpb _ (List.getElem_mem _))
      walk_at "go"
      have e : a + wsum ws (lot.take (i + 1)) = a + wsum ws (lot.take i) + ws.getD (lot.getD i 0).toNat 0 := by rw [take_snoc hi2 0, wsum_snoc, ← Int.add_assoc]
      have e' : wpsum ws ps (lot.take (i + 1)) = wpsum ws ps (lot.take i) + ws.getD (lot.getD i 0).toNat 0 * ps.getD (lot.getD i 0).toNat 0 := by rw [take_snoc hi2 0, wpsum_snoc]
      exact ⟨_, by rw [e, e']; try rfl, by walk_at "ex"⟩
    rintro σ' G ⟨v6, rfl, eG⟩
    rw [List.length_map, List.take_length]
    walk_at "go"
    rename_i p2 H2 hn2 he2 hp2
    exact k p2 H2 (eG.back hn2) (eG.trans he2) hp2

def sp__law_below (K : PySem.W.Frag) : Sp := fun vs H Q _ => ∃ (a b : Addr) (w x y z : Int), vs = [.ref a, .ref b] ∧ SqT K H a [.int w, .int x] ∧ SqT K H b [.int y, .int z] ∧ w.natAbs < 2 ^ 300 ∧ x.natAbs < 2 ^ 300 ∧ y.natAbs < 2 ^ 300 ∧ z.natAbs < 2 ^ 300 ∧ Q (.bl (decide (w * z < y * x))) H
theorem ok__law_below (T : Tx P K mg) : FnOk P w K mg base (L2.CX P w) 1 (He.ga K "_law_below") (Z.fdOf K (He.ga K "_law_below")) ["_law_a", "_law_b"] (sp__law_below K) := by
  refine T.F__law_below.ok sc__law_below (fun vs H Q E h => ?_) (fun cdv A outer s H vs Q E hr h => ?_)
  · obtain ⟨a, b, w, x, y, z, rfl, _⟩ := h
    rfl
  · obtain ⟨a, b, w, x, y, z, rfl, ha, hb, h1, h2, h3, h4, k⟩ := h
    refine ⟨_, PSs.nox (pss_one (ps_ret (pe_cmpR Z.op_lt (pe_op Z.op_mul (pe_ix (Z.ix (K := K) rfl) (pv 0) pe_int (fun _ _ => rfl)) (pe_ix (Z.ix (K := K) rfl) (pv 1) pe_int (fun _ _ => rfl))) (pe_op Z.op_mul (pe_ix (Z.ix (K := K) rfl) (pv 1) pe_int (fun _ _ => rfl)) (pe_ix (Z.ix (K := K) rfl) (pv 0) pe_int (fun _ _ => rfl))) (nomark _)))), ?_⟩
    try dsimp only [cxOf, Cx.nox, Cx.wish]
    try (show (_ : TS) _ [some _, some _] _)
    walk_at "go"
    exact k

def sp__law_no_lot (K : PySem.W.Frag) : Sp := fun vs H Q _ => ∃ (l : Addr) (lot : List Int) (n f : Int), vs = [.ref l, .int n, .int f] ∧ SqT K H l (lot.map V.int) ∧ IsLot n lot ∧ lot.length ≤ 100 ∧
  ∀ p H' ms, Ex H H' → SqT K H' p (ms.map V.int) → ¬ IsLot n ms → ms.length ≤ 200 → Q (.ref p) H'
theorem ok__law_no_lot (T : Tx P K mg) : FnOk P w K mg base (L2.CX P w) 1 (He.ga K "_law_no_lot") (Z.fdOf K (He.ga K "_law_no_lot")) ["_law_lot", "_law_many", "_law_form"] (sp__law_no_lot K) := by
  refine T.F__law_no_lot.ok sc__law_no_lot (fun vs H Q E h => ?_) (fun cdv A outer s H vs Q E hr h => ?_)
  · obtain ⟨l, lot, n, f, rfl, _⟩ := h
    rfl
  · obtain ⟨l, lot, n, f, rfl, hl, hlot, hlen, k⟩ := h
    have h1 : ¬ IsLot n ([-1] ++ lot) := fun z => by have := z.2 (-1) (by simp); omega
    have h4 : ¬ IsLot n (lot ++ [n]) := fun z => by have := z.2 n (by simp); omega
    refine ⟨_, PSs.nox (pss_cons (ps_if (pt_cmpR (Z.op_eq (K := K) rfl hr.units) (pv 2) pe_int (nomark _)) (pss_one (ps_ret (pe_op (Z.catA (K := K) rfl) (pe_tup (pa_cons (pe_un Z.un_neg pe_int) pa_nil)) (pv 0)))) pss_nil)
      (pss_cons (ps_if (PW.pt (pw_and (pt_cmpR (Z.op_eq (K := K) rfl hr.units) (pv 2) pe_int (nomark _)) (pw_and1 (pt_cmpR Z.op_gt (pe_callB (Z.call_len (K := K) rfl) (by rfl) T.n_len (by decide +kernel) (pa_cons (pv 0) pa_nil)) pe_int (nomark _))))) (pss_one (ps_ret (pe_op (Z.catA (K := K) rfl) (pv 0) (pe_slice (Z.slA (K := K) rfl) (pv 0) (po_some (pe_un Z.un_neg pe_int)) po_none)))) pss_nil)
      (pss_cons (ps_if (PW.pt (pw_and (pt_cmpR (Z.op_eq (K := K) rfl hr.units) (pv 2) pe_int (nomark _)) (pw_and1 (pt_cmpR Z.op_gt (pe_callB (Z.call_len (K := K) rfl) (by rfl) T.n_len (by decide +kernel) (pa_cons (pv 0) pa_nil)) pe_int (nomark _))))) (pss_one (ps_ret (Z.pe_revT (K := K) rfl (pv 0)))) pss_nil)
      (pss_one (ps_ret (pe_op (Z.catA (K := K) rfl) (pv 0) (pe_tup (pa_cons (pv 1) pa_nil)))))))), ?_⟩
    try dsimp only [cxOf, Cx.nox, Cx.wish]
    try (show (_ : TS) _ [some _, some _, some _] _)
    walk_at "go"
    refine Z.w_dec (fun h => ?_) (fun h => ?_)
    · walk_at "go"
      exact k _ _ ([-1] ++ lot) (by walk_at "ex") (by assumption) h1 (by rw [List.length_append]; simp; omega)
    have h3 : 1 < lot.length → ¬ IsLot n lot.reverse := fun hl z => by
      have z1 := List.pairwise_iff_getElem.mp (List.pairwise_reverse.mp z.1) 0 1 (by omega) hl (by omega)
      have z2 := List.pairwise_iff_getElem.mp hlot.1 0 1 (by omega) hl (by omega)
      omega
    have h2 : 0 < lot.length → ¬ IsLot n (lot ++ lot.drop (lot.length - 1)) := fun hl z => by
      have e : lot.drop (lot.length - 1) = [lot[lot.length - 1]] := by
        rw [List.drop_eq_getElem_cons (by omega), show lot.length - 1 + 1 = lot.length by omega, List.drop_length]
      rw [e] at z
      have := (List.pairwise_append.mp z.1).2.2 _ (List.getElem_mem (show lot.length - 1 < lot.length by omega)) _ (List.mem_singleton.mpr rfl)
      omega
    walk_at "go"
    refine Z.w_dec (fun hf2 => ?_) (fun hf2 => ?_)
    · walk_at "go"
      refine Z.w_dec (fun hg => ?_) (fun hg => ?_)
      · walk_at "go"
        exact k _ _ _ (by walk_at "ex") (by assumption) (h2 (by omega)) (by rw [List.length_append, List.length_drop]; omega)
      · walk_at "go"
        refine Z.w_decF (by omega) ?_
        walk_at "go"
        exact k _ _ (lot ++ [n]) (by walk_at "ex") (by assumption) h4 (by rw [List.length_append]; simp; omega)
    · walk_at "go"
      refine Z.w_dec (fun hf3 => ?_) (fun hf3 => ?_)
      · walk_at "go"
        refine Z.w_dec (fun hg => ?_) (fun hg => ?_)
        · walk_at "go"
          exact k _ _ lot.reverse (by walk_at "ex") (st_of (by assumption)) (h3 (by omega)) (by rw [List.length_reverse]; omega)
        · walk_at "go"
          exact k _ _ (lot ++ [n]) (by walk_at "ex") (by assumption) h4 (by rw [List.length_append]; simp; omega)
      · walk_at "go"
        exact k _ _ (lot ++ [n]) (by walk_at "ex") (by assumption) h4 (by rw [List.length_append]; simp; omega)

theorem ok_TooMany___init__ (T : Tx P K mg) : FnOk P w K mg base (L2.CX P w) 1 (He.ma K (He.ga K "TooMany") "__init__") (Z.fdOf K (He.ma K (He.ga K "TooMany") "__init__")) ["self", "many", "most"] (Z.spX (He.ga K "TooMany") ["many", "most"]) := by
  refine Z.FunS.ok (x0 := "self") T.F_TooMany___init__ sc_TooMany___init__ (by decide +kernel) rfl rfl rfl (by decide +kernel) (by decide +kernel) T.p_top T.n_super T.c_TooMany (fun vs H Q E h => ?_) (fun cc cda A outer s H vs Q E hr h S => ?_)
  · obtain ⟨a, ws, rfl, hl, _⟩ := h
    simpa using hl
  · obtain ⟨a, ws, rfl, hl, ha, k⟩ := h
    obtain ⟨v1, v2, rfl⟩ : ∃ v1 v2, ws = [v1, v2] := by
      match ws, hl with
      | [v1, v2], _ => exact ⟨v1, v2, rfl⟩
    refine ⟨_, _, Z.ps_supE (Z.pe_supX S T.mro_TooMany_TooMany T.third T.si_TooMany.1 T.si_TooMany.2.1 (pa_cons pe_str pa_nil)), (pss_cons (ps_ost (pv 0) (pv 1)) (pss_one (ps_ost (pv 0) (pv 2)))), ?_⟩
    refine ⟨a, rfl, T.oe_TooMany, ha, by decide, ha, ?_⟩
    refine ⟨_, rfl, _, rfl, a, He.ga K "TooMany", rfl, T.oe_TooMany, T.nf_TooMany_many, .inl ⟨ha, fun dx hd hne => ?_⟩⟩
    refine ⟨_, rfl, _, rfl, a, He.ga K "TooMany", rfl, T.oe_TooMany, T.nf_TooMany_most, .inr ⟨dx, _, upd_same, by rw [upd_ne hne, upd_same], by simp, ?_⟩⟩
    rw [Z.upd_swap hne]
    exact k dx hd hne

def vrd (n : Nat) (F S : List Int) : List Nat := (List.range n).filter fun t : Nat => decide ((t : Int) ∈ F) || decide ((t : Int) ∈ S)
theorem w_shlI {H : Hp} {Q : VK} {j : Int} (h0 : 0 ≤ j) (h1 : j ≤ 1000) (q : Q (.int ((2 ^ j.toNat : Nat) : Int)) H) : rShl (.int 1) (.int j) H Q := by
  obtain ⟨k, rfl⟩ := Int.eq_ofNat_of_zero_le h0
  refine ⟨k, rfl, rfl, by omega, ?_⟩
  rw [Int.toNat_natCast] at q
  have e : ((2 ^ k : Nat) : Int) = (2 : Int) ^ k := by push_cast; rfl
  rw [e] at q
  exact q
/-- the errors of the question -/
structure NAsk (K : PySem.W.Frag) (n : Nat) (F S ps : List Int) (E : XK) (H : Hp) : Prop where
  pr : PErr K n ps E H
  f : PricesOk n ps → ¬ IsLot n F → ∀ H', Ex H H' → E (.ref (He.ga K "BadLot")) none H'
  s : PricesOk n ps → IsLot n F → ¬ IsLot n S → ∀ H', Ex H H' → E (.ref (He.ga K "BadLot")) none H'
  m : PricesOk n ps → IsLot n F → IsLot n S → 8 < (vrd n F S).length → ∀ d H', Fr H d → Ex H H' → At H' d (.xd [("most", .int 8), ("many", .int (vrd n F S).length)]) → E (.ref (He.ga K "TooMany")) (some d) H'
theorem NAsk.ok {K : PySem.W.Frag} {n : Nat} {F S ps : List Int} {E : XK} {H : Hp} (h : PricesOk n ps) (hF : IsLot n F) (hS : IsLot n S) (h8 : (vrd n F S).length ≤ 8) : NAsk K n F S ps E H := ⟨PErr.ok h, fun _ z => absurd hF z, fun _ _ z => absurd hS z, fun _ _ _ z => by omega⟩
def sp_Unsure_never_less (K : PySem.W.Frag) : Sp := fun vs H Q E => ∃ (x f s pl : Addr) (ls hs : List Int) (a0 a1 : Int) (F S ps : List Int), vs = [.ref x, .ref f, .ref s, .ref pl] ∧ UR K H x ls hs a0 a1 ∧ (∀ w ∈ hs, w < 2 ^ 64) ∧ a1 < 2 ^ 64 ∧ SqT K H f (F.map V.int) ∧ SqT K H s (S.map V.int) ∧ SqL K H pl (ps.map V.int) ∧ (∀ p ∈ ps, p.natAbs < 2 ^ 64) ∧ NAsk K ls.length F S ps E H ∧
  (PricesOk ls.length ps → IsLot ls.length F → IsLot ls.length S → (vrd ls.length F S).length ≤ 8 → (∀ H', Ex H H' → (∀ ws a, Box ls hs ws → a0 ≤ a → a ≤ a1 → 0 ≤ fcr ws ps F S a) → Q .non H') ∧
    ∀ p wl ws a H', Fr H p → Fr H wl → Ex H H' → At H' p (.tup [.ref wl, .int a]) → At H' wl (.lst (ws.map V.int)) → ws.length = ls.length → (∀ t, t < ls.length → ws.getD t 0 = ls.getD t 0 ∨ ws.getD t 0 = hs.getD t 0) → (a = a0 ∨ a = a1) → fcr ws ps F S a < 0 → Q (.ref p) H')
theorem ok_Unsure_never_less (T : Tx P K mg) : FnOk P w K mg base (L2.CX P w) 4 (He.ma K (He.ga K "Unsure") "never_less") (Z.fdOf K (He.ma K (He.ga K "Unsure") "never_less")) ["self", "first", "second", "prices"] (sp_Unsure_never_less K) := by
  refine T.F_Unsure_never_less.ok sc_Unsure_never_less (fun vs H Q E h => ?_) (fun cdv A outer s H vs Q E hr h => ?_)
  · obtain ⟨x, f, s, pl, ls, hs, a0, a1, F, S, ps, rfl, _⟩ := h
    rfl
  · obtain ⟨x, f, s0, pl, ls, hs, a0, a1, F, S, ps, rfl, hx, hhb, hab, hf, hs0, hp, hpb, hE, k⟩ := h
    obtain ⟨⟨dx, t1, t2, t3, h1, h2, h3, h4⟩, g⟩ := id hx
    have g1 := g.apos
    have g2 := g.ale
    have hlen := g.len
    have hsame := g.same
    have fx0 := T.o_Unsure.cl
    have fx1 := T.na_Unsure_aside
    have fx2 := T.na_Unsure_highs
    have fx3 := T.na_Unsure_lows
    have fx4 := T.k_Unsure_MOST_VARIED
    have fx5 := T.na_Unsure_many
    refine ⟨_, (pss_cons (ps_expr (Z.pe_callZ (ok_check_prices T) (hr.mono (by decide)) (by rfl) T.g_check_prices T.F_check_prices.kp T.b_check_prices .nil (fun σ => passAt (takes_of rfl rfl rfl rfl) σ) (pa_cons (pv 3) (pa_cons (Z.fld (K := K) rfl (pv 0) rfl) pa_nil))))
      (pss_cons (ps_expr (Z.pe_callZ (ok_check_lot T) (hr.mono (by decide)) (by rfl) T.g_check_lot T.F_check_lot.kp T.b_check_lot .nil (fun σ => passAt (takes_of rfl rfl rfl rfl) σ) (pa_cons (pv 1) (pa_cons (Z.fld (K := K) rfl (pv 0) rfl) pa_nil))))
      (pss_cons (ps_expr (Z.pe_callZ (ok_check_lot T) (hr.mono (by decide)) (by rfl) T.g_check_lot T.F_check_lot.kp T.b_check_lot .nil (fun σ => passAt (takes_of rfl rfl rfl rfl) σ) (pa_cons (pv 2) (pa_cons (Z.fld (K := K) rfl (pv 0) rfl) pa_nil))))
      (pss_cons (ps_setLc (i := 4) (own := [("thing", 8)]) rfl sc_Unsure_never_less.nd rfl rfl (sw_true rfl rfl rfl (by decide +kernel)) (pi_range1 (by rfl) T.n_range (pa_cons (Z.fld (K := K) rfl (pv 0) rfl) pa_nil)) (blkOk_by (N := ["self", "first", "second", "prices", "varied", "corner", "weights", "place", "thing", "aside", "one", "two"]) (sc := defScope s_Unsure_never_less) (by decide +kernel)) (fun _ _ _ _ _ => (pg_name (i := 8) sc_Unsure_never_less.nd rfl (by first | exact Or.inl rfl | exact Or.inr rfl))) (fun _ _ _ _ _ => (pts_one (PW.pt (pw_or (pt_cmpR (Z.op_in (K := K) rfl) (pv 8) (pv 1) (by rfl)) (pw_or1 (pt_cmpR (Z.op_in (K := K) rfl) (pv 8) (pv 2) (by rfl))))))) (fun _ _ _ _ _ => (pv 8)))
      (pss_cons (ps_if (pt_cmpR Z.op_gt (pe_callB (Z.call_len (K := K) rfl) (by rfl) T.n_len (by decide +kernel) (pa_cons (pv 4) pa_nil)) (Z.con (K := K) rfl (pv 0) rfl) (nomark _)) (pss_one (Z.ps_raiseZ rfl (takes_of rfl rfl rfl rfl) (pmk_oex T.oe_TooMany T.si_TooMany.2.2.1 T.si_TooMany.2.2.2 (ok_TooMany___init__ T) (hr.mono (by decide)) T.b_TooMany___init__ .nil passL (by rfl) T.g_TooMany (pa_cons (pe_callB (Z.call_len (K := K) rfl) (by rfl) T.n_len (by decide +kernel) (pa_cons (pv 4) pa_nil)) (pa_cons (Z.con (K := K) rfl (pv 0) rfl) pa_nil))))) pss_nil)
      (pss_cons (ps_for (passes_of rfl) rfl (pi_range1 (by rfl) T.n_range (pa_cons (pe_op Z.op_shl pe_int (pe_op Z.op_add (pe_callB (Z.call_len (K := K) rfl) (by rfl) T.n_len (by decide +kernel) (pa_cons (pv 4) pa_nil)) pe_int)) pa_nil)) (pg_name (i := 5) sc_Unsure_never_less.nd rfl (by first | exact Or.inl rfl | exact Or.inr rfl)) (pss_cons (ps_set (i := 6) sc_Unsure_never_less.nd rfl (Or.inl rfl) (pe_callTy (Z.call_list (K := K) rfl) (by rfl) T.n_list (by decide +kernel) (pa_cons (Z.fld (K := K) rfl (pv 0) rfl) pa_nil)))
      (pss_cons (ps_for (passes_of rfl) rfl (pi_enum (by rfl) T.n_enumerate (pa_cons (pv 4) pa_nil)) (pg_tup (by rfl) (pgs_cons (pg_name (i := 7) sc_Unsure_never_less.nd rfl (by first | exact Or.inl rfl | exact Or.inr rfl)) (pgs_cons (pg_name (i := 8) sc_Unsure_never_less.nd rfl (by first | exact Or.inl rfl | exact Or.inr rfl)) pgs_nil))) (pss_one (ps_if (pt_cmpR (Z.op_eq (K := K) rfl hr.units) (pe_op Z.op_and1 (pe_op Z.op_shr (pv 5) (pv 7)) pe_int) pe_int (nomark _)) (pss_one (ps_asg (pe_ix (Z.ix (K := K) rfl) (Z.fld (K := K) rfl (pv 0) rfl) (pv 8) (fun _ _ => rfl)) (pg_sub (pv 6) (pv 8) set_list))) pss_nil)))
      (pss_cons (ps_set (i := 9) sc_Unsure_never_less.nd rfl (Or.inl rfl) (pe_ix (Z.ix (K := K) rfl) (Z.fld (K := K) rfl (pv 0) rfl) (pe_op Z.op_shr (pv 5) (pe_callB (Z.call_len (K := K) rfl) (by rfl) T.n_len (by decide +kernel) (pa_cons (pv 4) pa_nil))) (fun _ _ => rfl)))
      (pss_cons (ps_set (i := 10) sc_Unsure_never_less.nd rfl (Or.inl rfl) (Z.pe_callZ (ok_brought T) (hr.mono (by decide)) (by rfl) T.g_brought T.F_brought.kp T.b_brought .nil (fun σ => passAt (takes_of rfl rfl rfl rfl) σ) (pa_cons (pv 1) (pa_cons (pv 3) (pa_cons (pv 6) (pa_cons (pv 9) pa_nil))))))
      (pss_cons (ps_set (i := 11) sc_Unsure_never_less.nd rfl (Or.inl rfl) (Z.pe_callZ (ok_brought T) (hr.mono (by decide)) (by rfl) T.g_brought T.F_brought.kp T.b_brought .nil (fun σ => passAt (takes_of rfl rfl rfl rfl) σ) (pa_cons (pv 2) (pa_cons (pv 3) (pa_cons (pv 6) (pa_cons (pv 9) pa_nil))))))
      (pss_one (ps_if (pt_cmpR Z.op_lt (pe_op Z.op_mul (pe_ix (Z.ix (K := K) rfl) (pv 10) pe_int (fun _ _ => rfl)) (pe_ix (Z.ix (K := K) rfl) (pv 11) pe_int (fun _ _ => rfl))) (pe_op Z.op_mul (pe_ix (Z.ix (K := K) rfl) (pv 11) pe_int (fun _ _ => rfl)) (pe_ix (Z.ix (K := K) rfl) (pv 10) pe_int (fun _ _ => rfl))) (nomark _)) (pss_one (ps_ret (pe_tup (pa_cons (pv 6) (pa_cons (pv 9) pa_nil))))) pss_nil))))))))
      (pss_one (ps_ret pe_non)))))))), ?_⟩
    try dsimp only [cxOf, Cx.nox, Cx.wish]
    try (show (_ : TS) _ [some _, some _, some _, some _, none, none, none, none, none, none, none, none] _)
    walk_at "go"
    refine ⟨pl, ps, _, rfl, hp, hE.pr, fun hok H1 e1 => ?_⟩
    have hok1 := hok.1
    walk_at "go"
    refine ⟨f, F, _, rfl, e1.t hf, fun hno H2 e2 => hE.f hok hno H2 (e1.trans e2), fun hF H2 e2 => ?_⟩
    walk_at "go"
    refine ⟨s0, S, _, rfl, e2.t (e1.t hs0), fun hno H3 e3 => hE.s hok hF hno H3 ((e1.trans e2).trans e3), fun hS H3 e3 => ?_⟩
    walk_at "go"
    rename_i J SS
    have hf3 : SqT K H3 f (F.map V.int) := by walk_at "ft"
    have hs3 : SqT K H3 s0 (S.map V.int) := by walk_at "ft"
    refine Z.cgP SS (fun t => decide ((t : Int) ∈ F) || decide ((t : Int) ∈ S)) (fun i => V.int (i : Nat)) (fun H' e => trivial) (by show _ ≤ 16777216; omega) (fun Dl i y G hi ec cd hz hy => ?_) (fun V4 H4 hV4 he4 hp4 => ?_)
    · subst hy
      walk_at "go"
      refine Z.w_dec (fun h => ?_) (fun h => ?_)
      · rw [Z.fr_T (by simp [h])]
        walk_at "go"
      · walk_at "go"
        refine Z.w_dec (fun h2 => ?_) (fun h2 => ?_)
        · rw [Z.fr_T (by simp [h2])]
          walk_at "go"
        · rw [Z.fr_F (by simp [h, h2])]
          exact cd
    have hp4' : At H4 V4 (.lst (((vrd ls.length F S).map fun n : Nat => (n : Int)).map V.int)) := hp4.l (by rw [List.map_map, Int.toNat_natCast]; rfl)
    clear hp4
    have e4 : Ex H H4 := ((e1.trans e2).trans e3).trans he4
    have hvl : (vrd ls.length F S).length ≤ 24 := Nat.le_trans (List.length_filter_le _ _) (by rw [List.length_range]; exact hlen)
    have hvm : ∀ v ∈ vrd ls.length F S, v < ls.length := fun v hv => List.mem_range.mp (List.mem_filter.mp hv).1
    have hvn : (vrd ls.length F S).Nodup := List.nodup_range.filter _
    have hvc : ∀ t : Int, t ∈ F ∨ t ∈ S → t.toNat ∈ vrd ls.length F S := fun t ht => by
      have hb : 0 ≤ t ∧ t < ls.length := by rcases ht with h | h; exact hF.2 t h; exact hS.2 t h
      refine List.mem_filter.mpr ⟨List.mem_range.mpr (by omega), ?_⟩
      rw [Int.toNat_of_nonneg hb.1]
      simpa using ht
    have hE8 := hE.m hok hF hS
    have k8 := k hok hF hS
    clear hE k
    generalize vrd ls.length F S = vs at *
    walk_at "go"
    refine Z.w_dec (fun h8 => ?_) (fun h8 => ?_)
    · rw [List.length_map] at h8
      walk_at "go"
      rename_i d H5 hn5 he5 hp5
      rw [List.length_map] at hp5
      exact hE8 (by omega) d H5 (e4.back hn5) (e4.trans he5) hp5
    rw [List.length_map] at h8
    have hv8 : vs.length ≤ 8 := by omega
    obtain ⟨kN, kT⟩ := k8 hv8
    clear hE8 k8
    have hp2 : 2 ^ (vs.length + 1) ≤ 512 := Nat.le_trans (Nat.pow_le_pow_right (by decide) (show vs.length + 1 ≤ 9 by omega)) (by decide)
    have hin : ∀ c, (cW ls hs vs c vs.length).length = ls.length := fun c => cW_len _ _ _ _ _
    have hcv : ∀ c t, t < ls.length → (cW ls hs vs c vs.length).getD t 0 = ls.getD t 0 ∨ (cW ls hs vs c vs.length).getD t 0 = hs.getD t 0 := fun c t ht => by
      obtain ⟨q1, q2⟩ := cW_get (c := c) (hs := hs) hvm hvn vs.length (Nat.le_refl _)
      by_cases hm : t ∈ vs
      · obtain ⟨j, hj, rfl⟩ := List.mem_iff_getElem.mp hm
        have := q1 j hj
        rw [getD_get _ _ _ hj] at this
        rw [this]
        split
        · exact .inr rfl
        · exact .inl rfl
      · exact .inl (q2 t (by rw [List.take_length]; exact hm))
    have hcb : ∀ c, Box ls hs (cW ls hs vs c vs.length) := fun c => ⟨hin c, fun t ht => by
      have := g.low t ht
      rcases hcv c t ht with h | h <;> rw [h] <;> omega⟩
    walk_at "go"
    simp only [List.length_map]
    refine w_shlI (by omega) (by omega) ?_
    rw [show ((vs.length : Int) + 1).toNat = vs.length + 1 by omega]
    generalize hN : 2 ^ (vs.length + 1) = N at hp2 ⊢
    walk_at "go"
    rename_i J2 S2
    have x2 := hx.ex e4
    refine Z.fg S2 (fun c σ G => ∃ (v5 v6 v7 v8 v9 v10 v11 : Option V), σ = [some (.ref x), some (.ref f), some (.ref s0), some (.ref pl), some (.ref V4), v5, v6, v7, v8, v9, v10, v11] ∧ Ex H4 G ∧ ∀ c', c' < c → 0 ≤ fcr (cW ls hs vs c' vs.length) ps F S (if c' / 2 ^ vs.length = 0 then a0 else a1))
      ⟨_, _, _, _, _, _, _, rfl, Ex.refl _, fun c' h => by omega⟩ (fun c σ' G _ _ => trivial) ?_ ?_
    · rintro c y σ' G G2 hc ⟨v5, v6, v7, v8, v9, v10, v11, rfl, eG, hall⟩ e5 rfl
      rw [Int.toNat_natCast] at hc
      walk_at "go"
      rename_i W6 H6 hW6 he6 hp6 J3 S3
      refine Z.fg S3 (fun i σ G3 => ∃ (v7 v8 : Option V), σ = [some (.ref x), some (.ref f), some (.ref s0), some (.ref pl), some (.ref V4), some (.int (c : Nat)), some (.ref W6), v7, v8, v9, v10, v11] ∧ Ex G2 G3 ∧ At G3 W6 (.lst ((cW ls hs vs c i).map V.int)))
        ⟨_, _, rfl, he6, hp6⟩ (fun i σ' G3 _ ⟨_, _, _, e, _⟩ => e.l (by walk_at "fl")) ?_ ?_
      · rintro i y σ' G3 G4 hi ⟨v7, v8, rfl, eG3, hG3⟩ e4' ⟨T5, z, rfl, hT5, hz⟩
        obtain ⟨hi2, rfl⟩ := get_nat hz
        have hvi := hvm (vs.getD i 0) (by rw [getD_get _ _ _ hi2]; exact List.getElem_mem _)
        have hcl : (cW ls hs vs c i).length = ls.length := cW_len _ _ _ _ _
        have hG4 := e4'.get hG3
        have eG24 : Ex G2 G4 := eG3.trans e4'
        walk_at "go"
        refine Z.w_dec (fun h => ?_) (fun h => ?_)
        · have hb : c / 2 ^ i % 2 = 1 := by omega
          walk_at "go"
          rename_i G5 hp5 hnl5 ho5 hke5
          refine ⟨_, _, rfl, hke5, hp5.l ?_⟩
          rw [Int.toNat_natCast]
          conv => rhs; unfold cW
          rw [if_pos hb]
        · have hb : ¬ c / 2 ^ i % 2 = 1 := by omega
          walk_at "go"
          refine ⟨_, _, rfl, eG24, hG4.l ?_⟩
          conv => rhs; unfold cW
          rw [if_neg hb]
      · rintro σ' G3 ⟨v7, v8, rfl, eG3, hG3⟩
        rw [List.length_map, List.length_map] at hG3
        have hw1 := box_pos g (hcb c)
        have hw2 := box_lt (hcb c) hsame hhb
        have hFl := hF.len
        have hSl := hS.len
        have hcl := hin c
        have hcq := hcv c
        have hdiv : c / 2 ^ vs.length < 2 := Nat.div_lt_of_lt_mul (by rw [← Nat.pow_succ, hN]; exact hc)
        have hd01 : c / 2 ^ vs.length = 0 ∨ c / 2 ^ vs.length = 1 := by
          generalize c / 2 ^ vs.length = d at hdiv ⊢
          omega
        have ha : (if c / 2 ^ vs.length = 0 then a0 else a1) = a0 ∨ (if c / 2 ^ vs.length = 0 then a0 else a1) = a1 := by split <;> simp
        have hac : ∀ c', c' < c + 1 → c' < c ∨ c' = c := fun c' h => by omega
        generalize hga : (if c / 2 ^ vs.length = 0 then a0 else a1) = aa at *
        have haa : 1 ≤ aa ∧ aa < 2 ^ 64 := by rcases ha with rfl | rfl <;> omega
        have hgd : ([a0, a1] : List Int).getD (c / 2 ^ vs.length) 0 = aa := by rw [← hga]; rcases hd01 with h | h <;> rw [h] <;> rfl
        generalize hgw : cW ls hs vs c vs.length = ws at *
        have hwn : ∀ w ∈ ws, w.natAbs < 2 ^ 64 := fun w hw => by have := hw1 w hw; have := hw2 w hw; omega
        have bt : ∀ lot : List Int, lot.length ≤ 24 → (wpsum ws ps lot).natAbs < 2 ^ 199 ∧ (aa + wsum ws lot).natAbs < 2 ^ 69 := fun lot hl => by
          have q1 := wpsum_btU hwn hpb lot
          have q2 := tot_bt (lot := lot) hw1 haa.1 hw2 haa.2 hl
          have : lot.length * 2 ^ 128 ≤ 24 * 2 ^ 128 := Nat.mul_le_mul_right _ hl
          exact ⟨by omega, q2.2⟩
        have bF1 := (bt F (by omega)).1
        have bF2 := (bt F (by omega)).2
        have bS1 := (bt S (by omega)).1
        have bS2 := (bt S (by omega)).2
        walk_at "go"
        try simp only [List.length_map]
        rw [hgd]
        refine ⟨W6, pl, f, ws, ps, aa, F, rfl, sq_of hG3, by walk_at "fl", by walk_at "ft", fun t ht => by have := hF.2 t ht; omega, hpb, by omega, fun p7 H7 hn7 he7 hp7 => ?_⟩
        walk_at "go"
        refine ⟨W6, pl, s0, ws, ps, aa, S, rfl, by walk_at "fl", by walk_at "fl", by walk_at "ft", fun t ht => by have := hS.2 t ht; omega, hpb, by omega, fun p8 H8 hn8 he8 hp8 => ?_⟩
        walk_at "go"
        refine Z.w_dec (fun h => ?_) (fun h => ?_)
        · walk_at "go"
          rename_i p9 H9 hn9 he9 hp9
          refine kT p9 W6 ws aa H9 ?_ ?_ (by walk_at "ex") hp9 (by walk_at "fx") hcl hcq ha (by unfold fcr; omega)
          · exact e4.back (eG.back (e5.back (eG3.back (he7.back (he8.back hn9)))))
          · exact e4.back (eG.back (e5.back hW6))
        · walk_at "go"
          refine ⟨_, _, _, _, _, _, _, rfl, by walk_at "ex", fun c' hc' => ?_⟩
          rcases hac c' hc' with hl | rfl
          · exact hall c' hl
          · rw [hga, hgw]
            unfold fcr
            omega
    · rintro σ' G ⟨v5, v6, v7, v8, v9, v10, v11, rfl, eG, hall⟩
      rw [Int.toNat_natCast] at hall
      walk_at "go"
      refine kN G (e4.trans eG) fun ws a hbx hl hh => ?_
      have corner : ∀ us, us.length = ls.length → (∀ v ∈ vs, us.getD v 0 = ls.getD v 0 ∨ us.getD v 0 = hs.getD v 0) → ∀ b, b = a0 ∨ b = a1 → 0 ≤ fcr us ps F S b := fun us hul huv b hb => by
        obtain ⟨c, hc1, hc2⟩ := bits_ex (fun i => if i < vs.length then decide (us.getD (vs.getD i 0) 0 = hs.getD (vs.getD i 0) 0) else decide (b = a1)) (vs.length + 1)
        have h0 := hall c (hN ▸ hc1)
        have ea : (if c / 2 ^ vs.length = 0 then a0 else a1) = b := by
          have h1 := hc2 vs.length (by omega)
          rw [if_neg (Nat.lt_irrefl _)] at h1
          have hdiv : c / 2 ^ vs.length < 2 := Nat.div_lt_of_lt_mul (by rw [← Nat.pow_succ]; exact hc1)
          generalize c / 2 ^ vs.length = d at hdiv h1 ⊢
          by_cases e : b = a1
          · have := h1.mpr (by simpa using e)
            rw [if_neg (by omega), e]
          · have h2 : ¬ d % 2 = 1 := fun z => e (by simpa using h1.mp z)
            rw [if_pos (by omega)]
            rcases hb with h | h
            · exact h.symm
            · exact absurd h e
        rw [ea] at h0
        obtain ⟨q1, q2⟩ := cW_get (c := c) (hs := hs) hvm hvn vs.length (Nat.le_refl _)
        rw [fcr_congr (us := us)] at h0
        · exact h0
        · intro t ht
          obtain ⟨j, hj, ej⟩ := List.mem_iff_getElem.mp (hvc t ht)
          have q3 := q1 j hj
          have h1 := hc2 j (by omega)
          rw [if_pos hj] at h1
          rw [getD_get _ _ _ hj, ej] at q3 h1
          rw [q3]
          by_cases e : us.getD t.toNat 0 = hs.getD t.toNat 0
          · rw [if_pos (h1.mpr (by simpa using e)), e]
          · rw [if_neg (fun z => e (by simpa using h1.mp z))]
            rcases huv t.toNat (hvc t ht) with h | h
            · exact h.symm
            · exact absurd h e
      have low : ∀ t, t < ls.length → ls.getD t 0 ≤ hs.getD t 0 := fun t ht => (g.low t ht).2
      have side : ∀ b, b = a0 ∨ b = a1 → 0 ≤ fcr ws ps F S b := fun b hb => fcr_box hsame low hF hS hvm (fun us h1 h2 => corner us h1 h2 b hb) vs (fun u hu => hu) ws hbx.1 fun v hv => ⟨fun _ => hbx.2 v (hvm v hv), fun z => absurd hv z⟩
      by_cases e : a0 = a1
      · have : a = a0 := by omega
        rw [this]
        exact side a0 (.inl rfl)
      · refine nn_of_mul (show 0 < a1 - a0 by omega) ?_
        rw [fcr_a a a0 a1]
        have h1 := Int.mul_nonneg (side a0 (.inl rfl)) (show 0 ≤ a1 - a by omega)
        have h2 := Int.mul_nonneg (side a1 (.inr rfl)) (show 0 ≤ a - a0 by omega)
        omega

/-- what is told of a refused question -/
inductive NRes (n : Nat) (F S ps : List Int) : List V → Prop
  | pr {v : V} {i : Int} (h : PRes n ps v i) : NRes n F S ps [.str "number", .str "prices", v]
  | f (h : PricesOk n ps) (hl : ¬ IsLot n F) : NRes n F S ps [.str "lot"]
  | s (h : PricesOk n ps) (hl : IsLot n F) (hs : ¬ IsLot n S) : NRes n F S ps [.str "lot"]
  | m (h : PricesOk n ps) (hl : IsLot n F) (hs : IsLot n S) (h8 : 8 < (vrd n F S).length) : NRes n F S ps [.str "many", .int (vrd n F S).length, .int 8]
theorem NRes.no {n : Nat} {F S ps : List Int} {xs : List V} (h : NRes n F S ps xs) (h1 : PricesOk n ps) (h2 : IsLot n F) (h3 : IsLot n S) (h4 : (vrd n F S).length ≤ 8) : False := by
  cases h with
  | pr h => exact h.no h1
  | f _ h => exact h h2
  | s _ _ h => exact h h3
  | m _ _ _ h => omega
theorem NRes.det {n : Nat} {F S ps : List Int} {xs ys : List V} (h : NRes n F S ps xs) (g : NRes n F S ps ys) : xs = ys := by
  cases h with
  | pr h =>
    cases g with
    | pr g => obtain ⟨rfl, _⟩ := h.det g; rfl
    | f g _ => exact (h.no g).elim
    | s g _ _ => exact (h.no g).elim
    | m g _ _ _ => exact (h.no g).elim
  | f h hf =>
    cases g with
    | pr g => exact (g.no h).elim
    | f _ _ => rfl
    | s _ g _ => exact (hf g).elim
    | m _ g _ _ => exact (hf g).elim
  | s h hf hs =>
    cases g with
    | pr g => exact (g.no h).elim
    | f _ _ => rfl
    | s _ g _ => rfl
    | m _ _ g _ => exact (hs g).elim
  | m h hf hs h8 =>
    cases g with
    | pr g => exact (g.no h).elim
    | f _ g => exact (g hf).elim
    | s _ _ g => exact (g hs).elim
    | m _ _ g _ => rfl
theorem NRes.flat {n : Nat} {F S ps : List Int} {xs : List V} (h : NRes n F S ps xs) : xs.length ≤ 3 ∧ ∀ v ∈ xs, Flt v := by
  cases h with
  | @pr v i h =>
    refine ⟨by simp, fun w hw => ?_⟩
    simp at hw
    rcases hw with rfl | rfl | rfl
    · simp [Flt]
    · simp [Flt]
    · cases h <;> simp [Flt]
  | f h hl => exact ⟨by simp, fun w hw => by simp at hw; subst hw; simp [Flt]⟩
  | s h hl _ => exact ⟨by simp, fun w hw => by simp at hw; subst hw; simp [Flt]⟩
  | m h hl _ _ => exact ⟨by simp, fun w hw => by simp at hw; rcases hw with rfl | rfl | rfl <;> simp [Flt]⟩
/-- what is told of two lots -/
def NTold (H : Hp) (H' : Hp) (ls hs : List Int) (a0 a1 : Int) (F S ps : List Int) (v : V) : Prop :=
  (v = .non ∧ ∀ ws a, Box ls hs ws → a0 ≤ a → a ≤ a1 → 0 ≤ fcr ws ps F S a) ∨
  ∃ t wl ws a, v = .ref t ∧ Fr H t ∧ Fr H wl ∧ At H' t (.tup [.ref wl, .int a]) ∧ At H' wl (.lst (ws.map V.int)) ∧ ws.length = ls.length ∧ (∀ t, t < ls.length → ws.getD t 0 = ls.getD t 0 ∨ ws.getD t 0 = hs.getD t 0) ∧ (a = a0 ∨ a = a1) ∧ fcr ws ps F S a < 0
def sp__law_asked (K : PySem.W.Frag) : Sp := fun vs H Q _ => ∃ (x f s pl : Addr) (ls hs : List Int) (a0 a1 : Int) (F S ps : List Int), vs = [.ref x, .ref f, .ref s, .ref pl] ∧ UR K H x ls hs a0 a1 ∧ (∀ w ∈ hs, w < 2 ^ 64) ∧ a1 < 2 ^ 64 ∧ SqT K H f (F.map V.int) ∧ SqT K H s (S.map V.int) ∧ SqL K H pl (ps.map V.int) ∧ (∀ p ∈ ps, p.natAbs < 2 ^ 64) ∧
  (∀ p H' xs, Fr H p → Ex H H' → At H' p (.tup xs) → NRes ls.length F S ps xs → Q (.ref p) H') ∧
  (PricesOk ls.length ps → IsLot ls.length F → IsLot ls.length S → (vrd ls.length F S).length ≤ 8 → ∀ p H' v, Fr H p → Ex H H' → At H' p (.tup [.str "told", v]) → NTold H H' ls hs a0 a1 F S ps v → Q (.ref p) H')
theorem ok__law_asked (T : Tx P K mg) : FnOk P w K mg base (L2.CX P w) 5 (He.ga K "_law_asked") (Z.fdOf K (He.ga K "_law_asked")) ["_law_unsure", "_law_first", "_law_second", "_law_prices"] (sp__law_asked K) := by
  refine T.F__law_asked.ok sc__law_asked (fun vs H Q E h => ?_) (fun cdv A outer s H vs Q E hr h => ?_)
  · obtain ⟨x, f, s, pl, ls, hs, a0, a1, F, S, ps, rfl, _⟩ := h
    rfl
  · obtain ⟨x, f, s0, pl, ls, hs, a0, a1, F, S, ps, rfl, hx, hhb, hab, hf, hs0, hp, hpb, k1, k2⟩ := h
    obtain ⟨⟨dx, t1, t2, t3, h1, h2, h3, h4⟩, g⟩ := id hx
    have fx0 := T.exm_ShelfError_TooMany
    have fx1 := T.exm_BadLot_TooMany
    have fx2 := T.exm_BadNumber_TooMany
    have fx3 := T.exm_TooMany_TooMany
    have fx4 := T.exm_ShelfError_BadLot
    have fx5 := T.exm_BadLot_BadLot
    have fx6 := T.exm_BadNumber_BadLot
    have fx7 := T.exm_TooMany_BadLot
    have fx8 := T.exm_ShelfError_BadNumber
    have fx9 := T.exm_BadLot_BadNumber
    have fx10 := T.exm_BadNumber_BadNumber
    have fx11 := T.exm_TooMany_BadNumber
    refine ⟨_, PSs.nox (pss_one (Z.ps_tryM rfl rfl sc__law_asked.nd takes0 (fun W pn xe tk _ => (pss_one (ps_ret (pe_tup (pa_cons pe_str (pa_cons (Z.pe_methZ (pv 0) T.o_Unsure.cl T.me_Unsure_never_less (ok_Unsure_never_less T) (hr.mono (by decide)) T.b_Unsure_never_less .nil (fun σ => passAt tk σ) (pa_cons (pv 1) (pa_cons (pv 2) (pa_cons (pv 3) pa_nil)))) pa_nil)))))) (.as (i := 4) ⟨rfl, by decide, .inl T.g_BadNumber⟩ rfl rfl (fun a oe cls d pn hz hf => (pss_one (ps_ret (pe_tup (pa_cons pe_str (pa_cons (pe_xf T.xf_BadNumber T.nf_BadNumber_what hz hf (pv 4)) (pa_cons (pe_xf T.xf_BadNumber T.nf_BadNumber_at hz hf (pv 4)) pa_nil))))))) (.no ⟨rfl, by decide, .inl T.g_BadLot⟩ (fun a oe cls d pn hz hf => (pss_one (ps_ret (pe_tup (pa_cons pe_str pa_nil))))) (.as (i := 4) ⟨rfl, by decide, .inl T.g_TooMany⟩ rfl rfl (fun a oe cls d pn hz hf => (pss_one (ps_ret (pe_tup (pa_cons pe_str (pa_cons (pe_xf T.xf_TooMany T.nf_TooMany_many hz hf (pv 4)) (pa_cons (pe_xf T.xf_TooMany T.nf_TooMany_most hz hf (pv 4)) pa_nil))))))) .nil))))), ?_⟩
    try dsimp only [cxOf, Cx.nox, Cx.wish]
    try (show (_ : TS) _ [some _, some _, some _, some _, none] _)
    walk_at "go"
    refine ⟨x, f, s0, pl, ls, hs, a0, a1, F, S, ps, rfl, hx, hhb, hab, hf, hs0, hp, hpb, ⟨⟨fun h d H' hf e hd => ?_, fun h j hj hw hb d H' hf e hd => ?_⟩, fun hok hno H' e => ?_, fun hok hf hno H' e => ?_, fun hok hF hS h8 d H' hf e hd => ?_⟩, fun hok hF hS h8 => ⟨fun H' e hz => ?_, fun p wl ws a H' fp fw e hp hw hl hc ha hlt => ?_⟩⟩
    · walk_at "go"
      exact k1 _ _ _ (by walk_at "fr") (by walk_at "ex") (by assumption) (.pr (.len h))
    · walk_at "go"
      exact k1 _ _ _ (by walk_at "fr") (by walk_at "ex") (by assumption) (.pr (.neg h j hj hw hb))
    · walk_at "go"
      exact k1 _ _ _ (by walk_at "fr") (by walk_at "ex") (by assumption) (.f hok hno)
    · walk_at "go"
      exact k1 _ _ _ (by walk_at "fr") (by walk_at "ex") (by assumption) (.s hok hf hno)
    · walk_at "go"
      exact k1 _ _ _ (by walk_at "fr") (by walk_at "ex") (by assumption) (.m hok hF hS h8)
    · walk_at "go"
      exact k2 hok hF hS h8 _ _ _ (by walk_at "fr") (by walk_at "ex") (by assumption) (.inl ⟨rfl, hz⟩)
    · walk_at "go"
      exact k2 hok hF hS h8 _ _ _ (by walk_at "fr") (by walk_at "ex") (by assumption) (.inr ⟨p, wl, ws, a, rfl, fp, fw, by walk_at "fx", by walk_at "fx", hl, hc, ha, hlt⟩)

def sp__law_asked_by_base (K : PySem.W.Frag) : Sp := fun vs H Q _ => ∃ (x f s pl : Addr) (ls hs : List Int) (a0 a1 : Int) (F S ps : List Int) (s0 : Str) (xs : List V), vs = [.ref x, .ref f, .ref s, .ref pl, .str s0] ∧ UR K H x ls hs a0 a1 ∧ (∀ w ∈ hs, w < 2 ^ 64) ∧ a1 < 2 ^ 64 ∧ SqT K H f (F.map V.int) ∧ SqT K H s (S.map V.int) ∧ SqL K H pl (ps.map V.int) ∧ (∀ p ∈ ps, p.natAbs < 2 ^ 64) ∧ NRes ls.length F S ps (.str s0 :: xs) ∧
  ∀ H', Ex H H' → Q (.bl true) H'
theorem ok__law_asked_by_base (T : Tx P K mg) : FnOk P w K mg base (L2.CX P w) 6 (He.ga K "_law_asked_by_base") (Z.fdOf K (He.ga K "_law_asked_by_base")) ["_law_unsure", "_law_first", "_law_second", "_law_prices", "_law_word"] (sp__law_asked_by_base K) := by
  refine T.F__law_asked_by_base.ok sc__law_asked_by_base (fun vs H Q E h => ?_) (fun cdv A outer s H vs Q E hr h => ?_)
  · obtain ⟨x, f, s, pl, ls, hs, a0, a1, F, S, ps, s0, xs, rfl, _⟩ := h
    rfl
  · obtain ⟨x, f, sa, pl, ls, hs, a0, a1, F, S, ps, s0, xs, rfl, hx, hhb, hab, hf, hs0, hp, hpb, hres, k⟩ := h
    obtain ⟨⟨dx, t1, t2, t3, h1, h2, h3, h4⟩, g⟩ := id hx
    have fx0 := T.exm_ShelfError_ShelfError
    have fx1 := T.exm_BadLot_ShelfError
    have fx2 := T.exm_BadNumber_ShelfError
    have fx3 := T.exm_TooMany_ShelfError
    have fx4 := T.ki_ShelfError_TooMany
    have fx5 := T.ec_ShelfError
    have fx6 := T.ki_BadLot_TooMany
    have fx7 := T.ec_BadLot
    have fx8 := T.ki_BadNumber_TooMany
    have fx9 := T.ec_BadNumber
    have fx10 := T.ki_TooMany_TooMany
    have fx11 := T.ec_TooMany
    have fx12 := T.ki_ShelfError_BadNumber
    have fx13 := T.ki_BadLot_BadNumber
    have fx14 := T.ki_BadNumber_BadNumber
    have fx15 := T.ki_TooMany_BadNumber
    have fx16 := T.ki_ShelfError_BadLot
    have fx17 := T.ki_BadLot_BadLot
    have fx18 := T.ki_BadNumber_BadLot
    have fx19 := T.ki_TooMany_BadLot
    have fx20 := T.ki_ShelfError_ValueError
    have fx21 := T.ki_BadLot_ValueError
    have fx22 := T.ki_BadNumber_ValueError
    have fx23 := T.ki_TooMany_ValueError
    refine ⟨_, PSs.nox (pss_cons (Z.ps_tryA (i := 5) rfl rfl sc__law_asked_by_base.nd rfl rfl ⟨rfl, by decide, .inl T.g_ShelfError⟩ takes0 (fun W pn xe tk _ => (pss_one (ps_expr (Z.pe_methZ (pv 0) T.o_Unsure.cl T.me_Unsure_never_less (ok_Unsure_never_less T) (hr.mono (by decide)) T.b_Unsure_never_less .nil (fun σ => passAt tk σ) (pa_cons (pv 1) (pa_cons (pv 2) (pa_cons (pv 3) pa_nil))))))) (fun a oe cls d pn hz hf => (pss_cons (ps_if (PW.pt (pw_or (pt_not (pt_val (pe_callB (Z.call_isY hz hf) (by rfl) T.n_isinstance (by decide +kernel) (pa_cons (pv 5) (pa_cons (pe_bltn (v := .ty "ValueError") (u := .type "ValueError") (by rfl) T.n_ValueError (by decide +kernel) rfl) pa_nil))))) (pw_or1 (pt_cmpR (Z.op_ne (K := K) rfl hr.units) (pe_callB (Z.call_isY hz hf) (by rfl) T.n_isinstance (by decide +kernel) (pa_cons (pv 5) (pa_cons (pe_glob (v := .ref (He.ga K "BadLot")) (by rfl) T.g_BadLot rfl) pa_nil))) (pe_cmpR (Z.op_eq (K := K) rfl hr.units) (pv 4) pe_str (nomark _)) (nomark _))))) (pss_one (ps_ret pe_bl)) pss_nil)
      (pss_one (ps_ret (pe_and (pe_cmpR (Z.op_eq (K := K) rfl hr.units) (pe_callB (Z.call_isY hz hf) (by rfl) T.n_isinstance (by decide +kernel) (pa_cons (pv 5) (pa_cons (pe_glob (v := .ref (He.ga K "BadNumber")) (by rfl) T.g_BadNumber rfl) pa_nil))) (pe_cmpR (Z.op_eq (K := K) rfl hr.units) (pv 4) pe_str (nomark _)) (nomark _)) (pe_one (pe_cmpR (Z.op_eq (K := K) rfl hr.units) (pe_callB (Z.call_isY hz hf) (by rfl) T.n_isinstance (by decide +kernel) (pa_cons (pv 5) (pa_cons (pe_glob (v := .ref (He.ga K "TooMany")) (by rfl) T.g_TooMany rfl) pa_nil))) (pe_cmpR (Z.op_eq (K := K) rfl hr.units) (pv 4) pe_str (nomark _)) (nomark _)))))))))
      (pss_one (ps_ret pe_bl))), ?_⟩
    try dsimp only [cxOf, Cx.nox, Cx.wish]
    try (show (_ : TS) _ [some _, some _, some _, some _, some _, none] _)
    walk_at "go"
    refine ⟨x, f, sa, pl, ls, hs, a0, a1, F, S, ps, rfl, hx, hhb, hab, hf, hs0, hp, hpb, ⟨⟨fun h d H' hf e hd => ?_, fun h j hj hw hb d H' hf e hd => ?_⟩, fun hok hno H' e => ?_, fun hok hf hno H' e => ?_, fun hok hF hS h8 d H' hf e hd => ?_⟩, fun hok hF hS h8 => (hres.no hok hF hS h8).elim⟩
    · cases hres.det (.pr (.len h))
      walk_at "run"
      exact k _ (by walk_at "ex")
    · cases hres.det (.pr (.neg h j hj hw hb))
      walk_at "run"
      exact k _ (by walk_at "ex")
    · cases hres.det (.f hok hno)
      walk_at "run"
      exact k _ (by walk_at "ex")
    · cases hres.det (.s hok hf hno)
      walk_at "run"
      exact k _ (by walk_at "ex")
    · cases hres.det (.m hok hF hS h8)
      walk_at "run"
      exact k _ (by walk_at "ex")

def sp__law_refuses (K : PySem.W.Frag) : Sp := fun vs H Q _ => ∃ (x f s pl : Addr) (ls hs : List Int) (a0 a1 : Int) (F S ps : List Int) (n m : Int), vs = [.ref x, .int n, .int m, .ref f, .ref s, .ref pl] ∧ UR K H x ls hs a0 a1 ∧ (∀ w ∈ hs, w < 2 ^ 64) ∧ a1 < 2 ^ 64 ∧ SqT K H f (F.map V.int) ∧ SqT K H s (S.map V.int) ∧ IsLot ls.length F ∧ IsLot ls.length S ∧ SqL K H pl (ps.map V.int) ∧ PricesOk ls.length ps ∧ (∀ p ∈ ps, p.natAbs < 2 ^ 64) ∧ 0 ≤ m ∧ m < 2 ^ 60 ∧ 5 ≤ n ∧ n ≤ 7 ∧
  ∀ H', Ex H H' → Q (.bl true) H'
theorem ok__law_refuses (T : Tx P K mg) : FnOk P w K mg base (L2.CX P w) 7 (He.ga K "_law_refuses") (Z.fdOf K (He.ga K "_law_refuses")) ["_law_unsure", "_law_fault", "_law_form", "_law_first", "_law_second", "_law_prices"] (sp__law_refuses K) := by
  refine T.F__law_refuses.ok sc__law_refuses (fun vs H Q E h => ?_) (fun cdv A outer s H vs Q E hr h => ?_)
  · obtain ⟨x, f, s, pl, ls, hs, a0, a1, F, S, ps, n, m, rfl, _⟩ := h
    rfl
  · obtain ⟨x, f, sa, pl, ls, hs, a0, a1, F, S, ps, n, m, rfl, hx, hhb, hab, hf, hs0, hF, hS, hp, hok, hpb, hm0, hm1, hn0, hn1, k⟩ := h
    have g := hx.2
    have hlen := g.len
    have hok1 := hok.1
    have hFl := hF.len
    have hSl := hS.len
    refine ⟨_, PSs.nox (pss_cons (ps_set (i := 6) sc__law_refuses.nd rfl (Or.inl rfl) (pe_callB (Z.call_len (K := K) rfl) (by rfl) T.n_len (by decide +kernel) (pa_cons (pv 5) pa_nil)))
      (pss_cons (ps_set (i := 7) sc__law_refuses.nd rfl (Or.inl rfl) (pe_callTy (Z.call_list (K := K) rfl) (by rfl) T.n_list (by decide +kernel) (pa_cons (pv 5) pa_nil)))
      (pss_cons (ps_set (i := 8) sc__law_refuses.nd rfl (Or.inl rfl) (pe_tup (pa_cons pe_str pa_nil)))
      (C8.pss_cut (ps_if (pt_cmpR (Z.op_eq (K := K) rfl hr.units) (pv 1) pe_int (nomark _)) (pss_cons (ps_expr (pe_bm PySem.F.plainAttrs_list PySem.F.slot_list_append PySem.F.type_list_append mt_append (pv 7) (pa_cons (pv 2) pa_nil)))
      (pss_one (ps_set (i := 8) sc__law_refuses.nd rfl (Or.inl rfl) (pe_tup (pa_cons pe_str (pa_cons pe_str (pa_cons pe_non pa_nil))))))) pss_nil)
      (C8.pss_cut (ps_if (PW.pt (pw_or (pt_cmpR (Z.op_eq (K := K) rfl hr.units) (pv 1) pe_int (nomark _)) (pw_or1 (PW.pt (pw_and (pt_cmpR (Z.op_eq (K := K) rfl hr.units) (pv 1) pe_int (nomark _)) (pw_and1 (pt_cmpR Z.op_gt (pv 2) pe_int (nomark _)))))))) (pss_one (ps_set (i := 3) sc__law_refuses.nd rfl (Or.inl rfl) (pe_call (ok__law_no_lot T) (hr.mono (by decide)) (by rfl) T.g__law_no_lot T.F__law_no_lot.kp T.b__law_no_lot .nil passL (pa_cons (pv 3) (pa_cons (pv 6) (pa_cons (pe_op Z.op_mod (pe_callTy Z.call_int (by rfl) T.n_int (by decide +kernel) (pa_cons (pv 2) pa_nil)) pe_int) pa_nil)))))) pss_nil)
      (C8.pss_cut (ps_if (pt_cmpR (Z.op_eq (K := K) rfl hr.units) (pv 1) pe_int (nomark _)) (pss_one (ps_set (i := 4) sc__law_refuses.nd rfl (Or.inl rfl) (pe_call (ok__law_no_lot T) (hr.mono (by decide)) (by rfl) T.g__law_no_lot T.F__law_no_lot.kp T.b__law_no_lot .nil passL (pa_cons (pv 4) (pa_cons (pv 6) (pa_cons (pe_op Z.op_mod (pe_callTy Z.call_int (by rfl) T.n_int (by decide +kernel) (pa_cons (pv 2) pa_nil)) pe_int) pa_nil)))))) pss_nil)
      (pss_cons (ps_if (pt_not (pt_val (pe_call (ok__law_refused T) (hr.mono (by decide)) (by rfl) T.g__law_refused T.F__law_refused.kp T.b__law_refused .nil passL (pa_cons (pe_call (ok__law_asked T) (hr.mono (by decide)) (by rfl) T.g__law_asked T.F__law_asked.kp T.b__law_asked .nil passL (pa_cons (pv 0) (pa_cons (pv 3) (pa_cons (pv 4) (pa_cons (pv 7) pa_nil))))) (pa_cons (pv 8) pa_nil))))) (pss_one (ps_ret pe_bl)) pss_nil)
      (pss_one (ps_ret (pe_call (ok__law_asked_by_base T) (hr.mono (by decide)) (by rfl) T.g__law_asked_by_base T.F__law_asked_by_base.kp T.b__law_asked_by_base .nil passL (pa_cons (pv 0) (pa_cons (pv 3) (pa_cons (pv 4) (pa_cons (pv 7) (pa_cons (pe_ix (Z.ix (K := K) rfl) (pv 8) pe_int (fun _ _ => rfl)) pa_nil))))))))))))))), ?_⟩
    try dsimp only [cxOf, Cx.nox, Cx.wish]
    try (show (_ : TS) _ [some _, some _, some _, some _, some _, some _, none, none, none] _)
    walk_at "go"
    rename_i B1 H1 hB1 he1 hp1 D2 H2 hD2 he2 hp2
    refine Z.w_cut (fun σ G => ∃ (D : Addr) (ps' : List Int) (xs : List V) (s0 : Str), σ = [some (.ref x), some (.int n), some (.int m), some (.ref f), some (.ref sa), some (.ref pl), some (.int ps.length), some (.ref B1), some (.ref D)] ∧ Ex H G ∧ At G B1 (.lst (ps'.map V.int)) ∧ (∀ p ∈ ps', p.natAbs < 2 ^ 64) ∧ SqT K G D (.str s0 :: xs) ∧ ((n = 5 ∧ PRes ls.length ps' .non (-1) ∧ s0 = "number" ∧ xs = [.str "prices", .non]) ∨ (n ≠ 5 ∧ ps' = ps ∧ s0 = "lot" ∧ xs = []))) ?_ ?_
    · have hB2 := he2.get hp1
      walk_at "go"
      refine Z.w_dec (fun h => ?_) (fun h => ?_)
      · walk_at "go"
        rename_i G3 hp3 hnl3 ho3 hke3 D4 H4 hD4 he4 hp4
        exact ⟨D4, ps ++ [m], [.str "prices", .non], "number", rfl, hke3.trans he4, he4.get (hp3.l (by rw [List.map_append]; rfl)), bt_snoc hpb (by omega), st_of hp4, .inl ⟨h, pres_snoc hok, rfl, rfl⟩⟩
      · walk_at "go"
        exact ⟨D2, ps, [], "lot", rfl, by walk_at "ex", hB2, hpb, by walk_at "ft", .inr ⟨h, rfl, rfl, rfl⟩⟩
    rintro σ' G ⟨D, ps', xs, s0, rfl, eG, hB, hpb', hD, hc⟩
    refine Z.w_cut (fun σ G2 => ∃ (f' : Addr) (F' : List Int), σ = [some (.ref x), some (.int n), some (.int m), some (.ref f'), some (.ref sa), some (.ref pl), some (.int ps.length), some (.ref B1), some (.ref D)] ∧ Ex G G2 ∧ SqT K G2 f' (F'.map V.int) ∧ (n = 6 → ¬ IsLot ls.length F') ∧ (n = 7 → IsLot ls.length F')) ?_ ?_
    · have no : ∀ {P : Addr → Hp → Prop}, True := fun {_} => trivial
      walk_at "go"
      refine Z.w_dec (fun h => ?_) (fun h => ?_)
      · walk_at "go"
        refine ⟨f, F, _, _, rfl, by walk_at "ft", by rw [hok1]; exact hF, by omega, fun L3 H3 ms he3 hL3 hno hml => ?_⟩
        walk_at "go"
        exact ⟨L3, ms, rfl, he3, hL3, fun _ => by rw [← hok1]; exact hno, fun z => by omega⟩
      · walk_at "go"
        refine Z.w_dec (fun h2 => ?_) (fun h2 => ?_)
        · walk_at "go"
          refine Z.w_dec (fun h3 => ?_) (fun h3 => ?_)
          · walk_at "go"
            refine ⟨f, F, _, _, rfl, by walk_at "ft", by rw [hok1]; exact hF, by omega, fun L3 H3 ms he3 hL3 hno hml => ?_⟩
            walk_at "go"
            exact ⟨L3, ms, rfl, he3, hL3, fun _ => by rw [← hok1]; exact hno, fun z => by omega⟩
          · walk_at "go"
            exact ⟨f, F, rfl, Ex.refl _, by walk_at "ft", fun z => absurd z h, fun _ => hF⟩
        · walk_at "go"
          exact ⟨f, F, rfl, Ex.refl _, by walk_at "ft", fun z => absurd z h, fun _ => hF⟩
    rintro σ' G2 ⟨f', F', rfl, eG2, hf', hF1, hF2⟩
    refine Z.w_cut (fun σ G3 => ∃ (s' : Addr) (S' : List Int), σ = [some (.ref x), some (.int n), some (.int m), some (.ref f'), some (.ref s'), some (.ref pl), some (.int ps.length), some (.ref B1), some (.ref D)] ∧ Ex G2 G3 ∧ SqT K G3 s' (S'.map V.int) ∧ (n = 7 → ¬ IsLot ls.length S')) ?_ ?_
    · walk_at "go"
      refine Z.w_dec (fun h => ?_) (fun h => ?_)
      · walk_at "go"
        refine ⟨sa, S, _, _, rfl, by walk_at "ft", by rw [hok1]; exact hS, by omega, fun L3 H3 ms he3 hL3 hno hml => ?_⟩
        walk_at "go"
        exact ⟨L3, ms, rfl, he3, hL3, fun _ => by rw [← hok1]; exact hno⟩
      · walk_at "go"
        exact ⟨sa, S, rfl, Ex.refl _, by walk_at "ft", fun z => absurd z h⟩
    rintro σ' G3 ⟨s', S', rfl, eG3, hs', hS1⟩
    have hres : NRes ls.length F' S' ps' (.str s0 :: xs) := by
      rcases hc with ⟨rfl, hr, rfl, rfl⟩ | ⟨h5, rfl, rfl, rfl⟩
      · exact .pr hr
      · by_cases h6 : n = 6
        · exact .f hok (hF1 h6)
        · exact .s hok (hF2 (by omega)) (hS1 (by omega))
    obtain ⟨fl1, fl2⟩ := hres.flat
    walk_at "go"
    refine ⟨x, f', s', B1, ls, hs, a0, a1, F', S', ps', rfl, hx.ex (by walk_at "ex"), hhb, hab, by walk_at "ft", by walk_at "ft", by walk_at "fl", hpb', fun p6 H6 ys hn6 he6 hp6 hr6 => ?_, fun h1 h2 h3 h4 => (hres.no h1 h2 h3 h4).elim⟩
    cases hres.det hr6
    walk_at "go"
    refine ⟨p6, D, _, rfl, st_of hp6, by walk_at "ft", fl1, fl2, fun H7 he7 => ?_⟩
    walk_at "run"
    refine w_ixT (v := .str s0) (xs := .str s0 :: xs) (by walk_at "ft") (by simp [atI, ixN]) ?_
    walk_at "go"
    refine ⟨x, f', s', B1, ls, hs, a0, a1, F', S', ps', s0, xs, rfl, hx.ex (by walk_at "ex"), hhb, hab, by walk_at "ft", by walk_at "ft", by walk_at "fl", hpb', hres, fun H9 he9 => ?_⟩
    walk_at "run"
    exact k _ (by walk_at "ex")

def sp__law_two_lots (K : PySem.W.Frag) : Sp := fun vs H Q _ => ∃ (d : Addr) (ds : List Int) (m c w : Int), vs = [.ref d, .int m, .int c, .int w] ∧ SqL K H d (ds.map V.int) ∧ ds.length = 18 ∧ 0 ≤ m ∧ m ≤ 24 ∧ 0 ≤ c ∧
  ∀ q f s H' (F S : List Int), Fr H q → Ex H H' → At H' q (.tup [.ref f, .ref s]) → At H' f (.tup (F.map V.int)) → At H' s (.tup (S.map V.int)) → IsLot m F → IsLot m S → Q (.ref q) H'
theorem ok__law_two_lots (T : Tx P K mg) : FnOk P w K mg base (L2.CX P w) 2 (He.ga K "_law_two_lots") (Z.fdOf K (He.ga K "_law_two_lots")) ["_law_draws_here", "_law_many", "_law_count", "_law_way"] (sp__law_two_lots K) := by
  refine T.F__law_two_lots.ok sc__law_two_lots (fun vs H Q E h => ?_) (fun cdv A outer s H vs Q E hr h => ?_)
  · obtain ⟨d, ds, m, c, w, rfl, _⟩ := h
    rfl
  · obtain ⟨d, ds, m, c, w, rfl, hd, hdl, hm0, hm1, hc0, k⟩ := h
    refine ⟨_, PSs.nox (pss_cons (ps_set (i := 4) sc__law_two_lots.nd rfl (Or.inl rfl) (pe_slice (Z.slL (K := K) rfl) (pe_call (ok__law_shuffled T) (hr.mono (by decide)) (by rfl) T.g__law_shuffled T.F__law_shuffled.kp T.b__law_shuffled .nil passL (pa_cons (pe_slice (Z.slL (K := K) rfl) (pv 0) po_none (po_some pe_int)) (pa_cons (pe_lc (own := [("_law_thing", 9)]) rfl sc__law_two_lots.nd (pi_range1 (by rfl) T.n_range (pa_cons (pv 1) pa_nil)) (blkOk_by (N := ["_law_draws_here", "_law_many", "_law_count", "_law_way", "_law_things", "_law_one", "_law_two", "_law_k", "_law_role", "_law_thing"]) (sc := defScope s__law_two_lots) (by decide +kernel)) (fun _ _ _ _ _ => (pg_name (i := 9) sc__law_two_lots.nd rfl (by first | exact Or.inl rfl | exact Or.inr rfl))) (fun _ _ _ _ _ => pts_nil) (fun _ _ _ _ _ => (pv 9))) pa_nil))) po_none (po_some (pv 2))))
      (pss_cons (ps_set (i := 5) sc__law_two_lots.nd rfl (Or.inr rfl) (pe_lst pa_nil))
      (pss_cons (ps_set (i := 6) sc__law_two_lots.nd rfl (Or.inr rfl) (pe_lst pa_nil))
      (pss_cons (ps_for PassesOwn.never rfl (pi_range1 (by rfl) T.n_range (pa_cons (pe_callB (Z.call_len (K := K) rfl) (by rfl) T.n_len (by decide +kernel) (pa_cons (pv 4) pa_nil)) pa_nil)) (pg_name (i := 7) sc__law_two_lots.nd rfl (by first | exact Or.inl rfl | exact Or.inr rfl)) (pss_cons (ps_set (i := 8) sc__law_two_lots.nd rfl (Or.inl rfl) (pe_ix (Z.ix (K := K) rfl) (pv 0) (pe_op Z.op_add pe_int (pv 7)) (fun _ _ => rfl)))
      (C8.pss_cut (ps_if (PW.pt (pw_and (pt_cmpR (Z.op_eq (K := K) rfl hr.units) (pv 3) pe_int (nomark _)) (pw_and1 (pt_cmpR (Z.op_eq (K := K) rfl hr.units) (pv 8) pe_int (nomark _))))) (pss_one (ps_set (i := 8) sc__law_two_lots.nd rfl (Or.inl rfl) pe_int)) pss_nil)
      (C8.pss_cut (ps_if (PW.pt (pw_or (PW.pt (pw_and (pt_cmpR (Z.op_eq (K := K) rfl hr.units) (pv 3) pe_int (nomark _)) (pw_and1 (pt_cmpR Z.op_gt (pv 8) pe_int (nomark _))))) (pw_or1 (PW.pt (pw_and (pt_cmpR (Z.op_eq (K := K) rfl hr.units) (pv 3) pe_int (nomark _)) (pw_and1 (pt_cmpR (Z.op_eq (K := K) rfl hr.units) (pv 8) pe_int (nomark _)))))))) (pss_one (ps_set (i := 8) sc__law_two_lots.nd rfl (Or.inl rfl) pe_int)) pss_nil)
      (C8.pss_cut (ps_if (PW.pt (pw_or (pt_cmpR (Z.op_eq (K := K) rfl hr.units) (pv 8) pe_int (nomark _)) (pw_or1 (pt_cmpR (Z.op_eq (K := K) rfl hr.units) (pv 8) pe_int (nomark _))))) (pss_one (ps_expr (pe_bm PySem.F.plainAttrs_list PySem.F.slot_list_append PySem.F.type_list_append mt_append (pv 5) (pa_cons (pe_ix (Z.ix (K := K) rfl) (pv 4) (pv 7) (fun _ _ => rfl)) pa_nil)))) pss_nil)
      (pss_one (ps_if (pt_cmpR Z.op_gt (pv 8) pe_int (nomark _)) (pss_one (ps_expr (pe_bm PySem.F.plainAttrs_list PySem.F.slot_list_append PySem.F.type_list_append mt_append (pv 6) (pa_cons (pe_ix (Z.ix (K := K) rfl) (pv 4) (pv 7) (fun _ _ => rfl)) pa_nil)))) pss_nil)))))))
      (pss_one (ps_ret (pe_tup (pa_cons (pe_callTy (Z.call_tuple (K := K) rfl) (by rfl) T.n_tuple (by decide +kernel) (pa_cons (pe_lc (own := [("_law_k", 7)]) rfl sc__law_two_lots.nd (pi_range1 (by rfl) T.n_range (pa_cons (pv 1) pa_nil)) (blkOk_by (N := ["_law_draws_here", "_law_many", "_law_count", "_law_way", "_law_things", "_law_one", "_law_two", "_law_k", "_law_role", "_law_thing"]) (sc := defScope s__law_two_lots) (by decide +kernel)) (fun _ _ _ _ _ => (pg_name (i := 7) sc__law_two_lots.nd rfl (by first | exact Or.inl rfl | exact Or.inr rfl))) (fun _ _ _ _ _ => (pts_one (pt_cmpR (Z.op_in (K := K) rfl) (pv 7) (pv 5) (by rfl)))) (fun _ _ _ _ _ => (pv 7))) pa_nil)) (pa_cons (pe_callTy (Z.call_tuple (K := K) rfl) (by rfl) T.n_tuple (by decide +kernel) (pa_cons (pe_lc (own := [("_law_k", 7)]) rfl sc__law_two_lots.nd (pi_range1 (by rfl) T.n_range (pa_cons (pv 1) pa_nil)) (blkOk_by (N := ["_law_draws_here", "_law_many", "_law_count", "_law_way", "_law_things", "_law_one", "_law_two", "_law_k", "_law_role", "_law_thing"]) (sc := defScope s__law_two_lots) (by decide +kernel)) (fun _ _ _ _ _ => (pg_name (i := 7) sc__law_two_lots.nd rfl (by first | exact Or.inl rfl | exact Or.inr rfl))) (fun _ _ _ _ _ => (pts_one (pt_cmpR (Z.op_in (K := K) rfl) (pv 7) (pv 6) (by rfl)))) (fun _ _ _ _ _ => (pv 7))) pa_nil)) pa_nil))))))))), ?_⟩
    try dsimp only [cxOf, Cx.nox, Cx.wish]
    try (show (_ : TS) _ [some _, some _, some _, some _, none, none, none, none, none, none] _)
    walk_at "go"
    rename_i p1 H1 hn1 he1 hp1 J1 S1
    refine Z.cgI S1 (fun i => (i : Int)) (fun H' e => trivial) (by show _ ≤ 16777216; omega) (fun Dl i y G hi ec cd hy => ?_) (fun p2 H2 hn2 he2 hp2 => ?_) rfl
    · subst hy
      walk_at "go"
    walk_at "go"
    refine ⟨p1, p2, _, _, rfl, by walk_at "fl", by walk_at "fl", by rw [List.length_take]; omega, by rw [List.length_map, List.length_range]; omega, fun p3 H3 ns hn3 he3 hp3 hnl => ?_⟩
    rw [List.length_take] at hnl
    walk_at "go"
    rename_i TH H4 hTH he4 hp4 O5 H5 hO5 he5 hp5 W6 H6 hW6 he6 hp6 J6 S6
    have htl : (ns.take c.toNat).length ≤ 9 := by rw [List.length_take]; have : min (Int.toNat 9) ds.length ≤ 9 := Nat.min_le_left _ _; omega
    generalize ns.take c.toNat = ts at *
    have hne : W6 ≠ O5 := fun z => hp5.ne hW6 z.symm
    have fO : Fr H4 O5 := hO5
    have fW : Fr H4 W6 := he5.back hW6
    have hTH4 : At H4 TH (.lst (ts.map V.int)) := hp4
    refine Z.fg S6 (fun i σ G => ∃ (os ws : List Int) (v7 v8 : Option V), σ = [some (.ref d), some (.int m), some (.int c), some (.int w), some (.ref TH), some (.ref O5), some (.ref W6), v7, v8, none] ∧ Ex H4 G ∧ At G O5 (.lst (os.map V.int)) ∧ At G W6 (.lst (ws.map V.int)) ∧ os.length ≤ i ∧ ws.length ≤ i)
      ⟨[], [], _, _, rfl, he5.trans he6, he6.get hp5, hp6, Nat.le_refl _, Nat.le_refl _⟩ (fun _ σ' G _ _ => trivial) ?_ ?_
    · rintro i y σ' G G2 hi ⟨os, ws, v7, v8, rfl, eG, hO, hW, hol, hwl⟩ e2 rfl
      have hO2 := e2.get hO
      have hW2 := e2.get hW
      have hi2 : i < ts.length := by simpa using hi
      walk_at "go"
      refine Z.w_cutI 8 (fun _ => True) ?_ fun r1 _ => ?_
      · walk_at "go"
        refine Z.w_dec (fun h => ?_) (fun h => ?_)
        · walk_at "go"
          refine Z.w_dec (fun h2 => ?_) (fun h2 => ?_) <;> (walk_at "go"; exact ⟨rfl, _, trivial, rfl⟩)
        · walk_at "go"
          exact ⟨rfl, _, trivial, rfl⟩
      simp only [List.set_cons_zero, List.set_cons_succ]
      refine Z.w_cutI 8 (fun _ => True) ?_ fun r2 _ => ?_
      · have fin : ∀ r : Int, (fun σ' G => G = G2 ∧ ∃ w' : Int, True ∧ σ' = [some (V.ref d), some (V.int m), some (V.int c), some (V.int w), some (V.ref TH), some (V.ref O5), some (V.ref W6), some (V.int (i : Nat)), some (V.int r1), none].set 8 (some (V.int w'))) ([some (V.ref d), some (V.int m), some (V.int c), some (V.int w), some (V.ref TH), some (V.ref O5), some (V.ref W6), some (V.int (i : Nat)), some (V.int r), none]) G2 := fun r => ⟨rfl, r, trivial, rfl⟩
        walk_at "go"
        refine Z.w_dec (fun h => ?_) (fun h => ?_)
        · walk_at "go"
          refine Z.w_dec (fun h2 => ?_) (fun h2 => ?_)
          · walk_at "run"
            exact fin _
          · walk_at "run"
            exact fin _
        · walk_at "go"
          refine Z.w_dec (fun h2 => ?_) (fun h2 => ?_)
          · walk_at "go"
            refine Z.w_dec (fun h3 => ?_) (fun h3 => ?_)
            · walk_at "run"
              exact fin _
            · walk_at "run"
              exact fin _
          · walk_at "run"
            exact fin _
      simp only [List.set_cons_zero, List.set_cons_succ]
      refine Z.w_cut (fun σ G3 => ∃ os' : List Int, σ = [some (.ref d), some (.int m), some (.int c), some (.int w), some (.ref TH), some (.ref O5), some (.ref W6), some (.int (i : Nat)), some (.int r2), none] ∧ Ex H4 G3 ∧ At G3 O5 (.lst (os'.map V.int)) ∧ At G3 W6 (.lst (ws.map V.int)) ∧ os'.length ≤ i + 1) ?_ ?_
      · have stay : ∃ os' : List Int, [some (V.ref d), some (.int m), some (.int c), some (.int w), some (.ref TH), some (.ref O5), some (.ref W6), some (.int (i : Nat)), some (.int r2), none] = [some (.ref d), some (.int m), some (.int c), some (.int w), some (.ref TH), some (.ref O5), some (.ref W6), some (.int (i : Nat)), some (.int r2), none] ∧ Ex H4 G2 ∧ At G2 O5 (.lst (os'.map V.int)) ∧ At G2 W6 (.lst (ws.map V.int)) ∧ os'.length ≤ i + 1 := ⟨os, rfl, eG.trans e2, hO2, hW2, by omega⟩
        walk_at "go"
        refine Z.w_dec (fun h => ?_) (fun h => ?_)
        · walk_at "go"
          rename_i G3 hp3' hnl3 ho3 hke3
          exact ⟨os ++ [_], rfl, hke3, hp3'.l (by rw [List.map_append]; rfl), ho3 W6 _ hne hW2, by rw [List.length_append]; simp; omega⟩
        · walk_at "go"
          refine Z.w_dec (fun h2 => ?_) (fun h2 => ?_)
          · walk_at "go"
            rename_i G3 hp3' hnl3 ho3 hke3
            exact ⟨os ++ [_], rfl, hke3, hp3'.l (by rw [List.map_append]; rfl), ho3 W6 _ hne hW2, by rw [List.length_append]; simp; omega⟩
          · walk_at "go"
            exact stay
      rintro σ' G3 ⟨os', rfl, eG3, hO3, hW3, hol3⟩
      walk_at "go"
      refine Z.w_dec (fun h => ?_) (fun h => ?_)
      · walk_at "go"
        rename_i G4 hp4' hnl4 ho4 hke4
        exact ⟨os', ws ++ [_], _, _, rfl, hke4, ho4 O5 _ (Ne.symm hne) hO3, hp4'.l (by rw [List.map_append]; rfl), hol3, by rw [List.length_append]; simp; omega⟩
      · walk_at "go"
        exact ⟨os', ws, _, _, rfl, eG3, hO3, hW3, hol3, by omega⟩
    · rintro σ' G ⟨os, ws, v7, v8, rfl, eG, hO, hW, hol, hwl⟩
      walk_at "go"
      rename_i J7 S7
      refine Z.cgP S7 (fun i => decide ((i : Int) ∈ os)) (fun i => V.int (i : Nat)) (fun H' e => trivial) (by show _ ≤ 16777216; omega) (fun Dl i y G3 hi ec cd hz hy => ?_) (fun q7 G7 hq7 he7 hp7 => ?_)
      · subst hy
        walk_at "go"
        refine Z.w_dec (fun h => ?_) (fun h => ?_)
        · rw [Z.fr_T (decide_eq_true h)]
          walk_at "go"
        · rw [Z.fr_F (decide_eq_false h)]
          exact cd
      have hp7' : At G7 q7 (.lst ((((List.range m.toNat).filter fun i : Nat => decide ((i : Int) ∈ os)).map fun k : Nat => (k : Int)).map V.int)) := hp7.l (by rw [List.map_map]; rfl)
      have l1 := others_lot (n := m) hm0 fun i => decide ((i : Int) ∈ os)
      generalize (((List.range m.toNat).filter fun i : Nat => decide ((i : Int) ∈ os)).map fun k : Nat => (k : Int)) = F at *
      clear hp7
      walk_at "go"
      rename_i f8 G8 hf8 he8 hp8 J8 S8
      refine Z.cgP S8 (fun i => decide ((i : Int) ∈ ws)) (fun i => V.int (i : Nat)) (fun H' e => trivial) (by show _ ≤ 16777216; omega) (fun Dl i y G3 hi ec cd hz hy => ?_) (fun q9 G9 hq9 he9 hp9 => ?_)
      · subst hy
        walk_at "go"
        refine Z.w_dec (fun h => ?_) (fun h => ?_)
        · rw [Z.fr_T (decide_eq_true h)]
          walk_at "go"
        · rw [Z.fr_F (decide_eq_false h)]
          exact cd
      have hp9' : At G9 q9 (.lst ((((List.range m.toNat).filter fun i : Nat => decide ((i : Int) ∈ ws)).map fun k : Nat => (k : Int)).map V.int)) := hp9.l (by rw [List.map_map]; rfl)
      have l2 := others_lot (n := m) hm0 fun i => decide ((i : Int) ∈ ws)
      generalize (((List.range m.toNat).filter fun i : Nat => decide ((i : Int) ∈ ws)).map fun k : Nat => (k : Int)) = S at *
      clear hp9
      walk_at "go"
      rename_i s10 G10 hs10 he10 hp10 q11 G11 hq11 he11 hp11
      exact k q11 f8 s10 G11 F S (by walk_at "fr") (by walk_at "ex") hp11 (by walk_at "fx") (by walk_at "fx") l1 l2

theorem gset {ws : List Int} {v : Nat} {x : Int} (hv : v < ws.length) {i : Nat} : (ws.set v x).getD i 0 = if i = v then x else ws.getD i 0 := by
  rw [List.getD_eq_getElem?_getD, List.getElem?_set]
  by_cases h : v = i
  · subst h
    rw [if_pos rfl, if_pos hv, if_pos rfl]
    rfl
  · rw [if_neg h, if_neg (fun z => h z.symm), ← List.getD_eq_getElem?_getD]
/-- numbers within the bounds -/
def InB (cs : List (Int × Int)) (ns : List Int) : Prop := ns.length = cs.length ∧ ∀ i, i < cs.length → (cs.getD i (0, 0)).1 ≤ ns.getD i 0 ∧ ns.getD i 0 ≤ (cs.getD i (0, 0)).2
def sp__law_corners (K : PySem.W.Frag) : Sp := fun vs H Q _ => ∃ (c v : Addr) (xs : List V) (cs : List (Int × Int)) (ts : List Int), vs = [.ref c, .ref v] ∧ SqL K H c xs ∧ PL H xs cs ∧ (∀ b ∈ cs, Bnd b) ∧ 1 ≤ cs.length ∧ cs.length ≤ 100 ∧ At H v (.lst (ts.map V.int)) ∧ ts.length ≤ 8 ∧ (∀ t ∈ ts, 0 ≤ t ∧ t < cs.length) ∧
  ∀ q H' ys nss, Fr H q → Ex H H' → At H' q (.lst ys) → LLi H' ys nss → (∀ ns ∈ nss, InB cs ns) → nss.length ≤ 1000 → Q (.ref q) H'
theorem ok__law_corners (T : Tx P K mg) : FnOk P w K mg base (L2.CX P w) 2 (He.ga K "_law_corners") (Z.fdOf K (He.ga K "_law_corners")) ["_law_couples", "_law_varied"] (sp__law_corners K) := by
  refine T.F__law_corners.ok sc__law_corners (fun vs H Q E h => ?_) (fun cdv A outer s H vs Q E hr h => ?_)
  · obtain ⟨c, v, xs, cs, ts, rfl, _⟩ := h
    rfl
  · obtain ⟨c, v, xs, cs, ts, rfl, hc, hPL, hB, hcl0, hcl, hv, htl, htb, k⟩ := h
    have hxl := hPL.1
    have bnd : ∀ i, i < cs.length → Bnd (cs.getD i (0, 0)) := fun i hi => by rw [getD_get _ _ _ hi]; exact hB _ (List.getElem_mem _)
    have hp2 : 2 ^ (ts.length + 1) ≤ 512 := Nat.le_trans (Nat.pow_le_pow_right (by decide) (show ts.length + 1 ≤ 9 by omega)) (by decide)
    refine ⟨_, PSs.nox (pss_cons (ps_set (i := 2) sc__law_corners.nd rfl (Or.inl rfl) (pe_lst pa_nil))
      (pss_cons (ps_for PassesOwn.never rfl (pi_range1 (by rfl) T.n_range (pa_cons (pe_call (ok__law_power T) (hr.mono (by decide)) (by rfl) T.g__law_power T.F__law_power.kp T.b__law_power .nil passL (pa_cons (pe_op Z.op_add (pe_callB (Z.call_len (K := K) rfl) (by rfl) T.n_len (by decide +kernel) (pa_cons (pv 1) pa_nil)) pe_int) pa_nil)) pa_nil)) (pg_name (i := 3) sc__law_corners.nd rfl (by first | exact Or.inl rfl | exact Or.inr rfl)) (pss_cons (ps_setLc (i := 4) (own := [("_law_couple", 7)]) rfl sc__law_corners.nd rfl rfl (sw_true rfl rfl rfl (by decide +kernel)) (Z.piL (K := K) rfl (pv 0)) (blkOk_by (N := ["_law_couples", "_law_varied", "_law_found", "_law_bits", "_law_numbers", "_law_left", "_law_thing", "_law_couple"]) (sc := defScope s__law_corners) (by decide +kernel)) (fun _ _ _ _ _ => (pg_name (i := 7) sc__law_corners.nd rfl (by first | exact Or.inl rfl | exact Or.inr rfl))) (fun _ _ _ _ _ => pts_nil) (fun _ _ _ _ _ => (pe_ix (Z.ix (K := K) rfl) (pv 7) pe_int (fun _ _ => rfl))))
      (pss_cons (ps_set (i := 5) sc__law_corners.nd rfl (Or.inl rfl) (pv 3))
      (pss_cons (ps_for PassesOwn.never rfl (Z.piL (K := K) rfl (pe_op Z.op_add (pv 1) (pe_lst (pa_cons (pe_op Z.op_sub (pe_callB (Z.call_len (K := K) rfl) (by rfl) T.n_len (by decide +kernel) (pa_cons (pv 0) pa_nil)) pe_int) pa_nil)))) (pg_name (i := 6) sc__law_corners.nd rfl (by first | exact Or.inl rfl | exact Or.inr rfl)) (pss_cons (ps_if (pt_cmpR (Z.op_eq (K := K) rfl hr.units) (pe_op Z.op_mod (pe_callTy Z.call_int (by rfl) T.n_int (by decide +kernel) (pa_cons (pv 5) pa_nil)) pe_int) pe_int (nomark _)) (pss_one (ps_asg (pe_ix (Z.ix (K := K) rfl) (pe_ix (Z.ix (K := K) rfl) (pv 0) (pv 6) (fun _ _ => rfl)) pe_int (fun _ _ => rfl)) (pg_sub (pv 4) (pv 6) set_list))) pss_nil)
      (pss_one (ps_set (i := 5) sc__law_corners.nd rfl (Or.inl rfl) (pe_op Z.op_fdivP (pv 5) pe_int)))))
      (pss_one (ps_expr (pe_bm PySem.F.plainAttrs_list PySem.F.slot_list_append PySem.F.type_list_append mt_append (pv 2) (pa_cons (pv 4) pa_nil))))))))
      (pss_one (ps_ret (pv 2))))), ?_⟩
    try dsimp only [cxOf, Cx.nox, Cx.wish]
    try (show (_ : TS) _ [some _, some _, none, none, none, none, none, none] _)
    walk_at "go"
    rename_i L H1 hL he1 hp1
    refine ⟨ts.length + 1, by push_cast; rfl, by omega, fun H3 he3 => ?_⟩
    generalize 2 ^ (ts.length + 1) = B at *
    walk_at "go"
    rename_i J S
    have fL : Fr H L := hL
    refine Z.fg S (fun i σ G => ∃ (ys : List V) (nss : List (List Int)) (v3 v4 v5 v6 : Option V), σ = [some (.ref c), some (.ref v), some (.ref L), v3, v4, v5, v6, none] ∧ Ex H G ∧ At G L (.lst ys) ∧ LLi G ys nss ∧ (∀ ns ∈ nss, InB cs ns) ∧ nss.length = i ∧ V.ref L ∉ ys)
      ⟨[], [], _, _, _, _, rfl, he1.trans he3, he3.get hp1, LLi.nil, fun ns h => by simp at h, rfl, by simp⟩ (fun _ σ' G _ _ => trivial) ?_ ?_
    · rintro i y σ' G G2 hi ⟨ys, nss, v3, v4, v5, v6, rfl, eG, hLG, hLL, hIn, hnl, hLy⟩ e2 rfl
      have hL2 := e2.get hLG
      have hLL2 := hLL.ex e2
      have hPL2 := (hPL.ex eG).ex e2
      have hyl := hLL.1
      have hi' : i < 512 := by
        rw [Int.toNat_natCast] at hi
        omega
      walk_at "go"
      rename_i J1 S1
      refine Z.cgI S1 (fun i => (cs.getD i (0, 0)).1) (fun H' e => by walk_at "fl") (by show _ ≤ 16777216; omega) (fun Dl j y G3 hj ec cd hy => ?_) (fun N G4 hN he4 hp4 => ?_) rfl
      · obtain ⟨u, g1, g2⟩ := hPL2.2 j (by omega)
        rw [g1] at hy
        cases hy
        have g3 := ec.get g2
        walk_at "go"
      rw [hxl] at hp4
      have hIn0 : InB cs ((List.range cs.length).map fun i => (cs.getD i (0, 0)).1) := ⟨by simp, fun j hj => by
        have e : ((List.range cs.length).map fun i => (cs.getD i (0, 0)).1).getD j 0 = (cs.getD j (0, 0)).1 := by
          rw [getD_get _ _ 0 (by simpa using hj), List.getElem_map, List.getElem_range]
        rw [e]
        have := bnd j hj
        unfold Bnd at this
        omega⟩
      generalize ((List.range cs.length).map fun i => (cs.getD i (0, 0)).1) = ns0 at *
      have fN : Fr H N := eG.back (e2.back hN)
      have hNL : L ≠ N := hL2.ne hN
      have hNy : V.ref N ∉ ys := fun hm => by
        obtain ⟨j, hj⟩ := List.getElem?_of_mem hm
        have hjl : j < ys.length := (List.getElem?_eq_some_iff.mp hj).1
        obtain ⟨u, g1, g2⟩ := hLL2.2 j (by omega)
        rw [g1] at hj
        cases hj
        exact g2.ne hN rfl
      have hL4 := he4.get hL2
      have hLL4 := hLL2.ex he4
      have hv4 : At G4 v (.lst (ts.map V.int)) := by walk_at "fx"
      walk_at "go"
      rename_i q5 G5 hq5 he5 hp5 q6 G6 hq6 he6 hp6 J2 S2
      refine Z.fg S2 (fun j σ G' => ∃ (ns : List Int) (left : Int) (v6 : Option V), σ = [some (.ref c), some (.ref v), some (.ref L), some (.int (i : Nat)), some (.ref N), some (.int left), v6, none] ∧ Ex H G' ∧ At G' q6 (.lst (ts.map V.int ++ [V.int (xs.length - 1)])) ∧ At G' N (.lst (ns.map V.int)) ∧ InB cs ns ∧ At G' L (.lst ys) ∧ LLi G' ys nss ∧ 0 ≤ left ∧ left < 512)
        ⟨ns0, (i : Nat), _, rfl, by walk_at "ex", hp6, by walk_at "fx", hIn0, by walk_at "fx", (hLL4.ex he5).ex he6, by omega, by omega⟩ (fun j σ' G' _ ⟨_, _, _, _, _, h, _⟩ => sq_of h) ?_ ?_
      · rintro j y σ' G7 G8 hj ⟨ns, left, w6, rfl, eG7, hq7, hN7, hI7, hL7, hLL7, hl0, hl1⟩ e8 hy
        have hq8 := e8.get hq7
        have hN8 := e8.get hN7
        have hL8 := e8.get hL7
        have hLL8 := hLL7.ex e8
        have hPL8 := (hPL.ex eG7).ex e8
        have eG8 := eG7.trans e8
        obtain ⟨t, rfl, ht0, ht1⟩ : ∃ t : Int, y = .int t ∧ 0 ≤ t ∧ t < cs.length := by
          have hm := List.mem_of_getElem? hy
          rcases List.mem_append.mp hm with hm | hm
          · obtain ⟨t, hm2, rfl⟩ := List.mem_map.mp hm
            exact ⟨t, rfl, htb t hm2⟩
          · rw [List.mem_singleton] at hm
            exact ⟨_, hm, by omega, by omega⟩
        have hnl8 := hI7.1
        have d0 := Int.ediv_nonneg hl0 (show (0 : Int) ≤ 2 by decide)
        have d1 : left / 2 < 512 := by omega
        have hbt := bnd t.toNat (by omega)
        unfold Bnd at hbt
        obtain ⟨tn, rfl⟩ := Int.eq_ofNat_of_zero_le ht0
        walk_at "go"
        refine Z.w_dec (fun h => ?_) (fun h => ?_)
        · walk_at "go"
          rename_i G9 hp9 hnl9 ho9 hke9
          refine ⟨_, _, _, rfl, hke9, ho9 q6 _ (by exact fun z => (he5.get hp4).ne hq6 z.symm) hq8, hp9, ?_, ho9 L _ hNL hL8, hLL8.of ho9 hNy, d0, d1⟩
          refine ⟨by rw [List.length_set]; exact hI7.1, fun z hz => ?_⟩
          rw [gset (by omega)]
          by_cases e : z = (tn : Int).toNat
          · rw [if_pos e, e]
            omega
          · rw [if_neg e]
            exact hI7.2 z hz
        · walk_at "go"
          exact ⟨_, _, _, rfl, eG8, hq8, hN8, hI7, hL8, hLL8, d0, d1⟩
      · rintro σ' G7 ⟨ns, left, w6, rfl, eG7, hq7, hN7, hI7, hL7, hLL7, hl0, hl1⟩
        walk_at "go"
        rename_i G9 hp9 hnl9 ho9 hke9
        refine ⟨_, nss ++ [ns], _, _, _, _, rfl, hke9, hp9, (hLL7.of ho9 hLy).snoc (ho9 N _ (Ne.symm hNL) hN7), fun z hz => ?_, by rw [List.length_append, hnl]; rfl, fun hm => ?_⟩
        · rcases List.mem_append.mp hz with hz | hz
          · exact hIn z hz
          · rw [List.mem_singleton] at hz
            rw [hz]
            exact hI7
        · rcases List.mem_append.mp hm with hm | hm
          · exact hLy hm
          · rw [List.mem_singleton] at hm
            cases hm
            exact hNL rfl
    · rintro σ' G ⟨ys, nss, v3, v4, v5, v6, rfl, eG, hLG, hLL, hIn, hnl, hLy⟩
      walk_at "go"
      exact k L G ys nss hL eG hLG hLL hIn (by rw [Int.toNat_natCast] at hnl; omega)

theorem InB.bt {cs : List (Int × Int)} {ns : List Int} (h : InB cs ns) (hB : ∀ b ∈ cs, Bnd b) : ∀ w ∈ ns, 1 ≤ w ∧ w < 1000000000000000000 := fun w hw => by
  obtain ⟨j, hj, rfl⟩ := List.mem_iff_getElem.mp hw
  have h1 := h.1
  have h2 := h.2 j (by omega)
  have h3 := hB (cs.getD j (0, 0)) (by rw [getD_get _ _ _ (by omega)]; exact List.getElem_mem _)
  rw [getD_get _ _ _ hj] at h2
  unfold Bnd at h3
  omega
theorem wp_bt {ws ps : List Int} (hw : ∀ w ∈ ws, w.natAbs < 2 ^ 64) (hp : ∀ p ∈ ps, p.natAbs < 2 ^ 64) (lot : List Int) (hl : lot.length ≤ 100) : (wpsum ws ps lot).natAbs < 2 ^ 300 := by
  have h := wpsum_btU hw hp lot
  refine Nat.lt_of_le_of_lt h (Nat.lt_of_le_of_lt (Nat.mul_le_mul_right _ hl) (by decide))
theorem wt_bt {ws : List Int} {a : Int} (hw : ∀ w ∈ ws, w.natAbs < 2 ^ 64) (ha : a.natAbs < 2 ^ 64) (lot : List Int) (hl : lot.length ≤ 100) : (a + wsum ws lot).natAbs < 2 ^ 300 := by
  have h : ∀ lot : List Int, (wsum ws lot).natAbs ≤ lot.length * 2 ^ 64 := fun lot => by
    induction lot with
    | nil => simp [wsum]
    | cons t r ih =>
      have e : wsum ws (t :: r) = ws.getD t.toNat 0 + wsum ws r := by simp [wsum]
      have hb : (ws.getD t.toNat 0).natAbs ≤ 2 ^ 64 := by
        by_cases h : t.toNat < ws.length
        · rw [getD_get _ _ _ h]
          exact Nat.le_of_lt (hw _ (List.getElem_mem _))
        · rw [List.getD_eq_getElem?_getD, List.getElem?_eq_none (by omega)]
          decide
      rw [e, List.length_cons, Nat.add_mul]
      have := Int.natAbs_add_le (ws.getD t.toNat 0) (wsum ws r)
      omega
  have h1 := h lot
  have h2 : lot.length * 2 ^ 64 ≤ 100 * 2 ^ 64 := Nat.mul_le_mul_right _ hl
  have h3 := Int.natAbs_add_le a (wsum ws lot)
  omega
def sp__law_right (K : PySem.W.Frag) : Sp := fun vs H Q _ => ∃ (v : V) (f s pl c P : Addr) (F S ps : List Int) (xs : List V) (cs : List (Int × Int)) (ys : List V) (nss : List (List Int)), vs = [v, .ref f, .ref s, .ref pl, .ref c, .ref P] ∧ SqT K H f (F.map V.int) ∧ SqT K H s (S.map V.int) ∧ IsLot ps.length F ∧ IsLot ps.length S ∧ SqL K H pl (ps.map V.int) ∧ ps.length ≤ 24 ∧ (∀ p ∈ ps, p.natAbs < 2 ^ 64) ∧ SqL K H c xs ∧ PL H xs cs ∧ (∀ b ∈ cs, Bnd b) ∧ cs.length = ps.length + 1 ∧ SqL K H P ys ∧ LLi H ys nss ∧ (∀ ns ∈ nss, InB cs ns) ∧
  ((v = .non ∧ ∀ ns, InB cs ns → 0 ≤ fcr ns ps F S (ns.getD ps.length 0)) ∨ ∃ t wl ws a, v = .ref t ∧ At H t (.tup [.ref wl, .int a]) ∧ At H wl (.lst (ws.map V.int)) ∧ ws.length = ps.length ∧ (∀ t, t < ps.length → ws.getD t 0 = (cs.getD t (0, 0)).1 ∨ ws.getD t 0 = (cs.getD t (0, 0)).2) ∧ (a = (cs.getD ps.length (0, 0)).1 ∨ a = (cs.getD ps.length (0, 0)).2) ∧ fcr ws ps F S a < 0) ∧
  ∀ H', Ex H H' → Q (.bl true) H'
theorem ok__law_right (T : Tx P K mg) : FnOk P w K mg base (L2.CX P w) 2 (He.ga K "_law_right") (Z.fdOf K (He.ga K "_law_right")) ["_law_told", "_law_first", "_law_second", "_law_prices", "_law_couples", "_law_points"] (sp__law_right K) := by
  refine T.F__law_right.ok sc__law_right (fun vs H Q E h => ?_) (fun cdv A outer s H vs Q E hr h => ?_)
  · obtain ⟨v, f, s, pl, c, P, F, S, ps, xs, cs, ys, nss, rfl, _⟩ := h
    rfl
  · obtain ⟨v, f, sa, pl, c, P, F, S, ps, xs, cs, ys, nss, rfl, hf, hs0, hF, hS, hp, hpl, hpb, hc, hPL, hB, hcl, hP, hLL, hIn, hv, k⟩ := h
    have hxl := hPL.1
    have hFl := hF.len
    have hSl := hS.len
    rcases hv with ⟨rfl, hz⟩ | ⟨t, wl, ws, a, rfl, ht, hwl, hwsl, hws, ha, hlt⟩
    · skip
      refine ⟨_, PSs.nox (pss_cons (ps_set (i := 6) sc__law_right.nd rfl (Or.inl rfl) (pe_callB (Z.call_len (K := K) rfl) (by rfl) T.n_len (by decide +kernel) (pa_cons (pv 3) pa_nil)))
      (pss_cons (ps_if (pt_cmp (pc_isN (pv 0))) (pss_cons (ps_for PassesOwn.never rfl (Z.piL (K := K) rfl (pv 5)) (pg_name (i := 7) sc__law_right.nd rfl (by first | exact Or.inl rfl | exact Or.inr rfl)) (pss_cons (ps_set (i := 8) sc__law_right.nd rfl (Or.inl rfl) (pe_call (ok__law_worth T) (hr.mono (by decide)) (by rfl) T.g__law_worth T.F__law_worth.kp T.b__law_worth .nil passL (pa_cons (pv 7) (pa_cons (pe_ix (Z.ix (K := K) rfl) (pv 7) (pv 6) (fun _ _ => rfl)) (pa_cons (pv 3) (pa_cons (pv 1) pa_nil))))))
      (pss_one (ps_if (pt_val (pe_call (ok__law_below T) (hr.mono (by decide)) (by rfl) T.g__law_below T.F__law_below.kp T.b__law_below .nil passL (pa_cons (pv 8) (pa_cons (pe_call (ok__law_worth T) (hr.mono (by decide)) (by rfl) T.g__law_worth T.F__law_worth.kp T.b__law_worth .nil passL (pa_cons (pv 7) (pa_cons (pe_ix (Z.ix (K := K) rfl) (pv 7) (pv 6) (fun _ _ => rfl)) (pa_cons (pv 3) (pa_cons (pv 2) pa_nil))))) pa_nil)))) (pss_one (ps_ret pe_bl)) pss_nil))))
      (pss_one (ps_ret pe_bl))) pss_nil)
      (pss_cons (ps_if (PW.pt (pw_or (pt_not (pt_val (pe_callB (Z.call_isi (K := K) rfl) (by rfl) T.n_isinstance (by decide +kernel) (pa_cons (pv 0) (pa_cons (pe_bltn (v := .ty "tuple") (u := .type "tuple") (by rfl) T.n_tuple (by decide +kernel) rfl) pa_nil))))) (pw_or1 (pt_cmpR (Z.op_ne (K := K) rfl hr.units) (pe_callB (Z.call_len (K := K) rfl) (by rfl) T.n_len (by decide +kernel) (pa_cons (pv 0) pa_nil)) pe_int (nomark _))))) (pss_one (ps_ret pe_bl)) pss_nil)
      (pss_cons (ps_if (PW.pt (pw_or (pt_not (pt_val (pe_callB (Z.call_isi (K := K) rfl) (by rfl) T.n_isinstance (by decide +kernel) (pa_cons (pe_ix (Z.ix (K := K) rfl) (pv 0) pe_int (fun _ _ => rfl)) (pa_cons (pe_bltn (v := .ty "list") (u := .type "list") (by rfl) T.n_list (by decide +kernel) rfl) pa_nil))))) (pw_or1 (pt_cmpR (Z.op_ne (K := K) rfl hr.units) (pe_callB (Z.call_len (K := K) rfl) (by rfl) T.n_len (by decide +kernel) (pa_cons (pe_ix (Z.ix (K := K) rfl) (pv 0) pe_int (fun _ _ => rfl)) pa_nil)) (pv 6) (nomark _))))) (pss_one (ps_ret pe_bl)) pss_nil)
      (pss_cons (ps_set (i := 7) sc__law_right.nd rfl (Or.inl rfl) (pe_op Z.op_add (pe_callTy (Z.call_list (K := K) rfl) (by rfl) T.n_list (by decide +kernel) (pa_cons (pe_ix (Z.ix (K := K) rfl) (pv 0) pe_int (fun _ _ => rfl)) pa_nil)) (pe_lst (pa_cons (pe_ix (Z.ix (K := K) rfl) (pv 0) pe_int (fun _ _ => rfl)) pa_nil))))
      (pss_cons (ps_for PassesOwn.never rfl (pi_range1 (by rfl) T.n_range (pa_cons (pe_op Z.op_add (pv 6) pe_int) pa_nil)) (pg_name (i := 9) sc__law_right.nd rfl (by first | exact Or.inl rfl | exact Or.inr rfl)) (pss_one (ps_if (PW.pt (pw_or (pt_not (pt_val (pe_call (ok__law_is_int T) (hr.mono (by decide)) (by rfl) T.g__law_is_int T.F__law_is_int.kp T.b__law_is_int .nil passL (pa_cons (pe_ix (Z.ix (K := K) rfl) (pv 7) (pv 9) (fun _ _ => rfl)) pa_nil)))) (pw_or1 (PW.pt (pw_and (pt_cmpR (Z.op_ne (K := K) rfl hr.units) (pe_ix (Z.ix (K := K) rfl) (pv 7) (pv 9) (fun _ _ => rfl)) (pe_ix (Z.ix (K := K) rfl) (pe_ix (Z.ix (K := K) rfl) (pv 4) (pv 9) (fun _ _ => rfl)) pe_int (fun _ _ => rfl)) (nomark _)) (pw_and1 (pt_cmpR (Z.op_ne (K := K) rfl hr.units) (pe_ix (Z.ix (K := K) rfl) (pv 7) (pv 9) (fun _ _ => rfl)) (pe_ix (Z.ix (K := K) rfl) (pe_ix (Z.ix (K := K) rfl) (pv 4) (pv 9) (fun _ _ => rfl)) pe_int (fun _ _ => rfl)) (nomark _)))))))) (pss_one (ps_ret pe_bl)) pss_nil)))
      (pss_cons (ps_set (i := 8) sc__law_right.nd rfl (Or.inl rfl) (pe_call (ok__law_worth T) (hr.mono (by decide)) (by rfl) T.g__law_worth T.F__law_worth.kp T.b__law_worth .nil passL (pa_cons (pv 7) (pa_cons (pe_ix (Z.ix (K := K) rfl) (pv 7) (pv 6) (fun _ _ => rfl)) (pa_cons (pv 3) (pa_cons (pv 1) pa_nil))))))
      (pss_one (ps_ret (pe_call (ok__law_below T) (hr.mono (by decide)) (by rfl) T.g__law_below T.F__law_below.kp T.b__law_below .nil passL (pa_cons (pv 8) (pa_cons (pe_call (ok__law_worth T) (hr.mono (by decide)) (by rfl) T.g__law_worth T.F__law_worth.kp T.b__law_worth .nil passL (pa_cons (pv 7) (pa_cons (pe_ix (Z.ix (K := K) rfl) (pv 7) (pv 6) (fun _ _ => rfl)) (pa_cons (pv 3) (pa_cons (pv 2) pa_nil))))) pa_nil)))))))))))), ?_⟩
      try dsimp only [cxOf, Cx.nox, Cx.wish]
      try (show (_ : TS) _ [some _, some _, some _, some _, some _, some _, none, none, none, none] _)
      walk_at "go"
      rename_i J S1
      refine Z.fg S1 (fun i σ G => ∃ (v7 v8 : Option V), σ = [some .non, some (.ref f), some (.ref sa), some (.ref pl), some (.ref c), some (.ref P), some (.int ps.length), v7, v8, none] ∧ Ex H G) ⟨none, none, rfl, Ex.refl _⟩ (fun i σ' G _ ⟨_, _, _, e⟩ => e.l hP) ?_ ?_
      · rintro i y σ' G G2 hi ⟨v7, v8, rfl, eG⟩ e2 hy
        have e2' := eG.trans e2
        have hyl := hLL.1
        obtain ⟨u, g1, g2⟩ := hLL.2 i (by omega)
        rw [g1] at hy
        cases hy
        have g3 := e2'.get g2
        have hm : nss.getD i [] ∈ nss := by rw [getD_get _ _ _ (by omega)]; exact List.getElem_mem _
        have hI := hIn _ hm
        have h0 := hz _ hI
        have hb := hI.bt hB
        have hnl := hI.1
        generalize nss.getD i [] = ns at *
        have a1 : 1 ≤ ns.getD ps.length 0 ∧ ns.getD ps.length 0 < 1000000000000000000 := by rw [getD_get _ _ _ (by omega)]; exact hb _ (List.getElem_mem _)
        walk_at "go"
        refine ⟨u, pl, f, ns, ps, _, F, rfl, sq_of g3, by walk_at "fl", .inr (by walk_at "ft"), fun t ht => ?_, hpb, fun p3 H3 hn3 he3 hp3 => ?_⟩
        · have := hF.2 t ht
          omega
        walk_at "go"
        refine ⟨u, pl, sa, ns, ps, _, S, rfl, by walk_at "fl", by walk_at "fl", .inr (by walk_at "ft"), fun t ht => ?_, hpb, fun p4 H4 hn4 he4 hp4 => ?_⟩
        · have := hS.2 t ht
          omega
        have hw : ∀ w ∈ ns, w.natAbs < 2 ^ 64 := fun w hw => by have := hb w hw; omega
        have b1 := wp_bt hw hpb F (by omega)
        have b2 := wp_bt hw hpb S (by omega)
        have b3 := wt_bt hw (show (ns.getD ps.length 0).natAbs < 2 ^ 64 by omega) F (by omega)
        have b4 := wt_bt hw (show (ns.getD ps.length 0).natAbs < 2 ^ 64 by omega) S (by omega)
        walk_at "go"
        refine ⟨p3, p4, _, _, _, _, rfl, by walk_at "ft", by walk_at "ft", b1, b3, b2, b4, ?_⟩
        unfold fcr at h0
        walk_at "go"
        refine Z.w_decF (by omega) ?_
        walk_at "go"
        exact ⟨_, _, rfl, by walk_at "ex"⟩
      · rintro σ' G ⟨v7, v8, rfl, eG⟩
        walk_at "go"
        exact k _ eG
    · skip
      refine ⟨_, PSs.nox (pss_cons (ps_set (i := 6) sc__law_right.nd rfl (Or.inl rfl) (pe_callB (Z.call_len (K := K) rfl) (by rfl) T.n_len (by decide +kernel) (pa_cons (pv 3) pa_nil)))
      (pss_cons (ps_if (pt_cmp (pc_isN (pv 0))) (pss_cons (ps_for PassesOwn.never rfl (Z.piL (K := K) rfl (pv 5)) (pg_name (i := 7) sc__law_right.nd rfl (by first | exact Or.inl rfl | exact Or.inr rfl)) (pss_cons (ps_set (i := 8) sc__law_right.nd rfl (Or.inl rfl) (pe_call (ok__law_worth T) (hr.mono (by decide)) (by rfl) T.g__law_worth T.F__law_worth.kp T.b__law_worth .nil passL (pa_cons (pv 7) (pa_cons (pe_ix (Z.ix (K := K) rfl) (pv 7) (pv 6) (fun _ _ => rfl)) (pa_cons (pv 3) (pa_cons (pv 1) pa_nil))))))
      (pss_one (ps_if (pt_val (pe_call (ok__law_below T) (hr.mono (by decide)) (by rfl) T.g__law_below T.F__law_below.kp T.b__law_below .nil passL (pa_cons (pv 8) (pa_cons (pe_call (ok__law_worth T) (hr.mono (by decide)) (by rfl) T.g__law_worth T.F__law_worth.kp T.b__law_worth .nil passL (pa_cons (pv 7) (pa_cons (pe_ix (Z.ix (K := K) rfl) (pv 7) (pv 6) (fun _ _ => rfl)) (pa_cons (pv 3) (pa_cons (pv 2) pa_nil))))) pa_nil)))) (pss_one (ps_ret pe_bl)) pss_nil))))
      (pss_one (ps_ret pe_bl))) pss_nil)
      (pss_cons (ps_if (PW.pt (pw_or (pt_not (pt_val (pe_callB (Z.call_isi (K := K) rfl) (by rfl) T.n_isinstance (by decide +kernel) (pa_cons (pv 0) (pa_cons (pe_bltn (v := .ty "tuple") (u := .type "tuple") (by rfl) T.n_tuple (by decide +kernel) rfl) pa_nil))))) (pw_or1 (pt_cmpR (Z.op_ne (K := K) rfl hr.units) (pe_callB (Z.call_len (K := K) rfl) (by rfl) T.n_len (by decide +kernel) (pa_cons (pv 0) pa_nil)) pe_int (nomark _))))) (pss_one (ps_ret pe_bl)) pss_nil)
      (pss_cons (ps_if (PW.pt (pw_or (pt_not (pt_val (pe_callB (Z.call_isi (K := K) rfl) (by rfl) T.n_isinstance (by decide +kernel) (pa_cons (pe_ix (Z.ix (K := K) rfl) (pv 0) pe_int (fun _ _ => rfl)) (pa_cons (pe_bltn (v := .ty "list") (u := .type "list") (by rfl) T.n_list (by decide +kernel) rfl) pa_nil))))) (pw_or1 (pt_cmpR (Z.op_ne (K := K) rfl hr.units) (pe_callB (Z.call_len (K := K) rfl) (by rfl) T.n_len (by decide +kernel) (pa_cons (pe_ix (Z.ix (K := K) rfl) (pv 0) pe_int (fun _ _ => rfl)) pa_nil)) (pv 6) (nomark _))))) (pss_one (ps_ret pe_bl)) pss_nil)
      (pss_cons (ps_set (i := 7) sc__law_right.nd rfl (Or.inl rfl) (pe_op Z.op_add (pe_callTy (Z.call_list (K := K) rfl) (by rfl) T.n_list (by decide +kernel) (pa_cons (pe_ix (Z.ix (K := K) rfl) (pv 0) pe_int (fun _ _ => rfl)) pa_nil)) (pe_lst (pa_cons (pe_ix (Z.ix (K := K) rfl) (pv 0) pe_int (fun _ _ => rfl)) pa_nil))))
      (pss_cons (ps_for PassesOwn.never rfl (pi_range1 (by rfl) T.n_range (pa_cons (pe_op Z.op_add (pv 6) pe_int) pa_nil)) (pg_name (i := 9) sc__law_right.nd rfl (by first | exact Or.inl rfl | exact Or.inr rfl)) (pss_one (ps_if (PW.pt (pw_or (pt_not (pt_val (pe_call (ok__law_is_int T) (hr.mono (by decide)) (by rfl) T.g__law_is_int T.F__law_is_int.kp T.b__law_is_int .nil passL (pa_cons (pe_ix (Z.ix (K := K) rfl) (pv 7) (pv 9) (fun _ _ => rfl)) pa_nil)))) (pw_or1 (PW.pt (pw_and (pt_cmpR (Z.op_ne (K := K) rfl hr.units) (pe_ix (Z.ix (K := K) rfl) (pv 7) (pv 9) (fun _ _ => rfl)) (pe_ix (Z.ix (K := K) rfl) (pe_ix (Z.ix (K := K) rfl) (pv 4) (pv 9) (fun _ _ => rfl)) pe_int (fun _ _ => rfl)) (nomark _)) (pw_and1 (pt_cmpR (Z.op_ne (K := K) rfl hr.units) (pe_ix (Z.ix (K := K) rfl) (pv 7) (pv 9) (fun _ _ => rfl)) (pe_ix (Z.ix (K := K) rfl) (pe_ix (Z.ix (K := K) rfl) (pv 4) (pv 9) (fun _ _ => rfl)) pe_int (fun _ _ => rfl)) (nomark _)))))))) (pss_one (ps_ret pe_bl)) pss_nil)))
      (pss_cons (ps_set (i := 8) sc__law_right.nd rfl (Or.inl rfl) (pe_call (ok__law_worth T) (hr.mono (by decide)) (by rfl) T.g__law_worth T.F__law_worth.kp T.b__law_worth .nil passL (pa_cons (pv 7) (pa_cons (pe_ix (Z.ix (K := K) rfl) (pv 7) (pv 6) (fun _ _ => rfl)) (pa_cons (pv 3) (pa_cons (pv 1) pa_nil))))))
      (pss_one (ps_ret (pe_call (ok__law_below T) (hr.mono (by decide)) (by rfl) T.g__law_below T.F__law_below.kp T.b__law_below .nil passL (pa_cons (pv 8) (pa_cons (pe_call (ok__law_worth T) (hr.mono (by decide)) (by rfl) T.g__law_worth T.F__law_worth.kp T.b__law_worth .nil passL (pa_cons (pv 7) (pa_cons (pe_ix (Z.ix (K := K) rfl) (pv 7) (pv 6) (fun _ _ => rfl)) (pa_cons (pv 3) (pa_cons (pv 2) pa_nil))))) pa_nil)))))))))))), ?_⟩
      try dsimp only [cxOf, Cx.nox, Cx.wish]
      try (show (_ : TS) _ [some _, some _, some _, some _, some _, some _, none, none, none, none] _)
      walk_at "go"
      refine Z.w_ndecF (by rfl) ?_
      walk_at "go"
      refine Z.w_ndecF (by omega) ?_
      walk_at "go"
      rename_i p1 H1 hn1 he1 hp1 p2 H2 hn2 he2 hp2 p3 H3 hn3 he3 hp3 J S1
      have hp3' : At H3 p3 (.lst ((ws ++ [a]).map V.int)) := hp3.l (by rw [List.map_append]; rfl)
      have hal : (ws ++ [a]).length = ps.length + 1 := by rw [List.length_append, hwsl]; rfl
      have hag : ∀ i, i < ps.length + 1 → (ws ++ [a]).getD i 0 = (cs.getD i (0, 0)).1 ∨ (ws ++ [a]).getD i 0 = (cs.getD i (0, 0)).2 := fun i hi => by
        by_cases h : i < ps.length
        · rw [gsn_lt (by omega)]
          exact hws i h
        · have : i = ps.length := by omega
          subst this
          rw [gsn_eq hwsl]
          exact ha
      have hlast : (ws ++ [a]).getD ps.length 0 = a := gsn_eq hwsl
      have hcg : fcr (ws ++ [a]) ps F S a = fcr ws ps F S a := fcr_congr fun t ht => gsn_lt (by
        rcases ht with ht | ht
        · have := hF.2 t ht; omega
        · have := hS.2 t ht; omega)
      rw [← hcg] at hlt
      have hIb : ∀ w ∈ ws ++ [a], w.natAbs < 2 ^ 64 := fun w hw => by
        obtain ⟨j, hj, rfl⟩ := List.mem_iff_getElem.mp hw
        have h2 := hag j (by omega)
        have h3 := hB (cs.getD j (0, 0)) (by rw [getD_get _ _ _ (by omega)]; exact List.getElem_mem _)
        rw [getD_get _ _ _ hj] at h2
        unfold Bnd at h3
        omega
      generalize ws ++ [a] = ns at *
      clear hp3 hcg
      refine Z.fg S1 (fun i σ G => ∃ (v9 : Option V), σ = [some (.ref t), some (.ref f), some (.ref sa), some (.ref pl), some (.ref c), some (.ref P), some (.int ps.length), some (.ref p3), none, v9] ∧ Ex H3 G) ⟨none, rfl, Ex.refl _⟩ (fun i σ' G _ _ => trivial) ?_ ?_
      · rintro i y σ' G G2 hi ⟨v9, rfl, eG⟩ e2 rfl
        have hi' : i < ps.length + 1 := by omega
        obtain ⟨u, g1, g2⟩ := hPL.2 i (by omega)
        have g3 : At G2 u (.tup [.int (cs.getD i (0, 0)).1, .int (cs.getD i (0, 0)).2]) := by walk_at "fx"
        have hg := hag i hi'
        have hPL2 : PL G2 xs cs := hPL.ex (by walk_at "ex")
        walk_at "go"
        simp only [Int.toNat_natCast] at *
        refine Z.w_ndec (fun h => ?_) (fun h => ?_)
        · walk_at "go"
          simp only [Int.toNat_natCast] at *
          refine Z.w_ndecF (by omega) ?_
          walk_at "go"
          exact ⟨_, rfl, by walk_at "ex"⟩
        · walk_at "go"
          exact ⟨_, rfl, by walk_at "ex"⟩
      · rintro σ' G ⟨v9, rfl, eG⟩
        have b1 := wp_bt hIb hpb F (by omega)
        have b2 := wp_bt hIb hpb S (by omega)
        have hab : a.natAbs < 2 ^ 64 := by rw [← hlast, getD_get _ _ _ (show ps.length < ns.length by omega)]; exact hIb _ (List.getElem_mem _)
        have b3 := wt_bt hIb hab F (by omega)
        have b4 := wt_bt hIb hab S (by omega)
        walk_at "go"
        rw [hlast]
        refine ⟨p3, pl, f, ns, ps, _, F, rfl, by walk_at "fl", by walk_at "fl", .inr (by walk_at "ft"), fun t ht => ?_, hpb, fun p5 H5 hn5 he5 hp5 => ?_⟩
        · have := hF.2 t ht
          omega
        walk_at "go"
        rw [hlast]
        refine ⟨p3, pl, sa, ns, ps, _, S, rfl, by walk_at "fl", by walk_at "fl", .inr (by walk_at "ft"), fun t ht => ?_, hpb, fun p6 H6 hn6 he6 hp6 => ?_⟩
        · have := hS.2 t ht
          omega
        walk_at "go"
        refine ⟨p5, p6, _, _, _, _, rfl, by walk_at "ft", by walk_at "ft", b1, b3, b2, b4, ?_⟩
        unfold fcr at hlt
        rw [decide_eq_true (by omega)]
        walk_at "go"
        exact k _ (by walk_at "ex")

/-- the very same tuple of ints -/
def sp__law_same_lot (K : PySem.W.Frag) : Sp := fun vs H Q _ => ∃ (a b : Addr) (ns : List Int), vs = [.ref a, .ref b] ∧ At H a (.tup (ns.map V.int)) ∧ SqA K H b (ns.map V.int) ∧ ns.length ≤ 100000 ∧ ∀ H', Ex H H' → Q (.bl true) H'
theorem ok__law_same_lot (T : Tx P K mg) : FnOk P w K mg base (L2.CX P w) 2 (He.ga K "_law_same_lot") (Z.fdOf K (He.ga K "_law_same_lot")) ["_law_x", "_law_due"] (sp__law_same_lot K) := by
  refine T.F__law_same_lot.ok sc__law_same_lot (fun vs H Q E h => ?_) (fun cdv A outer s H vs Q E hr h => ?_)
  · obtain ⟨a, b, ns, rfl, _⟩ := h
    rfl
  · obtain ⟨a, b, ns, rfl, ha, hb, hl, k⟩ := h
    rcases hb with hb | hb
    · skip
      refine ⟨_, PSs.nox (pss_cons (ps_if (PW.pt (pw_or (pt_not (pt_val (pe_callB (Z.call_isi (K := K) rfl) (by rfl) T.n_isinstance (by decide +kernel) (pa_cons (pv 0) (pa_cons (pe_bltn (v := .ty "tuple") (u := .type "tuple") (by rfl) T.n_tuple (by decide +kernel) rfl) pa_nil))))) (pw_or1 (pt_cmpR (Z.op_ne (K := K) rfl hr.units) (pe_callB (Z.call_len (K := K) rfl) (by rfl) T.n_len (by decide +kernel) (pa_cons (pv 0) pa_nil)) (pe_callB (Z.call_len (K := K) rfl) (by rfl) T.n_len (by decide +kernel) (pa_cons (pv 1) pa_nil)) (nomark _))))) (pss_one (ps_ret pe_bl)) pss_nil)
      (pss_cons (ps_for PassesOwn.never rfl (pi_range1 (by rfl) T.n_range (pa_cons (pe_callB (Z.call_len (K := K) rfl) (by rfl) T.n_len (by decide +kernel) (pa_cons (pv 1) pa_nil)) pa_nil)) (pg_name (i := 2) sc__law_same_lot.nd rfl (by first | exact Or.inl rfl | exact Or.inr rfl)) (pss_one (ps_if (PW.pt (pw_or (pt_not (pt_val (pe_call (ok__law_is_int T) (hr.mono (by decide)) (by rfl) T.g__law_is_int T.F__law_is_int.kp T.b__law_is_int .nil passL (pa_cons (pe_ix (Z.ix (K := K) rfl) (pv 0) (pv 2) (fun _ _ => rfl)) pa_nil)))) (pw_or1 (pt_cmpR (Z.op_ne (K := K) rfl hr.units) (pe_ix (Z.ix (K := K) rfl) (pv 0) (pv 2) (fun _ _ => rfl)) (pe_ix (Z.ix (K := K) rfl) (pv 1) (pv 2) (fun _ _ => rfl)) (nomark _))))) (pss_one (ps_ret pe_bl)) pss_nil)))
      (pss_one (ps_ret pe_bl)))), ?_⟩
      try dsimp only [cxOf, Cx.nox, Cx.wish]
      try (show (_ : TS) _ [some _, some _, none] _)
      walk_at "go"
      walk_at "run"
      refine Z.fgE 2 (by assumption) rfl (fun G _ => trivial) (fun i x G v hi e hz => ?_) (fun v G e => ?_)
      · subst hz
        have hi' : i < ns.length := by simpa using hi
        walk_at "run"
        exact ⟨⟨_, rfl⟩, by walk_at "ex"⟩
      · walk_at "run"
        exact k _ e
    · skip
      refine ⟨_, PSs.nox (pss_cons (ps_if (PW.pt (pw_or (pt_not (pt_val (pe_callB (Z.call_isi (K := K) rfl) (by rfl) T.n_isinstance (by decide +kernel) (pa_cons (pv 0) (pa_cons (pe_bltn (v := .ty "tuple") (u := .type "tuple") (by rfl) T.n_tuple (by decide +kernel) rfl) pa_nil))))) (pw_or1 (pt_cmpR (Z.op_ne (K := K) rfl hr.units) (pe_callB (Z.call_len (K := K) rfl) (by rfl) T.n_len (by decide +kernel) (pa_cons (pv 0) pa_nil)) (pe_callB (Z.call_len (K := K) rfl) (by rfl) T.n_len (by decide +kernel) (pa_cons (pv 1) pa_nil)) (nomark _))))) (pss_one (ps_ret pe_bl)) pss_nil)
      (pss_cons (ps_for PassesOwn.never rfl (pi_range1 (by rfl) T.n_range (pa_cons (pe_callB (Z.call_len (K := K) rfl) (by rfl) T.n_len (by decide +kernel) (pa_cons (pv 1) pa_nil)) pa_nil)) (pg_name (i := 2) sc__law_same_lot.nd rfl (by first | exact Or.inl rfl | exact Or.inr rfl)) (pss_one (ps_if (PW.pt (pw_or (pt_not (pt_val (pe_call (ok__law_is_int T) (hr.mono (by decide)) (by rfl) T.g__law_is_int T.F__law_is_int.kp T.b__law_is_int .nil passL (pa_cons (pe_ix (Z.ix (K := K) rfl) (pv 0) (pv 2) (fun _ _ => rfl)) pa_nil)))) (pw_or1 (pt_cmpR (Z.op_ne (K := K) rfl hr.units) (pe_ix (Z.ix (K := K) rfl) (pv 0) (pv 2) (fun _ _ => rfl)) (pe_ix (Z.ix (K := K) rfl) (pv 1) (pv 2) (fun _ _ => rfl)) (nomark _))))) (pss_one (ps_ret pe_bl)) pss_nil)))
      (pss_one (ps_ret pe_bl)))), ?_⟩
      try dsimp only [cxOf, Cx.nox, Cx.wish]
      try (show (_ : TS) _ [some _, some _, none] _)
      walk_at "go"
      walk_at "run"
      refine Z.fgE 2 (by assumption) rfl (fun G _ => trivial) (fun i x G v hi e hz => ?_) (fun v G e => ?_)
      · subst hz
        have hi' : i < ns.length := by simpa using hi
        walk_at "run"
        exact ⟨⟨_, rfl⟩, by walk_at "ex"⟩
      · walk_at "run"
        exact k _ e
theorem u_samelot {H : Hp} {Q : VK} {E : XK} {a b : Addr} {ns : List Int} (ha : At H a (.tup (ns.map V.int))) (hb : SqT K H b (ns.map V.int)) (hl : ns.length ≤ 100000) (k : ∀ H', Ex H H' → Q (.bl true) H') : sp__law_same_lot K [.ref a, .ref b] H Q E := ⟨a, b, ns, rfl, ha, .inr hb, hl, k⟩
theorem u_samelotA {H : Hp} {Q : VK} {E : XK} {a b : Addr} {ns : List Int} (ha : At H a (.tup (ns.map V.int))) (hb : SqA K H b (ns.map V.int)) (hl : ns.length ≤ 100000) (k : ∀ H', Ex H H' → Q (.bl true) H') : sp__law_same_lot K [.ref a, .ref b] H Q E := ⟨a, b, ns, rfl, ha, hb, hl, k⟩

def sp_Unsure___init__ (K : PySem.W.Frag) : Sp := fun vs H Q E => ∃ (H0 : Hp) (x dx l h p : Addr) (ls hs : List Int) (a0 a1 : Int), vs = [.ref x, .ref l, .ref h, .ref p] ∧ At H x (.ins (He.ga K "Unsure") dx []) ∧ Fr H0 x ∧ Ex H0 H ∧ SqL K H0 l (ls.map V.int) ∧ SqL K H0 h (hs.map V.int) ∧ SqT K H0 p [.int a0, .int a1] ∧ ls.length ≤ 100 ∧
  UErr K (uOut ls hs a0 a1) E H0 ∧ (uOut ls hs a0 a1 = .made → ∀ H', Ex H0 H' → UR K H' x ls hs a0 a1 → Q .non H')
theorem ok_Unsure___init__ (T : Tx P K mg) : FnOk P w K mg base (L2.CX P w) 3 (He.ma K (He.ga K "Unsure") "__init__") (Z.fdOf K (He.ma K (He.ga K "Unsure") "__init__")) ["self", "lows", "highs", "aside"] (sp_Unsure___init__ K) := by
  refine T.F_Unsure___init__.ok sc_Unsure___init__ (fun vs H Q E h => ?_) (fun cdv A outer s H vs Q E hr h => ?_)
  · obtain ⟨H0, x, dx, l, h, p, ls, hs, a0, a1, rfl, _⟩ := h
    rfl
  · obtain ⟨H0, x, dx, l, h, p, ls, hs, a0, a1, rfl, hx, hf, e0, hl, hh, hp, hlen, hE, k⟩ := h
    have hl1 := e0.l hl
    have hh1 := e0.l hh
    have hp1 := e0.t hp
    have fx0 := T.o_Unsure.cl
    have fx1 := T.na_Unsure_aside
    have fx2 := T.na_Unsure_highs
    have fx3 := T.na_Unsure_lows
    have fx4 := T.na_Unsure_many
    have fx5 := T.k_Unsure_MOST
    refine ⟨_, (pss_cons (ps_if (pt_cmpR Z.op_gt (pe_callB (Z.call_len (K := K) rfl) (by rfl) T.n_len (by decide +kernel) (pa_cons (pv 1) pa_nil)) (Z.con (K := K) rfl (pv 0) rfl) (nomark _)) (pss_one (Z.ps_raiseZ rfl (takes_of rfl rfl rfl rfl) (pmk_oex T.oe_TooMany T.si_TooMany.2.2.1 T.si_TooMany.2.2.2 (ok_TooMany___init__ T) (hr.mono (by decide)) T.b_TooMany___init__ .nil passL (by rfl) T.g_TooMany (pa_cons (pe_callB (Z.call_len (K := K) rfl) (by rfl) T.n_len (by decide +kernel) (pa_cons (pv 1) pa_nil)) (pa_cons (Z.con (K := K) rfl (pv 0) rfl) pa_nil))))) pss_nil)
      (pss_cons (ps_if (pt_cmpR (Z.op_ne (K := K) rfl hr.units) (pe_callB (Z.call_len (K := K) rfl) (by rfl) T.n_len (by decide +kernel) (pa_cons (pv 2) pa_nil)) (pe_callB (Z.call_len (K := K) rfl) (by rfl) T.n_len (by decide +kernel) (pa_cons (pv 1) pa_nil)) (nomark _)) (pss_one (Z.ps_raiseZ rfl (takes_of rfl rfl rfl rfl) (pmk_oex T.oe_BadNumber T.si_BadNumber.2.2.1 T.si_BadNumber.2.2.2 (ok_BadNumber___init__ T) (hr.mono (by decide)) T.b_BadNumber___init__ .nil passL (by rfl) T.g_BadNumber (pa_cons pe_str (pa_cons pe_non pa_nil))))) pss_nil)
      (pss_cons (ps_for (passes_of rfl) rfl (pi_enum (by rfl) T.n_enumerate (pa_cons (pv 1) pa_nil)) (pg_tup (by rfl) (pgs_cons (pg_name (i := 4) sc_Unsure___init__.nd rfl (by first | exact Or.inl rfl | exact Or.inr rfl)) (pgs_cons (pg_name (i := 5) sc_Unsure___init__.nd rfl (by first | exact Or.inl rfl | exact Or.inr rfl)) pgs_nil))) (pss_cons (ps_if (pt_cmpR Z.op_lt (pv 5) pe_int (nomark _)) (pss_one (Z.ps_raiseZ rfl (takes_of rfl rfl rfl rfl) (pmk_oex T.oe_BadNumber T.si_BadNumber.2.2.1 T.si_BadNumber.2.2.2 (ok_BadNumber___init__ T) (hr.mono (by decide)) T.b_BadNumber___init__ .nil passL (by rfl) T.g_BadNumber (pa_cons pe_str (pa_cons (pv 4) pa_nil))))) pss_nil)
      (pss_one (ps_if (pt_cmpR Z.op_lt (pe_ix (Z.ix (K := K) rfl) (pv 2) (pv 4) (fun _ _ => rfl)) (pv 5) (nomark _)) (pss_one (Z.ps_raiseZ rfl (takes_of rfl rfl rfl rfl) (pmk_oex T.oe_BadNumber T.si_BadNumber.2.2.1 T.si_BadNumber.2.2.2 (ok_BadNumber___init__ T) (hr.mono (by decide)) T.b_BadNumber___init__ .nil passL (by rfl) T.g_BadNumber (pa_cons pe_str (pa_cons (pv 4) pa_nil))))) pss_nil))))
      (pss_cons (ps_if (pt_cmpR Z.op_lt (pe_ix (Z.ix (K := K) rfl) (pv 3) pe_int (fun _ _ => rfl)) pe_int (nomark _)) (pss_one (Z.ps_raiseZ rfl (takes_of rfl rfl rfl rfl) (pmk_oex T.oe_BadNumber T.si_BadNumber.2.2.1 T.si_BadNumber.2.2.2 (ok_BadNumber___init__ T) (hr.mono (by decide)) T.b_BadNumber___init__ .nil passL (by rfl) T.g_BadNumber (pa_cons pe_str (pa_cons pe_int pa_nil))))) pss_nil)
      (pss_cons (ps_if (pt_cmpR Z.op_lt (pe_ix (Z.ix (K := K) rfl) (pv 3) pe_int (fun _ _ => rfl)) (pe_ix (Z.ix (K := K) rfl) (pv 3) pe_int (fun _ _ => rfl)) (nomark _)) (pss_one (Z.ps_raiseZ rfl (takes_of rfl rfl rfl rfl) (pmk_oex T.oe_BadNumber T.si_BadNumber.2.2.1 T.si_BadNumber.2.2.2 (ok_BadNumber___init__ T) (hr.mono (by decide)) T.b_BadNumber___init__ .nil passL (by rfl) T.g_BadNumber (pa_cons pe_str (pa_cons pe_int pa_nil))))) pss_nil)
      (pss_cons (ps_fld (pv 0) (pe_callB (Z.call_len (K := K) rfl) (by rfl) T.n_len (by decide +kernel) (pa_cons (pv 1) pa_nil)) rfl)
      (pss_cons (ps_fld (pv 0) (pe_callTy (Z.call_tuple (K := K) rfl) (by rfl) T.n_tuple (by decide +kernel) (pa_cons (pv 1) pa_nil)) rfl)
      (pss_cons (ps_fld (pv 0) (pe_callTy (Z.call_tuple (K := K) rfl) (by rfl) T.n_tuple (by decide +kernel) (pa_cons (pv 2) pa_nil)) rfl)
      (pss_one (ps_fld (pv 0) (pe_tup (pa_cons (pe_ix (Z.ix (K := K) rfl) (pv 3) pe_int (fun _ _ => rfl)) (pa_cons (pe_ix (Z.ix (K := K) rfl) (pv 3) pe_int (fun _ _ => rfl)) pa_nil))) rfl)))))))))), ?_⟩
    try dsimp only [cxOf, Cx.nox, Cx.wish]
    try (show (_ : TS) _ [some _, some _, some _, some _, none, none] _)
    walk_at "go"
    refine Z.w_dec (fun h1 => ?_) (fun h1 => ?_)
    · have eo : uOut ls hs a0 a1 = .many ls.length := by unfold uOut; rw [if_pos (by omega)]
      rw [eo] at hE
      walk_at "go"
      rename_i d H5 hn5 he5 hp5
      exact hE d H5 (e0.trans he5) hp5
    walk_at "go"
    refine Z.w_ndec (fun h2 => ?_) (fun h2 => ?_)
    · have eo : uOut ls hs a0 a1 = .num "highs" .non := by unfold uOut; rw [if_neg (by omega), if_pos (by omega)]
      rw [eo] at hE
      walk_at "go"
      rename_i d H5 hn5 he5 hp5
      exact hE d H5 (e0.trans he5) hp5
    have hsl : hs.length = ls.length := by omega
    have hu : ∀ o, ufb ls hs 0 = o → uOut ls hs a0 a1 = match o with
        | some (w, i) => .num w (.int (i : Nat))
        | none => if a0 < 1 then .num "aside" (.int 0) else if a1 < a0 then .num "aside" (.int 1) else .made := fun o e => by
      unfold uOut; rw [if_neg (by omega), if_neg (by omega), e]
      try rfl
    walk_at "go"
    rename_i J S
    refine Z.fg S (fun i σ G => ∃ (v4 v5 : Option V), σ = [some (.ref x), some (.ref l), some (.ref h), some (.ref p), v4, v5] ∧ Ex H G ∧ ufb ls hs 0 = ufb (ls.drop i) (hs.drop i) i)
      ⟨none, none, rfl, Ex.refl _, by simp⟩ (fun i σ' G _ ⟨_, _, _, e, _⟩ => e.l hl1) ?_ ?_
    · rintro i y σ' G G2 hi ⟨v4, v5, rfl, eG, hb⟩ e2 ⟨t, z, rfl, ht, hz⟩
      obtain ⟨hi2, rfl⟩ := get_int hz
      rw [ufb_step hi2 hsl] at hb
      walk_at "go"
      refine Z.w_dec (fun h3 => ?_) (fun h3 => ?_)
      · rw [if_pos h3] at hb
        have := hu _ hb
        rw [this] at hE
        walk_at "go"
        rename_i d H5 hn5 he5 hp5
        exact hE d H5 (e0.trans ((eG.trans e2).trans he5)) hp5
      rw [if_neg h3] at hb
      walk_at "go"
      refine Z.w_dec (fun h4 => ?_) (fun h4 => ?_)
      · rw [if_pos h4] at hb
        have := hu _ hb
        rw [this] at hE
        walk_at "go"
        rename_i d H5 hn5 he5 hp5
        exact hE d H5 (e0.trans ((eG.trans e2).trans he5)) hp5
      rw [if_neg h4] at hb
      walk_at "go"
      exact ⟨_, _, rfl, eG.trans e2, hb⟩
    · rintro σ' G ⟨v4, v5, rfl, eG, hb⟩
      rw [List.length_map, ufb_end (Nat.le_refl _)] at hb
      have hu2 := hu _ hb
      walk_at "go"
      refine Z.w_dec (fun h3 => ?_) (fun h3 => ?_)
      · have : uOut ls hs a0 a1 = .num "aside" (.int 0) := by rw [hu2]; exact if_pos h3
        rw [this] at hE
        walk_at "go"
        rename_i d H5 hn5 he5 hp5
        exact hE d H5 (e0.trans (eG.trans he5)) hp5
      walk_at "go"
      refine Z.w_dec (fun h4 => ?_) (fun h4 => ?_)
      · have : uOut ls hs a0 a1 = .num "aside" (.int 1) := by rw [hu2]; show (if a0 < 1 then _ else _) = _; rw [if_neg h3, if_pos h4]
        rw [this] at hE
        walk_at "go"
        rename_i d H5 hn5 he5 hp5
        exact hE d H5 (e0.trans (eG.trans he5)) hp5
      have hmade : uOut ls hs a0 a1 = .made := by rw [hu2]; show (if a0 < 1 then _ else _) = _; rw [if_neg h3, if_neg h4]
      walk_at "go"
      have hxG := eG.get hx
      refine Z.w_putE hxG fx0 fx4 (by show 0 < 900; decide) (by decide +kernel) fun H5 h5 hk5 ho5 => ?_
      have e5 : Ex H0 H5 := hk5 H0 (e0.trans eG) hf
      have hl5 := e5.l hl
      have hh5 := e5.l hh
      have hp5' := e5.t hp
      walk_at "go"
      rename_i t1 H6 hn6 he6 hp6
      have e6 := e5.trans he6
      have n1 : t1 ≠ x := fun z => h5.ne hn6 z.symm
      refine Z.w_putE (he6.get h5) fx0 fx3 (by show 1 < 900; decide) (by simp only [List.map_cons, List.map_nil, List.cons_append, List.nil_append]; decide +kernel) fun H7 h7 hk7 ho7 => ?_
      have e7 : Ex H0 H7 := hk7 H0 e6 hf
      have ht1 := ho7 t1 _ n1 hp6
      have hl7 := e7.l hl
      have hh7 := e7.l hh
      walk_at "go"
      rename_i t2 H8 hn8 he8 hp8
      have e8 := e7.trans he8
      have n2 : t2 ≠ x := fun z => h7.ne hn8 z.symm
      refine Z.w_putE (he8.get h7) fx0 fx2 (by show 2 < 900; decide) (by simp only [List.map_cons, List.map_nil, List.cons_append, List.nil_append]; decide +kernel) fun H9 h9 hk9 ho9 => ?_
      have e9 : Ex H0 H9 := hk9 H0 e8 hf
      have ht1' := ho9 t1 _ n1 (he8.get ht1)
      have ht2 := ho9 t2 _ n2 hp8
      have hp9 := e9.t hp
      walk_at "go"
      rename_i t3 H10 hn10 he10 hp10
      have e10 := e9.trans he10
      have n3 : t3 ≠ x := fun z => h9.ne hn10 z.symm
      refine Z.w_putE (he10.get h9) fx0 fx1 (by show 3 < 900; decide) (by simp only [List.map_cons, List.map_nil, List.cons_append, List.nil_append]; decide +kernel) fun H11 h11 hk11 ho11 => ?_
      have e11 : Ex H0 H11 := hk11 H0 e10 hf
      walk_at "go"
      exact k hmade H11 e11 ⟨⟨dx, t1, t2, t3, h11, ho11 t1 _ n1 (he10.get ht1'), ho11 t2 _ n2 (he10.get ht2), ho11 t3 _ n3 hp10⟩, uOut_made.mp hmade⟩
/-- Unsure(l, h, aside = p) -/
theorem mkU {H : Hp} {Q : VK} {E : XK} {l h p : Addr} {ls hs : List Int} {a0 a1 : Int} (hl : SqL K H l (ls.map V.int)) (hh : SqL K H h (hs.map V.int)) (hp : SqT K H p [.int a0, .int a1]) (hlen : ls.length ≤ 100) (hE : UErr K (uOut ls hs a0 a1) E H)
    (k : uOut ls hs a0 a1 = .made → ∀ x H', Fr H x → Ex H H' → UR K H' x ls hs a0 a1 → Q (.ref x) H') : dMk (He.ga K "Unsure") (sp_Unsure___init__ K) [] E Q [.ref l, .ref h, .ref p] H :=
  w_dMk fun x dx H2 nw => ⟨H, x, dx, l, h, p, ls, hs, a0, a1, rfl, nw.at_, nw.new, nw.ex, hl, hh, hp, hlen, hE, fun hm H' e hu => ⟨rfl, k hm x H' nw.new e hu⟩⟩

def sp_law (K : PySem.W.Frag) : Sp := fun vs H Q _ => ∃ (a : Addr) (ns : List Int), vs = [.ref a] ∧ SqL K H a (ns.map V.int) ∧ ∀ H', Q (.bl true) H'
theorem ok_law (T : Tx P K mg) : FnOk P w K mg base CX0 8 (He.ga K "law") (Z.fdOf K (He.ga K "law")) ["_law_script"] (sp_law K) := by
  refine T.F_law.ok sc_law (fun vs H Q E h => ?_) (fun cdv A outer s H vs Q E hr h => ?_)
  · obtain ⟨a, ns, rfl, _⟩ := h
    rfl
  · obtain ⟨a, ns, rfl, hS, k⟩ := h
    have fx0 := T.o_Unsure.cl
    have fx1 := T.na_Unsure_lows
    refine ⟨_, PSs.nox (pss_cons (ps_set (i := 1) sc_law.nd rfl (Or.inl rfl) (pe_call (ok__law_draws T) (hr.mono (by decide)) (by rfl) T.g__law_draws T.F__law_draws.kp T.b__law_draws .nil passL (pa_cons (pe_call (ok__law_cell T) (hr.mono (by decide)) (by rfl) T.g__law_cell T.F__law_cell.kp T.b__law_cell .nil passL (pa_cons (pv 0) (pa_cons pe_int pa_nil))) (pa_cons (pe_lst (pa_cons pe_int (pa_cons pe_int (pa_cons pe_int (pa_cons pe_int (pa_cons pe_int pa_nil)))))) pa_nil))))
      (pss_cons (ps_set (i := 2) sc_law.nd rfl (Or.inl rfl) (pe_ix (Z.ix (K := K) rfl) (pv 1) pe_int (fun _ _ => rfl)))
      (pss_cons (ps_set (i := 3) sc_law.nd rfl (Or.inl rfl) (pe_call (ok__law_draws T) (hr.mono (by decide)) (by rfl) T.g__law_draws T.F__law_draws.kp T.b__law_draws .nil passL (pa_cons (pe_call (ok__law_cell T) (hr.mono (by decide)) (by rfl) T.g__law_cell T.F__law_cell.kp T.b__law_cell .nil passL (pa_cons (pv 0) (pa_cons pe_int pa_nil))) (pa_cons (pe_lst (pa_cons pe_int (pa_cons pe_int (pa_cons pe_int (pa_cons pe_int (pa_cons pe_int (pa_cons pe_int (pa_cons pe_int (pa_cons pe_int (pa_cons pe_int (pa_cons pe_int (pa_cons pe_int (pa_cons pe_int (pa_cons pe_int (pa_cons pe_int (pa_cons pe_int (pa_cons pe_int (pa_cons pe_int (pa_cons pe_int pa_nil))))))))))))))))))) pa_nil))))
      (pss_cons (ps_set (i := 4) sc_law.nd rfl (Or.inr rfl) (pe_call (ok__law_two_lots T) (hr.mono (by decide)) (by rfl) T.g__law_two_lots T.F__law_two_lots.kp T.b__law_two_lots .nil passL (pa_cons (pv 3) (pa_cons (pv 2) (pa_cons (pe_ix (Z.ix (K := K) rfl) (pv 1) pe_int (fun _ _ => rfl)) (pa_cons (pe_ix (Z.ix (K := K) rfl) (pv 1) pe_int (fun _ _ => rfl)) pa_nil))))))
      (pss_cons (ps_set (i := 5) sc_law.nd rfl (Or.inr rfl) (pe_call (ok__law_bounds T) (hr.mono (by decide)) (by rfl) T.g__law_bounds T.F__law_bounds.kp T.b__law_bounds .nil passL (pa_cons (pe_call (ok__law_cell T) (hr.mono (by decide)) (by rfl) T.g__law_cell T.F__law_cell.kp T.b__law_cell .nil passL (pa_cons (pv 0) (pa_cons pe_int pa_nil))) (pa_cons (pe_call (ok__law_cell T) (hr.mono (by decide)) (by rfl) T.g__law_cell T.F__law_cell.kp T.b__law_cell .nil passL (pa_cons (pv 0) (pa_cons pe_int pa_nil))) (pa_cons (pe_op Z.op_add (pv 2) pe_int) pa_nil)))))
      (pss_cons (ps_set (i := 6) sc_law.nd rfl (Or.inl rfl) (pe_call (ok__law_row T) (hr.mono (by decide)) (by rfl) T.g__law_row T.F__law_row.kp T.b__law_row .nil passL (pa_cons (pe_call (ok__law_cell T) (hr.mono (by decide)) (by rfl) T.g__law_cell T.F__law_cell.kp T.b__law_cell .nil passL (pa_cons (pv 0) (pa_cons pe_int pa_nil))) (pa_cons (pv 2) pa_nil))))
      (pss_cons (ps_set (i := 7) sc_law.nd rfl (Or.inr rfl) (pe_call (ok__law_draws T) (hr.mono (by decide)) (by rfl) T.g__law_draws T.F__law_draws.kp T.b__law_draws .nil passL (pa_cons (pe_call (ok__law_cell T) (hr.mono (by decide)) (by rfl) T.g__law_cell T.F__law_cell.kp T.b__law_cell .nil passL (pa_cons (pv 0) (pa_cons pe_int pa_nil))) (pa_cons (pe_lc (own := [("_law_couple", 19)]) rfl sc_law.nd (Z.piL (K := K) rfl (pv 5)) (blkOk_by (N := ["_law_script", "_law_drawn", "_law_many", "_law_roles", "_law_two", "_law_couples", "_law_prices", "_law_sides", "_law_points", "_law_varied", "_law_lows", "_law_unsure", "_law_other", "_law_turn", "_law_first", "_law_second", "_law_shown", "_law_passed", "_law_answer", "_law_couple", "_law_k", "_law_thing"]) (sc := defScope s_law) (by decide +kernel)) (fun _ _ _ _ _ => (pg_name (i := 19) sc_law.nd rfl (by first | exact Or.inl rfl | exact Or.inr rfl))) (fun _ _ _ _ _ => pts_nil) (fun _ _ _ _ _ => pe_int)) pa_nil))))
      (pss_cons (ps_set (i := 8) sc_law.nd rfl (Or.inl rfl) (pe_lst (pa_cons (pe_call (ok__law_within T) (hr.mono (by decide)) (by rfl) T.g__law_within T.F__law_within.kp T.b__law_within .nil passL (pa_cons (pe_call (ok__law_cell T) (hr.mono (by decide)) (by rfl) T.g__law_cell T.F__law_cell.kp T.b__law_cell .nil passL (pa_cons (pv 0) (pa_cons pe_int pa_nil))) (pa_cons (pv 5) pa_nil))) (pa_cons (pe_lc (own := [("_law_k", 20)]) rfl sc_law.nd (pi_range1 (by rfl) T.n_range (pa_cons (pe_op Z.op_add (pv 2) pe_int) pa_nil)) (blkOk_by (N := ["_law_script", "_law_drawn", "_law_many", "_law_roles", "_law_two", "_law_couples", "_law_prices", "_law_sides", "_law_points", "_law_varied", "_law_lows", "_law_unsure", "_law_other", "_law_turn", "_law_first", "_law_second", "_law_shown", "_law_passed", "_law_answer", "_law_couple", "_law_k", "_law_thing"]) (sc := defScope s_law) (by decide +kernel)) (fun _ _ _ _ _ => (pg_name (i := 20) sc_law.nd rfl (by first | exact Or.inl rfl | exact Or.inr rfl))) (fun _ _ _ _ _ => pts_nil) (fun _ _ _ _ _ => (pe_ix (Z.ix (K := K) rfl) (pe_ix (Z.ix (K := K) rfl) (pv 5) (pv 20) (fun _ _ => rfl)) (pe_ix (Z.ix (K := K) rfl) (pv 7) (pv 20) (fun _ _ => rfl)) (fun _ _ => rfl)))) pa_nil))))
      (pss_cons (ps_setLc (i := 9) (own := [("_law_thing", 21)]) rfl sc_law.nd rfl rfl (sw_true rfl rfl rfl (by decide +kernel)) (pi_range1 (by rfl) T.n_range (pa_cons (pv 2) pa_nil)) (blkOk_by (N := ["_law_script", "_law_drawn", "_law_many", "_law_roles", "_law_two", "_law_couples", "_law_prices", "_law_sides", "_law_points", "_law_varied", "_law_lows", "_law_unsure", "_law_other", "_law_turn", "_law_first", "_law_second", "_law_shown", "_law_passed", "_law_answer", "_law_couple", "_law_k", "_law_thing"]) (sc := defScope s_law) (by decide +kernel)) (fun _ _ _ _ _ => (pg_name (i := 21) sc_law.nd rfl (by first | exact Or.inl rfl | exact Or.inr rfl))) (fun _ _ _ _ _ => (pts_one (PW.pt (pw_or (pt_cmpR (Z.op_in (K := K) rfl) (pv 21) (pe_ix (Z.ix (K := K) rfl) (pv 4) pe_int (fun _ _ => rfl)) (by rfl)) (pw_or1 (pt_cmpR (Z.op_in (K := K) rfl) (pv 21) (pe_ix (Z.ix (K := K) rfl) (pv 4) pe_int (fun _ _ => rfl)) (by rfl))))))) (fun _ _ _ _ _ => (pv 21)))
      (C8.pss_cut (ps_if (pt_cmpR Z.op_lt (pe_callB (Z.call_len (K := K) rfl) (by rfl) T.n_len (by decide +kernel) (pa_cons (pv 9) pa_nil)) pe_int (nomark _)) (pss_one (ps_set (i := 8) sc_law.nd rfl (Or.inl rfl) (pe_op Z.op_add (pv 8) (pe_call (ok__law_corners T) (hr.mono (by decide)) (by rfl) T.g__law_corners T.F__law_corners.kp T.b__law_corners .nil passL (pa_cons (pv 5) (pa_cons (pv 9) pa_nil)))))) pss_nil)
      (pss_cons (ps_setLc (i := 10) (own := [("_law_couple", 19)]) rfl sc_law.nd rfl rfl (sw_true rfl rfl rfl (by decide +kernel)) (Z.piL (K := K) rfl (pe_slice (Z.slL (K := K) rfl) (pv 5) po_none (po_some (pv 2)))) (blkOk_by (N := ["_law_script", "_law_drawn", "_law_many", "_law_roles", "_law_two", "_law_couples", "_law_prices", "_law_sides", "_law_points", "_law_varied", "_law_lows", "_law_unsure", "_law_other", "_law_turn", "_law_first", "_law_second", "_law_shown", "_law_passed", "_law_answer", "_law_couple", "_law_k", "_law_thing"]) (sc := defScope s_law) (by decide +kernel)) (fun _ _ _ _ _ => (pg_name (i := 19) sc_law.nd rfl (by first | exact Or.inl rfl | exact Or.inr rfl))) (fun _ _ _ _ _ => pts_nil) (fun _ _ _ _ _ => (pe_ix (Z.ix (K := K) rfl) (pv 19) pe_int (fun _ _ => rfl))))
      (pss_cons (ps_set (i := 11) sc_law.nd rfl (Or.inl rfl) (pe_makeK T.mk_Unsure (ok_Unsure___init__ T) (hr.mono (by decide)) (by rfl) T.g_Unsure T.kb_Unsure___init__ passL (pa_cons (pv 10) (pa_cons (pe_lc (own := [("_law_couple", 19)]) rfl sc_law.nd (Z.piL (K := K) rfl (pe_slice (Z.slL (K := K) rfl) (pv 5) po_none (po_some (pv 2)))) (blkOk_by (N := ["_law_script", "_law_drawn", "_law_many", "_law_roles", "_law_two", "_law_couples", "_law_prices", "_law_sides", "_law_points", "_law_varied", "_law_lows", "_law_unsure", "_law_other", "_law_turn", "_law_first", "_law_second", "_law_shown", "_law_passed", "_law_answer", "_law_couple", "_law_k", "_law_thing"]) (sc := defScope s_law) (by decide +kernel)) (fun _ _ _ _ _ => (pg_name (i := 19) sc_law.nd rfl (by first | exact Or.inl rfl | exact Or.inr rfl))) (fun _ _ _ _ _ => pts_nil) (fun _ _ _ _ _ => (pe_ix (Z.ix (K := K) rfl) (pv 19) pe_int (fun _ _ => rfl)))) pa_nil)) (pk_cons (pe_ix (Z.ix (K := K) rfl) (pv 5) (pv 2) (fun _ _ => rfl)) pk_nil)))
      (C8.pss_cut (ps_if (PW.pt (pw_and (pt_cmpR Z.op_gt (pe_ix (Z.ix (K := K) rfl) (pv 1) pe_int (fun _ _ => rfl)) pe_int (nomark _)) (pw_and1 (pt_not (pt_val (pe_call (ok__law_refuses T) (hr.mono (by decide)) (by rfl) T.g__law_refuses T.F__law_refuses.kp T.b__law_refuses .nil passL (pa_cons (pv 11) (pa_cons (pe_ix (Z.ix (K := K) rfl) (pv 1) pe_int (fun _ _ => rfl)) (pa_cons (pe_ix (Z.ix (K := K) rfl) (pv 1) pe_int (fun _ _ => rfl)) (pa_cons (pe_ix (Z.ix (K := K) rfl) (pv 4) pe_int (fun _ _ => rfl)) (pa_cons (pe_ix (Z.ix (K := K) rfl) (pv 4) pe_int (fun _ _ => rfl)) (pa_cons (pv 6) pa_nil)))))))))))) (pss_one (ps_ret pe_bl)) pss_nil)
      (pss_cons (ps_set (i := 12) sc_law.nd rfl (Or.inl rfl) (pe_call (ok__law_row T) (hr.mono (by decide)) (by rfl) T.g__law_row T.F__law_row.kp T.b__law_row .nil passL (pa_cons (pe_call (ok__law_cell T) (hr.mono (by decide)) (by rfl) T.g__law_cell T.F__law_cell.kp T.b__law_cell .nil passL (pa_cons (pv 0) (pa_cons pe_int pa_nil))) (pa_cons (pv 2) pa_nil))))
      (pss_cons (ps_for PassesOwn.never rfl (pi_range1 (by rfl) T.n_range (pa_cons pe_int pa_nil)) (pg_name (i := 13) sc_law.nd rfl (by first | exact Or.inl rfl | exact Or.inr rfl)) (pss_cons (ps_set (i := 14) sc_law.nd rfl (Or.inl rfl) (pe_ix (Z.ix (K := K) rfl) (pv 4) (pe_op Z.op_mod (pe_callTy Z.call_int (by rfl) T.n_int (by decide +kernel) (pa_cons (pv 13) pa_nil)) pe_int) (fun _ _ => rfl)))
      (pss_cons (ps_set (i := 15) sc_law.nd rfl (Or.inl rfl) (pe_ix (Z.ix (K := K) rfl) (pv 4) (pe_op Z.op_sub pe_int (pe_op Z.op_mod (pe_callTy Z.call_int (by rfl) T.n_int (by decide +kernel) (pa_cons (pv 13) pa_nil)) pe_int)) (fun _ _ => rfl)))
      (pss_cons (ps_set (i := 16) sc_law.nd rfl (Or.inl rfl) (pe_ix (Z.ix (K := K) rfl) (pe_lst (pa_cons (pv 6) (pa_cons (pv 12) (pa_cons (pv 6) pa_nil)))) (pe_op Z.op_fdivP (pv 13) pe_int) (fun _ _ => rfl)))
      (pss_cons (ps_set (i := 17) sc_law.nd rfl (Or.inl rfl) (pe_callTy (Z.call_list (K := K) rfl) (by rfl) T.n_list (by decide +kernel) (pa_cons (pv 16) pa_nil)))
      (pss_cons (ps_set (i := 18) sc_law.nd rfl (Or.inl rfl) (pe_call (ok__law_asked T) (hr.mono (by decide)) (by rfl) T.g__law_asked T.F__law_asked.kp T.b__law_asked .nil passL (pa_cons (pv 11) (pa_cons (pv 14) (pa_cons (pv 15) (pa_cons (pv 17) pa_nil))))))
      (pss_cons (ps_if (pt_cmpR (Z.op_ne (K := K) rfl hr.units) (pv 17) (pv 16) (nomark _)) (pss_one (ps_ret pe_bl)) pss_nil)
      (pss_one (ps_if (pt_cmpR Z.op_gt (pe_callB (Z.call_len (K := K) rfl) (by rfl) T.n_len (by decide +kernel) (pa_cons (pv 9) pa_nil)) pe_int (nomark _)) (pss_cons (ps_if (pt_not (pt_val (pe_call (ok__law_refused T) (hr.mono (by decide)) (by rfl) T.g__law_refused T.F__law_refused.kp T.b__law_refused .nil passL (pa_cons (pv 18) (pa_cons (pe_tup (pa_cons pe_str (pa_cons (pe_callB (Z.call_len (K := K) rfl) (by rfl) T.n_len (by decide +kernel) (pa_cons (pv 9) pa_nil)) (pa_cons pe_int pa_nil)))) pa_nil))))) (pss_one (ps_ret pe_bl)) pss_nil)
      (pss_one (ps_if (pt_not (pt_val (pe_call (ok__law_asked_by_base T) (hr.mono (by decide)) (by rfl) T.g__law_asked_by_base T.F__law_asked_by_base.kp T.b__law_asked_by_base .nil passL (pa_cons (pv 11) (pa_cons (pv 14) (pa_cons (pv 15) (pa_cons (pv 17) (pa_cons pe_str pa_nil)))))))) (pss_one (ps_ret pe_bl)) pss_nil))) (pss_one (ps_if (PW.pt (pw_or (pt_cmpR (Z.op_ne (K := K) rfl hr.units) (pe_ix (Z.ix (K := K) rfl) (pv 18) pe_int (fun _ _ => rfl)) pe_str (nomark _)) (pw_or1 (pt_not (pt_val (pe_call (ok__law_right T) (hr.mono (by decide)) (by rfl) T.g__law_right T.F__law_right.kp T.b__law_right .nil passL (pa_cons (pe_ix (Z.ix (K := K) rfl) (pv 18) pe_int (fun _ _ => rfl)) (pa_cons (pv 14) (pa_cons (pv 15) (pa_cons (pv 16) (pa_cons (pv 5) (pa_cons (pv 8) pa_nil)))))))))))) (pss_one (ps_ret pe_bl)) (pss_one (ps_if (pt_cmp (pc_notN (pe_ix (Z.ix (K := K) rfl) (pv 18) pe_int (fun _ _ => rfl)))) (pss_one (ps_expr (pe_bm PySem.F.plainAttrs_list PySem.F.slot_list_append PySem.F.type_list_append mt_append (pe_ix (Z.ix (K := K) rfl) (pe_ix (Z.ix (K := K) rfl) (pv 18) pe_int (fun _ _ => rfl)) pe_int (fun _ _ => rfl)) (pa_cons pe_int pa_nil)))) pss_nil)))))))))))))
      (pss_one (ps_ret (pe_call (ok__law_same_lot T) (hr.mono (by decide)) (by rfl) T.g__law_same_lot T.F__law_same_lot.kp T.b__law_same_lot .nil passL (pa_cons (Z.fld (K := K) rfl (pv 11) rfl) (pa_cons (pv 10) pa_nil)))))))))))))))))))), ?_⟩
    try dsimp only [cxOf, Cx.nox, Cx.wish]
    try (show (_ : TS) _ [some _, none, none, none, none, none, none, none, none, none, none, none, none, none, none, none, none, none, none, none, none, none] _)
    walk_at "go"
    rename_i c0 p1 H1 hn1 he1 hp1 p2 H2 ds hn2 he2 hp2 hd hb c1 p3 H3 hn3 he3 hp3 p4 H4 rs hn4 he4 hp4 hrl hrb
    refine ⟨p4, rs, _, _, _, rfl, by walk_at "fl", hrb.1, by omega, by omega, by omega, fun TW f s H5 F S hTW he5 hp5 hf5 hs5 hF hS' => ?_⟩
    have hrl := hrb.1
    clear hrb
    have hFl := hF.len
    have hSl := hS'.len
    have hm0 := hb.2.1.1
    have hm1 := hb.2.1.2
    generalize hm : ds.getD 0 0 = m at *
    walk_at "go"
    refine ⟨_, _, _, rfl, by omega, by omega, fun C6 H6 xs cs hC6 he6 hp6 hPL hcl hB => ?_⟩
    have hxl := hPL.1
    have bnd : ∀ i, i < cs.length → Bnd (cs.getD i (0, 0)) := fun i hi => by rw [getD_get _ _ _ hi]; exact hB _ (List.getElem_mem _)
    walk_at "go"
    rename_i c4 P7 H7 ps hP7 he7 hp7 hpl hpx c6 J8 S8 p8 H8 hn8 he8 hp8
    refine u_draws (sq_of hp8) ⟨by simp; omega, fun z hz => by rw [List.eq_of_mem_replicate hz]; decide⟩ fun p9 H9 ss hn9 he9 hp9 hsd => ?_
    obtain ⟨hsl, hsx⟩ := hsd.all
    have hsb : ∀ i, i < cs.length → 0 ≤ ss.getD i 0 ∧ ss.getD i 0 < 2 := fun i hi => by
      rw [getD_get _ _ _ (by omega)]
      exact hsx _ (List.getElem_mem _)
    walk_at "go"
    have hPL9 : PL H9 xs cs := ((hPL.ex he7).ex he8).ex he9
    refine ⟨_, C6, xs, cs, rfl, by walk_at "fl", hPL9, by omega, hB, fun O10 H10 us hO10 he10 hp10 hul huo => ?_⟩
    have hPL10 := hPL9.ex he10
    walk_at "go"
    rename_i J11 S11
    refine Z.cgI S11 (fun i => if ss.getD i 0 = 0 then (cs.getD i (0, 0)).1 else (cs.getD i (0, 0)).2) (fun H' e => trivial) (by show _ ≤ 16777216; omega) (fun Dl i y G3 hi ec cd hy => ?_) (fun O11 H11 hO11 he11 hp11 => ?_) rfl
    · subst hy
      obtain ⟨u, g1, g2⟩ := hPL10.2 i (by omega)
      have hPL11 := hPL10.ex ec
      walk_at "go"
      rename_i pa hpa
      rw [Int.toNat_natCast] at hpa
      rcases (show ss.getD i 0 = 0 ∨ ss.getD i 0 = 1 by have := hsb i (by omega); omega) with h | h
      · rw [h, if_pos rfl]
        walk_at "go"
      · rw [h, if_neg (by decide)]
        walk_at "go"
    have hsi : InB cs ((List.range (m + 1).toNat).map fun i => if ss.getD i 0 = 0 then (cs.getD i (0, 0)).1 else (cs.getD i (0, 0)).2) := ⟨by simp; omega, fun j hj => by
      have e : ((List.range (m + 1).toNat).map fun i => if ss.getD i 0 = 0 then (cs.getD i (0, 0)).1 else (cs.getD i (0, 0)).2).getD j 0 = if ss.getD j 0 = 0 then (cs.getD j (0, 0)).1 else (cs.getD j (0, 0)).2 := by
        rw [getD_get _ _ 0 (by simp; omega), List.getElem_map, List.getElem_range]
      rw [e]
      have := bnd j hj
      unfold Bnd at this
      split <;> omega⟩
    generalize ((List.range (m + 1).toNat).map fun i => if ss.getD i 0 = 0 then (cs.getD i (0, 0)).1 else (cs.getD i (0, 0)).2) = sds at *
    walk_at "go"
    rename_i P12 H12 hP12 he12 hp12 J12 S12
    have hf12 : At H12 f (.tup (F.map V.int)) := by walk_at "fx"
    have hs12 : At H12 s (.tup (S.map V.int)) := by walk_at "fx"
    refine Z.cgP S12 (fun t : Nat => decide ((t : Int) ∈ F) || decide ((t : Int) ∈ S)) (fun i => V.int (i : Nat)) (fun H' e => trivial) (by show _ ≤ 16777216; omega) (fun Dl i y G3 hi ec cd hz hy => ?_) (fun V13 H13 hV13 he13 hp13 => ?_)
    · subst hy
      walk_at "go"
      refine Z.w_dec (fun h => ?_) (fun h => ?_)
      · rw [Z.fr_T (by simp [h])]
        walk_at "go"
      · walk_at "go"
        refine Z.w_dec (fun h2 => ?_) (fun h2 => ?_)
        · rw [Z.fr_T (by simp [h2])]
          walk_at "go"
        · rw [Z.fr_F (by simp [h, h2])]
          exact cd
    have hp13' : At H13 V13 (.lst (((vrd m.toNat F S).map fun k : Nat => (k : Int)).map V.int)) := hp13.l (by rw [List.map_map]; rfl)
    clear hp13
    have hvl : ((vrd m.toNat F S).map fun k : Nat => (k : Int)).length = (vrd m.toNat F S).length := by simp
    have hvb : ∀ t ∈ (vrd m.toNat F S).map fun k : Nat => (k : Int), 0 ≤ t ∧ t < cs.length := fun t ht => by
      obtain ⟨k, hk, rfl⟩ := List.mem_map.mp ht
      have := List.mem_range.mp (List.mem_filter.mp hk).1
      omega
    have hvl2 : (vrd m.toNat F S).length ≤ m.toNat := by have := List.length_filter_le (fun t : Nat => decide ((t : Int) ∈ F) || decide ((t : Int) ∈ S)) (List.range m.toNat); rw [List.length_range] at this; exact this
    generalize hvv : ((vrd m.toNat F S).map fun k : Nat => (k : Int)) = vv at *
    have hLL13 : LLi H13 [.ref O10, .ref O11] [us, sds] := ⟨rfl, fun i hi => by
      match i, hi with
      | 0, _ => exact ⟨O10, rfl, show At H13 O10 (.lst (us.map V.int)) by walk_at "fx"⟩
      | 1, _ => exact ⟨O11, rfl, show At H13 O11 (.lst (sds.map V.int)) by walk_at "fx"⟩
      | n + 2, h => exact absurd h (by simp)⟩
    have hPL13 : PL H13 xs cs := ((hPL10.ex he11).ex he12).ex he13
    have hui : InB cs us := ⟨by omega, fun j hj => huo j hj⟩
    have hC13 : At H13 C6 (.lst xs) := by walk_at "fx"
    have hP13 := he13.get hp12
    refine Z.w_cut (fun σ G => ∃ (PT : Addr) (ys : List V) (nss : List (List Int)), σ = [some (.ref a), some (.ref p2), some (.int m), some (.ref p4), some (.ref TW), some (.ref C6), some (.ref P7), some (.ref p9), some (.ref PT), some (.ref V13), none, none, none, none, none, none, none, none, none, none, none, none] ∧ Ex H13 G ∧ At G PT (.lst ys) ∧ LLi G ys nss ∧ ∀ ns ∈ nss, InB cs ns) ?_ ?_
    · walk_at "go"
      refine Z.w_dec (fun h => ?_) (fun h => ?_)
      · walk_at "go"
        refine ⟨C6, V13, xs, cs, vv, rfl, by walk_at "fl", hPL13, hB, by omega, by omega, hp13', by omega, hvb, fun q G ys nss hq eG hqG hLL hIn hnl => ?_⟩
        have hyl := hLL.1
        have hPG := eG.get hP13
        walk_at "go"
        rename_i q2 G2 hq2 eG2 hp2
        refine ⟨q2, _, [us, sds] ++ nss, rfl, eG.trans eG2, hp2, (hLL13.ex (eG.trans eG2)).app (hLL.ex eG2), fun z hz => ?_⟩
        rcases List.mem_append.mp hz with hz | hz
        · simp at hz
          rcases hz with rfl | rfl
          · exact hui
          · exact hsi
        · exact hIn z hz
      · walk_at "go"
        exact ⟨P12, _, [us, sds], rfl, Ex.refl _, hP13, hLL13, fun z hz => by
          simp at hz
          rcases hz with rfl | rfl
          · exact hui
          · exact hsi⟩
    rintro σ' G ⟨PT, ys, nss, rfl, eG, hPT, hLL, hIn⟩
    have hf14 : At G f (.tup (F.map V.int)) := by walk_at "fx"
    have hs14 : At G s (.tup (S.map V.int)) := by walk_at "fx"
    have hTW14 : At G TW (.tup [.ref f, .ref s]) := by walk_at "fx"
    have hV14 := eG.get hp13'
    have hC14 := eG.get hC13
    have hPL14 := hPL13.ex eG
    have hP14 : At G P7 (.lst (ps.map V.int)) := by walk_at "fx"
    have hD14 : At G p2 (.lst (ds.map V.int)) := by walk_at "fx"
    have hS14 : SqL K G a (ns.map V.int) := by walk_at "fl"
    clear hp1 hp2 hp3 hp4 hp5 hf5 hs5 hp6 hp7 hp8 hp9 hp10 hp11 hp12 hp13' hf12 hs12 hPL hPL9 hPL10 hPL13 hLL13 hP13 hC13 he1 he2 he3 he4 he5 he6 he7 he8 he9 he10 he11 he12 he13 hS eG
    walk_at "go"
    rename_i p15 H15 hn15 he15 hp15 J15 S15
    have hPL15 : PL H15 (xs.take m.toNat) (cs.take m.toNat) := ⟨by simp [hxl], fun i hi => by
      rw [List.length_take] at hi
      obtain ⟨c, h1, h2⟩ := hPL14.2 i (by omega)
      exact ⟨c, by rw [List.getElem?_take_of_lt (by omega)]; exact h1, by rw [List.getD_eq_getElem?_getD, List.getElem?_take_of_lt (by omega), ← List.getD_eq_getElem?_getD]; exact he15.get h2⟩⟩
    have hctl : (cs.take m.toNat).length = m.toNat := by rw [List.length_take]; omega
    have hxtl : (xs.take m.toNat).length = m.toNat := by rw [List.length_take]; omega
    have ctg : ∀ i, i < m.toNat → (cs.take m.toNat).getD i (0, 0) = cs.getD i (0, 0) := fun i hi => by rw [List.getD_eq_getElem?_getD, List.getElem?_take_of_lt hi, ← List.getD_eq_getElem?_getD]
    refine Z.cgI S15 (fun i => (cs.getD i (0, 0)).1) (fun H' e => e.l (sq_of hp15)) (by rw [hxtl]; show _ ≤ 16777216; omega) (fun Dl i y G3 hi ec cd hy => ?_) (fun LL H16 hLL16 he16 hp16 => ?_) rfl
    · obtain ⟨c, hc1, hc2⟩ := hPL15.2 i (by omega)
      rw [hc1] at hy
      cases hy
      rw [ctg i (by omega)] at hc2
      have hc3 := ec.get hc2
      walk_at "go"
    rw [hxtl] at hp16
    walk_at "go"
    rename_i p17 H17 hn17 he17 hp17 J17 S17
    refine Z.cgI S17 (fun i => (cs.getD i (0, 0)).2) (fun H' e => e.l (sq_of hp17)) (by rw [hxtl]; show _ ≤ 16777216; omega) (fun Dl i y G3 hi ec cd hy => ?_) (fun LH H18 hLH he18 hp18 => ?_) rfl
    · obtain ⟨c, hc1, hc2⟩ := hPL15.2 i (by omega)
      rw [hc1] at hy
      cases hy
      rw [ctg i (by omega)] at hc2
      have hc3 := ec.get (he17.get (he16.get hc2))
      walk_at "go"
    rw [hxtl] at hp18
    have hPL18 : PL H18 xs cs := (((hPL14.ex he15).ex he16).ex he17).ex he18
    have hls : ((List.range m.toNat).map fun i => (cs.getD i (0, 0)).1).length = m.toNat := by simp
    have hhs : ((List.range m.toNat).map fun i => (cs.getD i (0, 0)).2).length = m.toNat := by simp
    have gl : ∀ i, i < m.toNat → ((List.range m.toNat).map fun i => (cs.getD i (0, 0)).1).getD i 0 = (cs.getD i (0, 0)).1 := fun i hi => by rw [getD_get _ _ _ (by rw [List.length_map, List.length_range]; exact hi)]; simp
    have gh : ∀ i, i < m.toNat → ((List.range m.toNat).map fun i => (cs.getD i (0, 0)).2).getD i 0 = (cs.getD i (0, 0)).2 := fun i hi => by rw [getD_get _ _ _ (by rw [List.length_map, List.length_range]; exact hi)]; simp
    generalize ((List.range m.toNat).map fun i => (cs.getD i (0, 0)).1) = ls at *
    generalize ((List.range m.toNat).map fun i => (cs.getD i (0, 0)).2) = hs at *
    walk_at "go"
    rename_i PR hPR
    have bm := bnd m.toNat (by omega)
    generalize ha0 : (cs.getD m.toNat (0, 0)).1 = a0 at *
    generalize ha1 : (cs.getD m.toNat (0, 0)).2 = a1 at *
    unfold Bnd at bm
    rw [ha0, ha1] at bm
    have hgood : GoodU ls hs a0 a1 := ⟨by omega, by omega, fun i hi => by
      have := bnd i (by omega)
      unfold Bnd at this
      rw [gl i (by omega), gh i (by omega)]
      omega, by omega, by omega⟩
    have hhb : ∀ w ∈ hs, w < 2 ^ 64 := fun w hw => by
      obtain ⟨i, hi, rfl⟩ := List.mem_iff_getElem.mp hw
      have := bnd i (by omega)
      unfold Bnd at this
      rw [← getD_get _ _ 0 hi, gh i (by omega)]
      omega
    have hmade : uOut ls hs a0 a1 = .made := uOut_made.mpr hgood
    refine mkU (by walk_at "fl") (by walk_at "fl") (by walk_at "ft") (by omega) (by rw [hmade]; trivial) fun _ x H19 hx19 he19 hu19 => ?_
    have hlm : (ls.length : Int) = m := by omega
    have hlm' : m.toNat = ls.length := by omega
    have hFL : IsLot ls.length F := by rw [hlm]; exact hF
    have hSL : IsLot ls.length S := by rw [hlm]; exact hS'
    have hok : PricesOk ls.length ps := ⟨by omega, fun p hp => (hpx p hp).1⟩
    have hpb : ∀ p ∈ ps, p.natAbs < 2 ^ 64 := fun p hp => by have := hpx p hp; omega
    have ha64 : a1 < 2 ^ 64 := by omega
    have eG19 : Ex G H19 := by walk_at "ex"
    have hL19 : At H19 LL (.lst (ls.map V.int)) := by walk_at "fx"
    have hf19 := eG19.get hf14
    have hs19 := eG19.get hs14
    have hT19 := eG19.get hTW14
    have hV19 := eG19.get hV14
    have hC19 := eG19.get hC14
    have hPL19 := hPL14.ex eG19
    have hP19 := eG19.get hP14
    have hD19 := eG19.get hD14
    have hS19 : SqL K H19 a (ns.map V.int) := by walk_at "fl"
    have hPT19 := eG19.get hPT
    have hLL19 := hLL.ex eG19
    clear hp15 hp16 hp17 hp18 hPR hPL15 hPL18 hPL14 hf14 hs14 hTW14 hV14 hC14 hP14 hD14 hS14 hPT hLL he15 he16 he17 he18 he19 eG19
    walk_at "go"
    refine Z.w_cutS H19 ?_ fun H20 he20 => ?_
    · walk_at "go"
      refine Z.w_dec (fun h => ?_) (fun h => ?_)
      · walk_at "go"
        refine ⟨x, f, s, P7, ls, hs, a0, a1, F, S, ps, _, _, rfl, hu19, hhb, ha64, by walk_at "ft", by walk_at "ft", hFL, hSL, by walk_at "fl", hok, hpb, by omega, by omega, by omega, by omega, fun H20 he20 => ?_⟩
        walk_at "go"
        exact ⟨rfl, he20⟩
      · walk_at "go"
        exact ⟨rfl, Ex.refl _⟩
    walk_at "go"
    rename_i c20 P20 H21 os hP20 he21 hp21 hol hox J S0
    have e21 : Ex H19 H21 := he20.trans he21
    have hL21 := e21.get hL19
    have hf21 := e21.get hf19
    have hs21 := e21.get hs19
    have hT21 := e21.get hT19
    have hV21 := e21.get hV19
    have hC21 := e21.get hC19
    have hPL21 := hPL19.ex e21
    have hP21 := e21.get hP19
    have hPT21 := e21.get hPT19
    have hLL21 := hLL19.ex e21
    have hu21 := hu19.ex e21
    have hok2 : PricesOk ls.length os := ⟨by omega, fun p hp => (hox p hp).1⟩
    have hpb2 : ∀ p ∈ os, p.natAbs < 2 ^ 64 := fun p hp => by have := hox p hp; omega
    have hvs : ∀ n, vrd n S F = vrd n F S := fun n => List.filter_congr fun t ht => by rw [Bool.or_comm]
    have hvv2 : vv.length = (vrd ls.length F S).length := by rw [hvl, hlm']
    clear hL19 hf19 hs19 hT19 hV19 hC19 hPL19 hP19 hD19 hS19 hPT19 hLL19 hu19
    -- which lots, which prices
    have two : ∀ i : Nat, ∃ (u v : Addr) (F' S' : List Int), atI [V.ref f, V.ref s] ((i : Int) % 2) = some (.ref u) ∧ atI [V.ref f, V.ref s] (1 - (i : Int) % 2) = some (.ref v) ∧ At H21 u (.tup (F'.map V.int)) ∧ At H21 v (.tup (S'.map V.int)) ∧ IsLot ls.length F' ∧ IsLot ls.length S' ∧ vrd ls.length F' S' = vrd ls.length F S := fun i => by
      rcases (show (i : Int) % 2 = 0 ∨ (i : Int) % 2 = 1 by omega) with h | h
      · rw [h]; exact ⟨f, s, F, S, rfl, rfl, hf21, hs21, hFL, hSL, rfl⟩
      · rw [h]; exact ⟨s, f, S, F, rfl, rfl, hs21, hf21, hSL, hFL, hvs _⟩
    have shw : ∀ i : Nat, i < 6 → ∃ (R : Addr) (qs : List Int), atI [V.ref P7, V.ref P20, V.ref P7] ((i : Int) / 2) = some (.ref R) ∧ At H21 R (.lst (qs.map V.int)) ∧ PricesOk ls.length qs ∧ ∀ p ∈ qs, p.natAbs < 2 ^ 64 := fun i hi => by
      rcases (show (i : Int) / 2 = 0 ∨ (i : Int) / 2 = 1 ∨ (i : Int) / 2 = 2 by omega) with h | h | h
      · rw [h]; exact ⟨P7, ps, rfl, hP21, hok, hpb⟩
      · rw [h]; exact ⟨P20, os, rfl, hp21, hok2, hpb2⟩
      · rw [h]; exact ⟨P7, ps, rfl, hP21, hok, hpb⟩
    clear hP21 hp21 hf21 hs21
    refine Z.fg S0 (fun i σ G => ∃ (v13 v14 v15 v16 v17 v18 : Option V), σ = [some (.ref a), some (.ref p2), some (.int m), some (.ref p4), some (.ref TW), some (.ref C6), some (.ref P7), some (.ref p9), some (.ref PT), some (.ref V13), some (.ref LL), some (.ref x), some (.ref P20), v13, v14, v15, v16, v17, v18, none, none, none] ∧ Ex H21 G) ⟨none, none, none, none, none, none, rfl, Ex.refl _⟩ (fun i σ' G _ _ => trivial) ?_ ?_
    · rintro i y σ' G G3 hi ⟨v13, v14, v15, v16, v17, v18, rfl, eG⟩ e2 rfl
      obtain ⟨u, v, F', S', hu, hv, hF', hS', hFI, hSI, hvE⟩ := two i
      obtain ⟨R, qs, hR, hQ, hqo, hqb⟩ := shw i hi
      have e3 : Ex H21 G3 := eG.trans e2
      have hT3 := e3.get hT21
      have hF3 := e3.get hF'
      have hS3 := e3.get hS'
      have hQ3 := e3.get hQ
      have hV3 := e3.get hV21
      have hC3 := e3.get hC21
      have hPL3 := hPL21.ex e3
      have hPT3 := e3.get hPT21
      have hLL3 := hLL21.ex e3
      have hu3 := hu21.ex e3
      walk_at "go"
      refine Z.w_ixT (st_of hT3) hu ?_
      walk_at "go"
      refine Z.w_ixT (st_of hT3) hv ?_
      walk_at "go"
      refine Z.w_ixL (by walk_at "fl") hR ?_
      walk_at "go"
      rename_i p22 H22 hn22 he22 hp22 p23 H23 hn23 he23 hp23
      have e23 : Ex G3 H23 := by walk_at "ex"
      have hub : ∀ {H : Hp}, Ex G3 H → UR K H x ls hs a0 a1 := fun e => hu3.ex e
      refine ⟨x, u, v, p23, ls, hs, a0, a1, F', S', qs, rfl, hub e23, hhb, ha64, by walk_at "ft", by walk_at "ft", sq_of hp23, hqb, fun p24 H24 ws hn24 he24 hp24 hres => ?_, fun _ _ _ hv8 p24 H24 w hn24 he24 hp24 htold => ?_⟩
      · cases hres with
        | pr h => exact (h.no hqo).elim
        | f h hl => exact absurd hFI hl
        | s h hl hs9 => exact absurd hSI hs9
        | m h hl hs9 h8 =>
          rw [hvE] at h8 hp24
          have h8' : 8 < vv.length := by omega
          have hr : NRes ls.length F' S' qs (.str "many" :: [.int (vrd ls.length F' S').length, .int 8]) := .m h hl hs9 (by rw [hvE]; exact h8)
          walk_at "run"
          rename_i p25 H25 hn25 he25 hp25
          have hp25' : At H25 p25 (.tup [.str "many", .int (vrd ls.length F S).length, .int 8]) := hp25.t (by rw [hvv2])
          refine ⟨p24, p25, _, rfl, by walk_at "ft", st_of hp25', by simp, fun z hz => ?_, fun H26 he26 => ?_⟩
          · simp at hz
            rcases hz with rfl | rfl | rfl <;> simp [Flt]
          walk_at "run"
          refine ⟨x, u, v, p23, ls, hs, a0, a1, F', S', qs, "many", _, rfl, hub (by walk_at "ex"), hhb, ha64, by walk_at "ft", by walk_at "ft", by walk_at "fl", hqb, hr, fun H27 he27 => ?_⟩
          walk_at "run"
          exact ⟨_, _, _, _, _, _, rfl, by walk_at "ex"⟩
      · rw [hvE] at hv8
        have hv8' : ¬ 8 < vv.length := by omega
        have hql := hqo.1
        have hcl2 : cs.length = qs.length + 1 := by omega
        have eqs : ls.length = qs.length := by omega
        have glc : ∀ t, t < qs.length → ls.getD t 0 = (cs.getD t (0, 0)).1 := fun t ht => gl t (by omega)
        have ghc : ∀ t, t < qs.length → hs.getD t 0 = (cs.getD t (0, 0)).2 := fun t ht => gh t (by omega)
        have emq : m.toNat = qs.length := by omega
        rw [emq] at ha0 ha1
        have rgt : sp__law_right K [w, .ref u, .ref v, .ref R, .ref C6, .ref PT] H24 (fun z H' => z = .bl true ∧ Ex H24 H') E0 := by
          refine ⟨w, u, v, R, C6, PT, F', S', qs, xs, cs, ys, nss, rfl, by walk_at "ft", by walk_at "ft", by rw [← eqs]; exact hFI, by rw [← eqs]; exact hSI, by walk_at "fl", by omega, hqb, by walk_at "fl", hPL3.ex (e23.trans he24), hB, hcl2, by walk_at "fl", hLL3.ex (e23.trans he24), hIn, ?_, fun H' e => ⟨rfl, e⟩⟩
          rcases htold with ⟨hw, hz⟩ | ⟨t, wl, us, b, hw, _, _, ht, hwl, hul, hus, hb2, hneg⟩
          · refine .inl ⟨hw, fun ns hns => ?_⟩
            have h1 := hns.1
            have h2 := hns.2
            have gt : ∀ t, t < qs.length → (ns.take qs.length).getD t 0 = ns.getD t 0 := fun t ht => by rw [List.getD_eq_getElem?_getD, List.getElem?_take_of_lt ht, ← List.getD_eq_getElem?_getD]
            have hbx : Box ls hs (ns.take qs.length) := ⟨by rw [List.length_take]; omega, fun t ht => by
              rw [gt t (by omega), glc t (by omega), ghc t (by omega)]
              exact h2 t (by omega)⟩
            have h3 := hz (ns.take qs.length) (ns.getD qs.length 0) hbx (by have := h2 qs.length (by omega); omega) (by have := h2 qs.length (by omega); omega)
            rw [fcr_congr (us := ns) fun t ht => by
              have : 0 ≤ t ∧ t < ls.length := by
                rcases ht with ht | ht
                · exact hFI.2 t ht
                · exact hSI.2 t ht
              exact gt t.toNat (by omega)] at h3
            exact h3
          · refine .inr ⟨t, wl, us, b, hw, ht, hwl, by omega, fun t ht => ?_, by rw [ha0, ha1]; exact hb2, hneg⟩
            have := hus t (by omega)
            rw [glc t ht, ghc t ht] at this
            exact this
        have rgt2 : ∀ {Q2 : VK}, (∀ H', Ex H24 H' → Q2 (.bl true) H') → sp__law_right K [w, .ref u, .ref v, .ref R, .ref C6, .ref PT] H24 Q2 E0 := fun {Q2} q => by
          obtain ⟨v', f', s', pl', c', P', F0, S0, ps0, xs0, cs0, ys0, nss0, e, h1, h2, h3, h4, h5, h6, h7, h8, h9, h10, h11, h12, h13, h14, h15, h16⟩ := rgt
          exact ⟨v', f', s', pl', c', P', F0, S0, ps0, xs0, cs0, ys0, nss0, e, h1, h2, h3, h4, h5, h6, h7, h8, h9, h10, h11, h12, h13, h14, h15, fun H' e => q H' e⟩
        clear rgt
        rcases htold with ⟨rfl, hz⟩ | ⟨t, wl, us, b, rfl, hft, hfwl, ht, hwl, hul, hus, hb2, hneg⟩
        · walk_at "run"
          refine rgt2 fun H25 he25 => ?_
          walk_at "run"
          exact ⟨_, _, _, _, _, _, rfl, by walk_at "ex"⟩
        · walk_at "run"
          refine rgt2 fun H25 he25 => ?_
          walk_at "run"
          rename_i H26 hp26 hnl26 ho26 hke26
          exact ⟨_, _, _, _, _, _, rfl, (e3.trans e23).trans hke26⟩
    · rintro σ' G ⟨v13, v14, v15, v16, v17, v18, rfl, eG⟩
      have hL4 := eG.get hL21
      obtain ⟨⟨dx, t1, t2, t3, hx1, hx2, hx3, hx4⟩, hgu⟩ := hu21.ex eG
      walk_at "go"
      exact u_samelotA hx2 (.inl (by walk_at "fl")) (by omega) fun H' e' => k _

end R
theorem PySem.Challenge.cw_dearestshelf_k67_whole_never_less_holds : PySem.Challenge.rw_dearestshelf_k67_whole_never_less.Holds := by
  exact R.fin fun T => R.ok_law T
