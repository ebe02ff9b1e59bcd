import PyProof.Rows.All
import Wide.All
import OpenK.AllK
import Wide.FinOn
import PyProof.EqAt
import PyProof.EqKinds
import PyProof.TupleCall
import HandS.ForMost
import HandS.ForExc
import HandS.Wide
import HandS.WideBits
import HandS.Gcd
import HandS.Defaults
import HandS.IsInst
import HandS.More
import HandS.Flow
import HandS.Codes
import HandS.SlotsOwn
import HandS.WordsExc
import HandS.Head0
import HandS.Head1
import HandS.Head2
import HandS.HeadEnd
import HandS.HeadHook1
import HandS.HeadHook2
import HandS.Head3
import HandS.CallSlots
import HandS.ExcIs
import HandS.TryOnly
import HandS.Style
import HandS.TupAny
import HandS.SortInts
import HandS.ClsMeth
import HandS.Nested
import HandS.ExcInit
import KE.KSuper
import KE.KExcIs
import HandS.ExcField
import KE.KExcSuper
import HandS.MakeKwOnly
import KE.GoesEnum
import HandS.Zip
import HandS.Star
import HandS.Strs
import KE.KTab
import KE.KParD
import PySem.Challenge.RW_dearestshelf_k35_closed_refusals
set_option Elab.async false
set_option linter.all false
set_option maxRecDepth 100000
set_option maxHeartbeats 40000000
namespace Z
open PySem L2
/-! ### what stands at an address; what stood stands -/
/-- o stands at a -/
def At (H : Hp) (a : Addr) (o : HO) : Prop := H a = some o
/-- a is free -/
def Fr (H : Hp) (a : Addr) : Prop := H a = none
theorem At.ne {H : Hp} {a b : Addr} {o : HO} (h : At H a o) (f : Fr H b) : a ≠ b := ne_of_none h f
theorem At.inj {H : Hp} {a : Addr} {o o' : HO} (h : At H a o) (h' : At H a o') : o = o' := Option.some.inj ((show H a = some o from h).symm.trans h')
theorem At.l {H : Hp} {a : Addr} {xs ys : List V} (h : At H a (.lst xs)) (e : xs = ys) : At H a (.lst ys) := e ▸ h
theorem At.t {H : Hp} {a : Addr} {xs ys : List V} (h : At H a (.tup xs)) (e : xs = ys) : At H a (.tup ys) := e ▸ h
theorem at_upd {H : Hp} {a : Addr} {o : HO} : At (upd H a o) a o := upd_same
/-- one step: what stood stands -/
class Ex (H H' : Hp) : Prop where
  get : ∀ {a : Addr} {o : HO}, At H a o → At H' a o
theorem Ex.refl (H : Hp) : Ex H H := ⟨fun h => h⟩
theorem Ex.trans {H H1 H2 : Hp} (a : Ex H H1) (b : Ex H1 H2) : Ex H H2 := ⟨fun h => b.get (a.get h)⟩
theorem Ex.new {H : Hp} {p : Addr} {o : HO} (h : Fr H p) : Ex H (upd H p o) := ⟨fun e => by
  show upd H p o _ = _
  rw [upd_ne (ne_of_none e h)]; exact e⟩
/-- an object that H does not know may change -/
theorem Ex.mut {H H' : Hp} {p : Addr} {o : HO} (e : Ex H H') (h : Fr H p) : Ex H (upd H' p o) := ⟨fun ha => by
  show upd H' p o _ = _
  rw [upd_ne (ne_of_none ha h)]; exact e.get ha⟩
theorem Ex.rd {H H' : Hp} {a : Addr} {u : HO} (e : Ex H H') (h : Rd H a u) : Rd H' a u := by
  rcases h with h | ⟨o, h⟩
  · exact Or.inl (e.get h)
  · exact Or.inr ⟨o, e.get h⟩
theorem Ex.l {K : PySem.W.Frag} {H H' : Hp} {a : Addr} {xs : List V} (e : Ex H H') (h : SqL K H a xs) : SqL K H' a xs := by
  rcases h with h | h
  · exact Or.inl (e.rd h)
  · exact Or.inr h
theorem Ex.t {K : PySem.W.Frag} {H H' : Hp} {a : Addr} {xs : List V} (e : Ex H H') (h : SqT K H a xs) : SqT K H' a xs := by
  rcases h with h | h
  · exact Or.inl (e.rd h)
  · exact Or.inr h
theorem Ex.back {H H' : Hp} {p : Addr} (e : Ex H H') (h : Fr H' p) : Fr H p := by
  cases h1 : H p with
  | none => exact h1
  | some o =>
    have z := e.get h1
    unfold At at z
    unfold Fr at h
    rw [z] at h
    cases h
/-- any number of steps -/
class Exs (H H' : Hp) : Prop where
  ex : Ex H H'
set_option synthInstance.checkSynthOrder false in
instance Exs.step {H H1 H2 : Hp} [b : Ex H1 H2] [a : Exs H H1] : Exs H H2 := ⟨a.ex.trans b⟩
instance Exs.here {H : Hp} : Exs H H := ⟨Ex.refl H⟩
theorem exE {H H' : Hp} (e : Exs H H') : Ex H H' := e.ex
theorem getE {H H' : Hp} {a : Addr} {o : HO} (h : At H a o) (e : Exs H H') : At H' a o := e.ex.get h
theorem frE {H H' : Hp} {a : Addr} (h : Fr H' a) (e : Exs H H') : Fr H a := e.ex.back h
theorem kmut {H H' H0 : Hp} {a : Addr} (hk : ∀ H0, Ex H0 H → Fr H0 a → Ex H0 H') (n : Fr H0 a) (e : Exs H0 H) : Ex H0 H' := hk H0 e.ex n
theorem sq_of {K : PySem.W.Frag} {H : Hp} {a : Addr} {xs : List V} (h : At H a (.lst xs)) : SqL K H a xs := Or.inl (Or.inl h)
theorem st_of {K : PySem.W.Frag} {H : Hp} {a : Addr} {xs : List V} (h : At H a (.tup xs)) : SqT K H a xs := Or.inl (Or.inl h)
section
variable {K : PySem.W.Frag} {H H' : Hp} {a : Addr} {xs : List V}
theorem lE (h : SqL K H a xs) (e : Exs H H') : SqL K H' a xs := e.ex.l h
theorem lA (h : At H a (.lst xs)) (e : Exs H H') : SqL K H' a xs := e.ex.l (sq_of h)
theorem tE (h : SqT K H a xs) (e : Exs H H') : SqT K H' a xs := e.ex.t h
theorem tA (h : At H a (.tup xs)) (e : Exs H H') : SqT K H' a xs := e.ex.t (st_of h)
end
/-- one step: all but lists stands -/
class Nl (H1 H2 : Hp) : Prop where
  get : ∀ {a : Addr} {o : HO}, (∀ l, o ≠ HO.lst l) → At H1 a o → At H2 a o
theorem Ex.nl {H1 H2 : Hp} (e : Ex H1 H2) : Nl H1 H2 := ⟨fun _ h => e.get h⟩
theorem Nl.trans {H1 H2 H3 : Hp} (a : Nl H1 H2) (b : Nl H2 H3) : Nl H1 H3 := ⟨fun h e => b.get h (a.get h e)⟩
theorem Nl.refl (H : Hp) : Nl H H := ⟨fun _ h => h⟩
theorem Nl.upd {H : Hp} {p : Addr} {xs ys : List V} (h : At H p (.lst xs)) : Nl H (upd H p (.lst ys)) := ⟨fun {a} {o} ho e => by
  show L2.upd H p _ a = _
  rw [upd_ne (fun z => ho xs (by subst z; exact (h.inj e).symm))]; exact e⟩
theorem Nl.of_other {H H2 : Hp} {p : Addr} {xs : List V} (h : At H p (.lst xs)) (ho : ∀ b o, b ≠ p → At H b o → At H2 b o) : Nl H H2 := ⟨fun {a} {o} hk e => ho a o (fun z => hk xs (by subst z; exact (h.inj e).symm)) e⟩
class Nls (H H' : Hp) : Prop where
  nl : Nl H H'
set_option synthInstance.checkSynthOrder false in
instance Nls.stepE {H H1 H2 : Hp} [b : Ex H1 H2] [a : Nls H H1] : Nls H H2 := ⟨a.nl.trans b.nl⟩
set_option synthInstance.checkSynthOrder false in
instance Nls.step {H H1 H2 : Hp} [b : Nl H1 H2] [a : Nls H H1] : Nls H H2 := ⟨a.nl.trans b⟩
instance Nls.here {H : Hp} : Nls H H := ⟨Nl.refl H⟩
theorem getTN {H H' : Hp} {a : Addr} {xs : List V} (h : At H a (.tup xs)) (e : Nls H H') : At H' a (.tup xs) := e.nl.get (fun l z => by cases z) h
theorem tNA {K : PySem.W.Frag} {H H' : Hp} {a : Addr} {xs : List V} (h : At H a (.tup xs)) (e : Nls H H') : SqT K H' a xs := st_of (getTN h e)
theorem getIN {H H' : Hp} {a C d : Addr} {fs : List (Str × V)} (h : At H a (.ins C d fs)) (e : Nls H H') : At H' a (.ins C d fs) := e.nl.get (fun l z => by cases z) h
/-! ### the row's defs by their names -/
abbrev FnP (K : PySem.W.Frag) (x : Str) (st : Stmt) (f : Addr) (fd : FuncData) : Prop := FunD K x x (defArgs st) (defBody st) (defScope st) [] [] f fd
def noFd : FuncData := PySem.W.fnOf "" "" { posonlyargs := [], args := [], vararg := none, kwonlyargs := [], kw_defaults := [], kwarg := none, defaults := [] } [] { kind := .function, names := [], isGenerator := false, isCoroutine := false } .none .none .none .none none .none .none
def fdOf (K : PySem.W.Frag) (a : Addr) : FuncData := match K.lookup a with
  | some ⟨_, _, .func fd, _⟩ => fd
  | _ => noFd
theorem fd_of {K : PySem.W.Frag} {x qual : Str} {params : Arguments} {body : List Stmt} {scope : Scope} {dvs : List V} {kws : List (Str × V)} {f : Addr} (h : ∃ fd, FunD K x qual params body scope dvs kws f fd) : FunD K x qual params body scope dvs kws f (fdOf K f) := by
  obtain ⟨fd, F⟩ := h
  have e : fdOf K f = fd := by
    obtain ⟨_, _, _, _, _, _, _, _, _, _, _, lk, _⟩ := F.ex
    unfold fdOf
    rw [lk]
  rw [e]
  exact F
/-! ### one step of a reading -/
def nT (Q : VK) : List V → Hp → Prop := fun xs H1 => xs.length ≤ sizeLine ∧ ∀ p, Fr H1 p → Q (.ref p) (upd H1 p (.tup xs))
def nL (Q : VK) : List V → Hp → Prop := fun xs H1 => xs.length ≤ sizeLine ∧ ∀ p, Fr H1 p → Q (.ref p) (upd H1 p (.lst xs))
section
variable {K : PySem.W.Frag} {σ : L2.St} {H H' : Hp} {Q : VK} {v x y : V} {ta tb te tc : TE} {r : R2} {D : Ends} {t u : TS} {c c1 c2 : TT} {ts : TA}
theorem w_var {i : Nat} (h : σ[i]? = some (some v)) (q : Q v H) : tVar i σ H Q := ⟨v, h, q⟩
theorem w_c (q : Q v H) : tC v σ H Q := q
theorem w_op (h : ta σ H fun x H1 => tb σ H1 fun y H2 => r x y H2 Q) : tOp r ta tb σ H Q := h
theorem w_un {r : V → Hp → VK → Prop} (h : ta σ H fun x H1 => r x H1 Q) : tUn r ta σ H Q := h
theorem w_cb {r : List V → Hp → VK → Prop} (h : ts σ H fun vs H1 => r vs H1 Q) : tCB r ts σ H Q := h
theorem w_nil {Q : List V → Hp → Prop} (h : Q [] H) : tNil σ H Q := h
theorem w_cons {Q : List V → Hp → Prop} (h : ta σ H fun x H1 => ts σ H1 fun xs H2 => Q (x :: xs) H2) : tCons ta ts σ H Q := h
theorem w_tup (h : ts σ H (nT Q)) : tTup ts σ H Q := h
theorem w_lst (h : ts σ H (nL Q)) : tLst ts σ H Q := h
theorem w_call {sp : Sp} {dvs : List V} {E : XK} (h : ts σ H fun vs H1 => sp (vs ++ dvs) H1 Q E) : tCall sp dvs E ts σ H Q := h
theorem w_call0 {sp : Sp} {E : XK} (h : ts σ H fun vs H1 => sp vs H1 Q E) : tCall sp [] E ts σ H Q := by
  show ts σ H fun vs H1 => sp (vs ++ []) H1 Q E
  simp only [List.append_nil]
  exact h
theorem w_test {Q : Bool → Hp → Prop} (h : te σ H fun x H1 => ∃ k, x = .bl k ∧ Q k H1) : tTest te σ H Q := h
theorem w_B {Q : Bool → Hp → Prop} (h : te σ H fun x H1 => ∃ k, x = .bl k ∧ Q k H1) : tB te σ H Q := h
theorem w_bl {R : Bool → Prop} {k : Bool} (h : R k) : ∃ k', (V.bl k) = .bl k' ∧ R k' := ⟨k, rfl, h⟩
theorem w_and {Q : Bool → Hp → Prop} (h : c1 σ H fun b H1 => if b = true then c2 σ H1 Q else Q false H1) : tAnd c1 c2 σ H Q := h
theorem w_or {Q : Bool → Hp → Prop} (h : c1 σ H fun b H1 => if b = true then Q true H1 else c2 σ H1 Q) : tOr c1 c2 σ H Q := h
theorem w_not {Q : Bool → Hp → Prop} (h : c σ H fun b H1 => Q (!b) H1) : tNot c σ H Q := h
theorem w_andV (h : ta σ H fun x H1 => ∃ k, x = .bl k ∧ if k = true then tb σ H1 Q else Q (.bl false) H1) : tAndV ta tb σ H Q := h
theorem w_orV (h : ta σ H fun x H1 => ∃ k, x = .bl k ∧ if k = true then Q (.bl true) H1 else tb σ H1 Q) : tOrV ta tb σ H Q := h
theorem w_notV (h : ta σ H fun x H1 => ∃ k, x = .bl k ∧ Q (.bl (!k)) H1) : tNotV ta σ H Q := h
theorem w_ifE (h : c σ H fun b H1 => if b = true then ta σ H1 Q else tb σ H1 Q) : tIf c ta tb σ H Q := h
theorem w_isN (h : ta σ H fun x H1 => Q (.bl (decide (x = .non))) H1) : tIsN ta σ H Q := h
theorem w_notN (h : ta σ H fun x H1 => Q (.bl (!decide (x = .non))) H1) : tNotN ta σ H Q := h
theorem w_seq (h : t ⟨u D, D.rt, D.bk, D.ct⟩ σ H) : tSeq t u D σ H := h
theorem w_asg {g : TG} (h : te σ H fun x H1 => g x σ H1 D.nx) : tAsg te g D σ H := h
theorem w_gn {i : Nat} {R : L2.St → Hp → Prop} (h : R (σ.set i (some v)) H) : gName i v σ H R := h
theorem w_ret (h : te σ H D.rt) : tRet te D σ H := h
theorem w_retN (h : D.rt .non H) : tRetN D σ H := h
theorem w_drop (h : te σ H fun _ H1 => D.nx σ H1) : tDrop te D σ H := h
theorem w_next (h : D.nx σ H) : tNext D σ H := h
theorem w_brk (h : D.bk σ H) : tBreak D σ H := h
theorem w_cnt (h : D.ct σ H) : tCont D σ H := h
theorem w_if (h : c σ H fun b H1 => if b = true then t D σ H1 else u D σ H1) : tIfS c t u D σ H := h
theorem w_par {i j : Nat} (h : ts σ H fun vs H1 => ∃ v w, vs = [v, w] ∧ D.nx ((σ.set i (some v)).set j (some w)) H1) : tPar i j ts D σ H := h
theorem w_exP {R : V → V → Prop} (h : R v x) : ∃ v' x', [v, x] = [v', x'] ∧ R v' x' := ⟨v, x, rfl, h⟩
theorem w_cut (Mid : L2.St → Hp → Prop) (h : t ⟨Mid, D.rt, D.bk, D.ct⟩ σ H) (k : ∀ σ' H', Mid σ' H' → u D σ' H') : C8.tCut t u D σ H := ⟨Mid, h, k⟩
theorem w_nx {f : L2.St → Hp → Prop} {g : VK} {bk ct : L2.St → Hp → Prop} (h : f σ H) : Ends.nx ⟨f, g, bk, ct⟩ σ H := h
theorem w_bk {f : L2.St → Hp → Prop} {g : VK} {bk ct : L2.St → Hp → Prop} (h : bk σ H) : Ends.bk ⟨f, g, bk, ct⟩ σ H := h
theorem w_ct {f : L2.St → Hp → Prop} {g : VK} {bk ct : L2.St → Hp → Prop} (h : ct σ H) : Ends.ct ⟨f, g, bk, ct⟩ σ H := h
theorem w_rt {f : L2.St → Hp → Prop} {g : VK} {bk ct : L2.St → Hp → Prop} (h : g v H) : Ends.rt ⟨f, g, bk, ct⟩ v H := h
theorem w_aug {i : Nat} {ti : TIp} {z : V} (h : σ[i]? = some (some z)) (q : te σ H fun y H1 => ti z y H1 fun z H2 => D.nx (σ.set i (some z)) H2) : tAug i te ti D σ H := ⟨z, h, q⟩
theorem w_ipI {f : Int → Int → Int} {i j : Int} (q : Q (.int (f i j)) H) : ipI f (.int i) (.int j) H Q := ⟨i, j, rfl, rfl, q⟩
theorem w_I0 {g : Int → Int → V} {i j : Int} (q : Q (g i j) H) : rI0 g (.int i) (.int j) H Q := ⟨i, j, rfl, rfl, q⟩
theorem w_I {C : Int → Int → Prop} {g : Int → Int → V} {i j : Int} (hc : C i j) (q : Q (g i j) H) : rI C g (.int i) (.int j) H Q := ⟨i, j, rfl, rfl, hc, q⟩
theorem w_pow {i j z : Int} (hc : CPow i j) (hz : i ^ j.toNat = z) (q : Q (.int z) H) : rI CPow (fun i j => .int (i ^ j.toNat)) (.int i) (.int j) H Q := ⟨i, j, rfl, rfl, hc, by show Q (.int (i ^ j.toNat)) H; rw [hz]; exact q⟩
theorem w_U {g : Int → V} {i : Int} (q : Q (g i) H) : rU g (.int i) H Q := ⟨i, rfl, q⟩
theorem w_eqI {i j : Int} (q : Q (.bl (decide (i = j))) H) : rEq (.int i) (.int j) H Q := ⟨rfl, by
  have e : decide (V.int i = V.int j) = decide (i = j) := by simp
  rw [e]; exact q⟩
theorem w_neI {i j : Int} (q : Q (.bl (!decide (i = j))) H) : rNe (.int i) (.int j) H Q := ⟨rfl, by
  have e : decide (V.int i = V.int j) = decide (i = j) := by simp
  rw [e]; exact q⟩
theorem w_eqS {i j : Str} (q : Q (.bl (decide (i = j))) H) : rEq (.str i) (.str j) H Q := ⟨rfl, by
  have e : decide (V.str i = V.str j) = decide (i = j) := by simp
  rw [e]; exact q⟩
theorem w_neS {i j : Str} (q : Q (.bl (!decide (i = j))) H) : rNe (.str i) (.str j) H Q := ⟨rfl, by
  have e : decide (V.str i = V.str j) = decide (i = j) := by simp
  rw [e]; exact q⟩
theorem w_isB {a b : Bool} (q : Q (.bl (decide (a = b))) H) : rIsB (.bl a) (.bl b) H Q := ⟨a, b, rfl, rfl, q⟩
theorem w_isnB {a b : Bool} (q : Q (.bl (!decide (a = b))) H) : rNotB (.bl a) (.bl b) H Q := ⟨a, b, rfl, rfl, q⟩
/-! tests -/
theorem w_dec {p : Prop} [Decidable p] {A B : Prop} (h1 : p → A) (h2 : ¬ p → B) : if decide p = true then A else B := by
  by_cases h : p
  · rw [decide_eq_true h]; exact h1 h
  · rw [decide_eq_false h]; exact h2 h
theorem w_ndec {p : Prop} [Decidable p] {A B : Prop} (h1 : ¬ p → A) (h2 : p → B) : if (!decide p) = true then A else B := by
  by_cases h : p
  · rw [decide_eq_true h]; exact h2 h
  · rw [decide_eq_false h]; exact h1 h
theorem w_decT {p : Prop} [Decidable p] {A B : Prop} (hp : p) (h : A) : if decide p = true then A else B := w_dec (fun _ => h) (fun n => absurd hp n)
theorem w_decF {p : Prop} [Decidable p] {A B : Prop} (hp : ¬ p) (h : B) : if decide p = true then A else B := w_dec (fun n => absurd n hp) (fun _ => h)
theorem w_ndecT {p : Prop} [Decidable p] {A B : Prop} (hp : ¬ p) (h : A) : if (!decide p) = true then A else B := w_ndec (fun _ => h) (fun n => absurd n hp)
theorem w_ndecF {p : Prop} [Decidable p] {A B : Prop} (hp : p) (h : B) : if (!decide p) = true then A else B := w_ndec (fun n => absurd hp n) (fun _ => h)
theorem w_bool {b : Bool} {A B : Prop} (h1 : b = true → A) (h2 : b = false → B) : if b = true then A else B := by
  cases b
  · exact h2 rfl
  · exact h1 rfl
theorem w_nbool {b : Bool} {A B : Prop} (h1 : b = false → A) (h2 : b = true → B) : if (!b) = true then A else B := by
  cases b
  · exact h1 rfl
  · exact h2 rfl
theorem w_T {A B : Prop} (h : A) : if true = true then A else B := h
theorem w_F {A B : Prop} (h : B) : if false = true then A else B := h
theorem w_nT {A B : Prop} (h : B) : if (!true) = true then A else B := h
theorem w_nF {A B : Prop} (h : A) : if (!false) = true then A else B := h

/-! new objects: the heap behind is named, what is known of it is said -/
theorem w_newT {xs : List V} (hz : xs.length ≤ sizeLine) (q : ∀ p H2, Fr H p → Ex H H2 → At H2 p (.tup xs) → Q (.ref p) H2) : nT Q xs H :=
  ⟨hz, fun p hp => q p _ hp (Ex.new hp) upd_same⟩
theorem w_newL {xs : List V} (hz : xs.length ≤ sizeLine) (q : ∀ p H2, Fr H p → Ex H H2 → At H2 p (.lst xs) → Q (.ref p) H2) : nL Q xs H :=
  ⟨hz, fun p hp => q p _ hp (Ex.new hp) upd_same⟩
end
/-! ### operators of several kinds -/
/-- a product that the model reckons -/
def CM (i j : Int) : Prop := CMul i j ∨ CMulX i j
theorem CM.of_left {i j : Int} (h : i.natAbs < 2 ^ 64) : CM i j := .inl (.inl ⟨by omega, by omega⟩)
theorem CM.of_right {i j : Int} (h : j.natAbs < 2 ^ 64) : CM i j := .inl (.inr ⟨by omega, by omega⟩)
theorem CM.of_pow {i j : Int} {a b : Nat} (ha : i.natAbs < 2 ^ a) (hb : j.natAbs < 2 ^ b) (h : a + b ≤ 134217728) : CM i j := .inr (mulx_ok ha hb h)
/-- bits of ints -/
theorem bt_mul {a b : Int} {n m : Nat} (ha : a.natAbs < 2 ^ n) (hb : b.natAbs < 2 ^ m) : (a * b).natAbs < 2 ^ (n + m) := by
  rw [Int.natAbs_mul, Nat.pow_add]
  exact Nat.mul_lt_mul'' ha hb
theorem bt_mono {a : Int} {n m : Nat} (ha : a.natAbs < 2 ^ n) (h : n ≤ m) : a.natAbs < 2 ^ m := Nat.lt_of_lt_of_le ha (Nat.pow_le_pow_right (by decide) h)
theorem bt_add {a b : Int} {n m : Nat} (ha : a.natAbs < 2 ^ n) (hb : b.natAbs < 2 ^ m) : (a + b).natAbs < 2 ^ (n + m + 1) := by
  have h := Int.natAbs_add_le a b
  have h1 : a.natAbs < 2 ^ (n + m) := bt_mono ha (by omega)
  have h2 : b.natAbs < 2 ^ (n + m) := bt_mono hb (by omega)
  rw [Nat.pow_succ]
  omega
theorem bt_addL {a b : Int} {n m k : Nat} (ha : a.natAbs < 2 ^ n) (hb : b.natAbs < 2 ^ m) (h1 : n ≤ k) (h2 : m ≤ k) : (a + b).natAbs < 2 ^ (k + 1) := by
  have h := Int.natAbs_add_le a b
  have h1 : a.natAbs < 2 ^ k := bt_mono ha h1
  have h2 : b.natAbs < 2 ^ k := bt_mono hb h2
  rw [Nat.pow_succ]
  omega
theorem bt_neg {a : Int} {n : Nat} (ha : a.natAbs < 2 ^ n) : (-a).natAbs < 2 ^ n := by rw [Int.natAbs_neg]; exact ha
theorem bt_sub {a b : Int} {n m : Nat} (ha : a.natAbs < 2 ^ n) (hb : b.natAbs < 2 ^ m) : (a - b).natAbs < 2 ^ (n + m + 1) := by
  rw [Int.sub_eq_add_neg]; exact bt_add ha (bt_neg hb)
theorem bt_subL {a b : Int} {n m k : Nat} (ha : a.natAbs < 2 ^ n) (hb : b.natAbs < 2 ^ m) (h1 : n ≤ k) (h2 : m ≤ k) : (a - b).natAbs < 2 ^ (k + 1) := by
  rw [Int.sub_eq_add_neg]; exact bt_addL ha (bt_neg hb) h1 h2
theorem bt_abs {a : Int} {n : Nat} (ha : a.natAbs < 2 ^ n) : ((a.natAbs : Int)).natAbs < 2 ^ n := by rw [Int.natAbs_natCast]; exact ha
theorem bt_fdiv {a b : Int} {n : Nat} (ha : a.natAbs < 2 ^ n) : (a / b).natAbs < 2 ^ n := Nat.lt_of_le_of_lt (Int.natAbs_ediv_le_natAbs _ _) ha
theorem cm {a b : Int} {n m : Nat} (ha : a.natAbs < 2 ^ n) (hb : b.natAbs < 2 ^ m) (h : n + m ≤ 100000) : CM a b := CM.of_pow ha hb (by omega)
def rInt1 : List V → Hp → VK → Prop := fun xs H Q => (∃ i, xs = [.int i] ∧ Q (.int i) H) ∨ ∃ k, xs = [.bl k] ∧ Q (.int (if k then 1 else 0)) H
def rTupOf (K : PySem.W.Frag) : List V → Hp → VK → Prop := fun xs H Q => ∃ p ys, xs = [.ref p] ∧ ((SqL K H p ys ∧ ∀ l, Fr H l → Q (.ref l) (upd H l (.tup ys))) ∨ (SqT K H p ys ∧ Q (.ref p) H))
def rListOf (K : PySem.W.Frag) : List V → Hp → VK → Prop := fun xs H Q => ∃ p ys, xs = [.ref p] ∧ (SqL K H p ys ∨ SqT K H p ys) ∧ ∀ l, Fr H l → Q (.ref l) (upd H l (.lst ys))
def rIns : V → List V → Hp → VK → Prop := fun x vs H Q => ∃ (l : Addr) (xs : List V) (i : Int) (y : V), x = .ref l ∧ vs = [.int i, y] ∧ At H l (.lst xs) ∧ xs.length < sizeLine ∧ 0 ≤ i ∧ i < 2 ^ 63 ∧ Q .non (upd H l (.lst (xs.take i.toNat ++ [y] ++ xs.drop i.toNat)))
def rShl : R2 := fun x y H Q => ∃ k : Nat, x = .int 1 ∧ y = .int (k : Int) ∧ k ≤ 134217727 ∧ Q (.int (2 ^ k)) H
def rShr : R2 := fun x y H Q => ∃ (n k : Nat), x = .int (n : Int) ∧ y = .int (k : Int) ∧ Q (.int ((n / 2 ^ k : Nat) : Int)) H
def rOdd : R2 := fun x y H Q => ∃ n : Nat, x = .int (n : Int) ∧ y = .int 1 ∧ Q (.int ((n % 2 : Nat) : Int)) H
def rMax2 : List V → Hp → VK → Prop := fun xs H Q => ∃ i j, xs = [.int i, .int j] ∧ Q (.int (if j > i then j else i)) H
def rMin2 : List V → Hp → VK → Prop := fun xs H Q => ∃ i j, xs = [.int i, .int j] ∧ Q (.int (if j < i then j else i)) H
def rAddZ : R2 := fun x y H Q => (rI0 fun i j => .int (i + j)) x y H Q ∨ rCat x y H Q
def rMulZ : R2 := fun x y H Q => rI CMul (fun i j => .int (i * j)) x y H Q ∨ rI CMulX (fun i j => .int (i * j)) x y H Q
def rEqZ (K : PySem.W.Frag) : R2 := fun x y H Q => rEq x y H Q ∨ rEqD K x y H Q
def rNeZ (K : PySem.W.Frag) : R2 := fun x y H Q => rNe x y H Q ∨ rNeD K x y H Q
section
variable {X : Cx}
theorem op_add : OpR X (binaryOp .Add) rAddZ := L2.op_add.or op_cat
theorem op_sub : OpR X (binaryOp .Sub) (rI0 fun i j => .int (i - j)) := L2.op_sub
theorem op_mul : OpR X (binaryOp .Mult) rMulZ := L2.op_mul.or op_mulX
theorem op_fdiv : OpR X (binaryOp .FloorDiv) (rI CDivW fun i j => .int (i / j)) := op_fdivW
theorem op_mod : OpR X (binaryOp .Mod) (rI (fun _ j => 0 < j) fun i j => .int (i % j)) := L2.op_mod
theorem un_neg : UnR X (unaryOp .USub) (rU fun i => .int (-i)) := L2.un_neg
theorem op_lt : OpR X (compareOp .Lt) (rI0 fun i j => .bl (decide (i < j))) := L2.op_lt
theorem op_le : OpR X (compareOp .LtE) (rI0 fun i j => .bl (decide (i ≤ j))) := L2.op_le
theorem op_gt : OpR X (compareOp .Gt) (rI0 fun i j => .bl (decide (j < i))) := L2.op_gt
theorem op_ge : OpR X (compareOp .GtE) (rI0 fun i j => .bl (decide (j ≤ i))) := L2.op_ge
theorem call_max2 (hc : X.calm = true) : CallR X (.builtin "max") rMax2 := L2.call_max2 hc
theorem call_min2 (hc : X.calm = true) : CallR X (.builtin "min") rMin2 := L2.call_min2 hc
theorem op_shl : OpR X (binaryOp .LShift) rShl := op_oneShl
theorem op_shr : OpR X (binaryOp .RShift) rShr := by
  intro pins s σ H x y u v Q I rx ry h
  obtain ⟨n, k, rfl, rfl, q⟩ := h
  refine op_shrN pins s σ H _ _ u v Q I rx ry ⟨(n : Int), k, rfl, rfl, ?_⟩
  have e : (n : Int) / 2 ^ k = ((n / 2 ^ k : Nat) : Int) := by rw [Int.natCast_ediv, Int.natCast_pow]; rfl
  rw [e]
  exact q
theorem op_and1 : OpR X (binaryOp .BitAnd) rOdd := op_odd
variable {K : PySem.W.Frag}
theorem op_eq (hK : X.K = K) (hu : X.A.units + 64 < cLine) : OpR X (compareOp .Eq) (rEqZ K) := hK ▸ L2.op_eq.or (op_eqD hu)
theorem op_ne (hK : X.K = K) (hu : X.A.units + 64 < cLine) : OpR X (compareOp .NotEq) (rNeZ K) := hK ▸ L2.op_ne.or (op_neD hu)
theorem op_in (hK : X.K = K) : OpR X (compareOp .In) (rIn K false) := hK ▸ op_in_seq
theorem op_notin (hK : X.K = K) : OpR X (compareOp .NotIn) (rIn K true) := hK ▸ op_notIn_seq
theorem ix (hK : X.K = K) : IxR X (rIx K) := hK ▸ ix_seq
theorem slL (hK : X.K = K) : SlR X (rSlL K) := hK ▸ sl_list
theorem slT (hK : X.K = K) : SlR X (rSlT K) := hK ▸ sl_tup
theorem call_len (hK : X.K = K) : CallR X (.builtin "len") (rLen K) := hK ▸ L2.call_len
theorem mt_ins : MtR X "list.insert" rIns := mt_insert
theorem call_int : CallR X (.type "int") rInt1 := call_int1
theorem call_tuple (hK : X.K = K) : CallR X (.type "tuple") (rTupOf K) := hK ▸ call_tuple_of
theorem call_list (hK : X.K = K) : CallR X (.type "list") (rListOf K) := hK ▸ call_list_of
theorem call_isi (hK : X.K = K) : CallR X (.builtin "isinstance") (rIsi K) := hK ▸ L2.call_isi
theorem call_sum (hK : X.K = K) (hc : X.calm = true) : CallR X (.builtin "sum") (rSum K) := hK ▸ cr_sum hc
theorem call_min (hK : X.K = K) (hc : X.calm = true) : CallR X (.builtin "min") (rMin K) := hK ▸ cr_min hc
theorem call_max (hK : X.K = K) (hc : X.calm = true) : CallR X (.builtin "max") (rMax K) := hK ▸ cr_max hc
theorem call_any (hK : X.K = K) (hc : X.calm = true) : CallR X (.builtin "any") (rAny K) := hK ▸ cr_any hc
theorem call_all (hK : X.K = K) (hc : X.calm = true) : CallR X (.builtin "all") (rAll K) := hK ▸ cr_all hc
theorem call_sorted (hK : X.K = K) : CallR X (.builtin "sorted") (rSorted K) := hK ▸ cr_sorted
theorem piL (hK : X.K = K) {tg l : Expr} {tl : TE} (hl : PE X l tl) : PI X tg l (iList K tl) := hK ▸ pi_list hl
theorem piT (hK : X.K = K) {tg l : Expr} {tl : TE} (hl : PE X l tl) : PI X tg l (iTup K tl) := hK ▸ pi_tup hl
theorem fld (hK : X.K = K) {e : Expr} {ta : TE} {f : Str} {pos : Pos} (he : PE X e ta) (hb : attributeBase e f X.env (eval e X.env) = eval e X.env) : PE X (.Attribute e f pos) (tFld K ta f) := hK ▸ pe_fld he hb
theorem con (hK : X.K = K) {e : Expr} {ta : TE} {f : Str} {pos : Pos} (he : PE X e ta) (hb : attributeBase e f X.env (eval e X.env) = eval e X.env) : PE X (.Attribute e f pos) (tCon K ta f) := hK ▸ pe_con he hb
end
section
variable {K : PySem.W.Frag} {σ : L2.St} {H H' : Hp} {Q : VK} {v x y : V} {a b p : Addr} {xs ys : List V} {i j : Int}
theorem w_addI (q : Q (.int (i + j)) H) : rAddZ (.int i) (.int j) H Q := .inl ⟨i, j, rfl, rfl, q⟩
theorem w_addL (h1 : At H a (.lst xs)) (h2 : At H b (.lst ys)) (hz : xs.length + ys.length ≤ sizeLine) (q : ∀ p H2, Fr H p → Ex H H2 → At H2 p (.lst (xs ++ ys)) → Q (.ref p) H2) : rAddZ (.ref a) (.ref b) H Q :=
  .inr ⟨a, b, xs, ys, rfl, rfl, h1, h2, hz, fun p hp => q p _ hp (Ex.new hp) upd_same⟩
theorem w_mulI (hc : CM i j) (q : Q (.int (i * j)) H) : rMulZ (.int i) (.int j) H Q := hc.elim (fun h => .inl ⟨i, j, rfl, rfl, h, q⟩) fun h => .inr ⟨i, j, rfl, rfl, h, q⟩
theorem w_eqZI (q : Q (.bl (decide (i = j))) H) : rEqZ K (.int i) (.int j) H Q := .inl (w_eqI q)
theorem w_neZI (q : Q (.bl (!decide (i = j))) H) : rNeZ K (.int i) (.int j) H Q := .inl (w_neI q)
theorem w_eqZS {i j : Str} (q : Q (.bl (decide (i = j))) H) : rEqZ K (.str i) (.str j) H Q := .inl (w_eqS q)
theorem w_neZS {i j : Str} (q : Q (.bl (!decide (i = j))) H) : rNeZ K (.str i) (.str j) H Q := .inl (w_neS q)
theorem w_int1 (q : Q (.int i) H) : rInt1 [.int i] H Q := .inl ⟨i, rfl, q⟩
theorem w_tupL (h : SqL K H a xs) (q : ∀ p H2, Fr H p → Ex H H2 → At H2 p (.tup xs) → Q (.ref p) H2) : rTupOf K [.ref a] H Q := ⟨a, xs, rfl, .inl ⟨h, fun p hp => q p _ hp (Ex.new hp) upd_same⟩⟩
theorem w_tupT (h : SqT K H a xs) (q : Q (.ref a) H) : rTupOf K [.ref a] H Q := ⟨a, xs, rfl, .inr ⟨h, q⟩⟩
theorem w_listL (h : SqL K H a xs) (q : ∀ p H2, Fr H p → Ex H H2 → At H2 p (.lst xs) → Q (.ref p) H2) : rListOf K [.ref a] H Q := ⟨a, xs, rfl, .inl h, fun p hp => q p _ hp (Ex.new hp) upd_same⟩
theorem w_listT (h : SqT K H a xs) (q : ∀ p H2, Fr H p → Ex H H2 → At H2 p (.lst xs) → Q (.ref p) H2) : rListOf K [.ref a] H Q := ⟨a, xs, rfl, .inr h, fun p hp => q p _ hp (Ex.new hp) upd_same⟩
theorem w_lenL (h : SqL K H a xs) (q : Q (.int xs.length) H) : rLen K [.ref a] H Q := ⟨_, _, rfl, .inl ⟨xs, h, rfl⟩, q⟩
theorem w_lenT (h : SqT K H a xs) (q : Q (.int xs.length) H) : rLen K [.ref a] H Q := ⟨_, _, rfl, .inr ⟨xs, h, rfl⟩, q⟩
theorem w_lenLI {ns : List Int} (h : SqL K H a (ns.map V.int)) (q : Q (.int ns.length) H) : rLen K [.ref a] H Q := w_lenL h (by rw [List.length_map]; exact q)
theorem w_lenTI {ns : List Int} (h : SqT K H a (ns.map V.int)) (q : Q (.int ns.length) H) : rLen K [.ref a] H Q := w_lenT h (by rw [List.length_map]; exact q)
theorem atI_int {ns : List Int} (h0 : 0 ≤ i) (h1 : i < ns.length) : atI (ns.map V.int) i = some (.int (ns.getD i.toNat 0)) := by
  unfold atI ixN
  rw [if_pos h0, List.length_map, if_pos h1]
  show (ns.map V.int)[i.toNat]? = _
  have h : i.toNat < ns.length := by omega
  rw [List.getElem?_map, List.getD_eq_getElem?_getD, List.getElem?_eq_getElem h]
  rfl
theorem w_ixLI {ns : List Int} {k : Nat} (h : SqL K H a (ns.map V.int)) (hk : i.toNat = k) (h0 : 0 ≤ i) (h1 : i < ns.length) (q : Q (.int (ns.getD k 0)) H) : rIx K (.ref a) (.int i) H Q := .inl ⟨a, _, i, _, rfl, rfl, h, atI_int h0 h1, hk ▸ q⟩
theorem w_ixTI {ns : List Int} {k : Nat} (h : SqT K H a (ns.map V.int)) (hk : i.toNat = k) (h0 : 0 ≤ i) (h1 : i < ns.length) (q : Q (.int (ns.getD k 0)) H) : rIx K (.ref a) (.int i) H Q := .inr (.inl ⟨a, _, i, _, rfl, rfl, h, atI_int h0 h1, hk ▸ q⟩)
theorem w_ixL (h : SqL K H a xs) (ha : atI xs i = some v) (q : Q v H) : rIx K (.ref a) (.int i) H Q := .inl ⟨a, _, i, _, rfl, rfl, h, ha, q⟩
theorem w_ixT (h : SqT K H a xs) (ha : atI xs i = some v) (q : Q v H) : rIx K (.ref a) (.int i) H Q := .inr (.inl ⟨a, _, i, _, rfl, rfl, h, ha, q⟩)
theorem w_bm {T : String} {r : V → List V → Hp → VK → Prop} {to : TE} {t : TA} (h : to σ H fun x H1 => tyV K T x H1 ∧ t σ H1 fun xs H2 => r x xs H2 Q) : tBM K T r to t σ H Q := h
theorem w_bm0 {T : String} {r : V → List V → Hp → VK → Prop} {to : TE} (h : to σ H fun x H1 => tyV K T x H1 ∧ r x [] H1 Q) : tBM0 K T r to σ H Q := h
/-- the object of a list's method stands -/
theorem w_tyL {A : Prop} (h : At H a (.lst xs)) (k : A) : tyV K "list" (.ref a) H ∧ A := ⟨.inl ⟨rfl, _, sq_of h⟩, k⟩
theorem w_app (h : At H a (.lst xs)) (hz : xs.length < sizeLine) (q : ∀ H2, At H2 a (.lst (xs ++ [v])) → Nl H H2 → (∀ H0, Ex H0 H → Fr H0 a → Ex H0 H2) → (∀ b o, b ≠ a → At H b o → At H2 b o) → Q .non H2) : rAppend (.ref a) [v] H Q :=
  ⟨a, xs, v, rfl, rfl, h, hz, q _ upd_same (Nl.upd h) (fun H0 e n => Ex.mut e n) (fun b o hb e => by unfold At; rw [upd_ne hb]; exact e)⟩
theorem w_sl {r : V → Option Int → Option Int → Hp → VK → Prop} {te : TE} {tl th : TO} (h : te σ H fun x H1 => tl σ H1 fun l H2 => th σ H2 fun u H3 => r x l u H3 Q) : tSl r te tl th σ H Q := h
theorem w_noPart {Q : Option Int → Hp → Prop} (h : Q none H) : tNoPart σ H Q := h
theorem w_part {t : TE} {Q : Option Int → Hp → Prop} (h : t σ H fun x H1 => ∃ i, x = .int i ∧ Q (some i) H1) : tPart t σ H Q := h
theorem w_exI {R : Int → Prop} (h : R i) : ∃ i', V.int i = .int i' ∧ R i' := ⟨i, rfl, h⟩
theorem w_slL {lo hi : Option Int} (h : SqL K H a xs) (q : ∀ p H2, Fr H p → Ex H H2 → At H2 p (.lst (cutV xs lo hi)) → Q (.ref p) H2) : rSlL K (.ref a) lo hi H Q := ⟨a, xs, rfl, h, fun p hp => q p _ hp (Ex.new hp) upd_same⟩
theorem cut_from {xs : List V} (h : 0 ≤ i) : cutV xs (some i) none = xs.drop i.toNat := by
  obtain ⟨k, rfl⟩ := Int.eq_ofNat_of_zero_le h
  unfold cutV
  rw [HT.sIx_nat, HT.sIx_none, Int.toNat_natCast]
  by_cases hk : k ≤ xs.length
  · rw [Nat.min_eq_left hk, List.take_of_length_le]
    rw [List.length_drop]
    exact Nat.le_refl _
  · rw [Nat.min_eq_right (by omega), Nat.sub_self, List.take_zero, List.drop_eq_nil_of_le (by omega)]
theorem cut_to {xs : List V} (h : 0 ≤ i) : cutV xs none (some i) = xs.take i.toNat := by
  obtain ⟨k, rfl⟩ := Int.eq_ofNat_of_zero_le h
  unfold cutV
  rw [HT.sIx_nat, HT.sIx_none, Int.toNat_natCast, List.drop_zero, Nat.sub_zero]
  by_cases hk : k ≤ xs.length
  · rw [Nat.min_eq_left hk]
  · rw [Nat.min_eq_right (by omega), List.take_of_length_le (Nat.le_refl _), List.take_of_length_le (by omega)]
theorem cut_ft {xs : List V} (h : 0 ≤ i) (h2 : 0 ≤ j) : cutV xs (some i) (some j) = (xs.drop i.toNat).take (j.toNat - i.toNat) := by
  obtain ⟨k, rfl⟩ := Int.eq_ofNat_of_zero_le h
  obtain ⟨l, rfl⟩ := Int.eq_ofNat_of_zero_le h2
  unfold cutV
  rw [HT.sIx_nat, HT.sIx_nat, Int.toNat_natCast, Int.toNat_natCast]
  by_cases hk : k ≤ xs.length
  · rw [Nat.min_eq_left hk]
    by_cases hl : l ≤ xs.length
    · rw [Nat.min_eq_left hl]
    · rw [Nat.min_eq_right (by omega), List.take_of_length_le (by rw [List.length_drop]; exact Nat.le_refl _), List.take_of_length_le (by rw [List.length_drop]; omega)]
  · rw [Nat.min_eq_right (by omega : xs.length ≤ k), List.drop_eq_nil_of_le (Nat.le_refl _), List.drop_eq_nil_of_le (by omega), List.take_nil, List.take_nil]
theorem w_slLIf {ns : List Int} (h : SqL K H a (ns.map V.int)) (h0 : 0 ≤ i) (q : ∀ p H2, Fr H p → Ex H H2 → At H2 p (.lst ((ns.drop i.toNat).map V.int)) → Q (.ref p) H2) : rSlL K (.ref a) (some i) none H Q := w_slL h fun p H2 a b c => q p H2 a b (by unfold At at *; rw [c, cut_from h0, List.map_drop])
theorem w_slLIt {ns : List Int} (h : SqL K H a (ns.map V.int)) (h0 : 0 ≤ i) (q : ∀ p H2, Fr H p → Ex H H2 → At H2 p (.lst ((ns.take i.toNat).map V.int)) → Q (.ref p) H2) : rSlL K (.ref a) none (some i) H Q := w_slL h fun p H2 a b c => q p H2 a b (by unfold At at *; rw [c, cut_to h0, List.map_take])
theorem w_slLIft {ns : List Int} (h : SqL K H a (ns.map V.int)) (h0 : 0 ≤ i) (h1 : 0 ≤ j) (q : ∀ p H2, Fr H p → Ex H H2 → At H2 p (.lst (((ns.drop i.toNat).take (j.toNat - i.toNat)).map V.int)) → Q (.ref p) H2) : rSlL K (.ref a) (some i) (some j) H Q := w_slL h fun p H2 a b c => q p H2 a b (by unfold At at *; rw [c, cut_ft h0 h1, List.map_take, List.map_drop])
theorem w_ins {k : Nat} (h : At H a (.lst xs)) (hz : xs.length < sizeLine) (hk : i.toNat = k) (h0 : 0 ≤ i) (h1 : i < 2 ^ 63) (q : ∀ H2, At H2 a (.lst (xs.take k ++ [v] ++ xs.drop k)) → Nl H H2 → (∀ H0, Ex H0 H → Fr H0 a → Ex H0 H2) → (∀ b o, b ≠ a → At H b o → At H2 b o) → Q .non H2) : rIns (.ref a) [.int i, v] H Q :=
  ⟨a, xs, i, v, rfl, rfl, h, hz, h0, h1, q _ (by unfold At; rw [upd_same, hk]) (Nl.upd h) (fun H0 e n => Ex.mut e n) (fun b o hb e => by unfold At; rw [upd_ne hb]; exact e)⟩
theorem w_gT {n : Nat} {t : TGs} {R : L2.St → Hp → Prop} (h : SqT K H a xs) (hn : xs.length = n) (q : t xs σ H R) : gTup K n t (.ref a) σ H R := ⟨a, xs, rfl, h, hn, q⟩
theorem w_gC {g : TG} {u : TGs} {R : L2.St → Hp → Prop} (q : g v σ H fun σ' H' => u xs σ' H' R) : gCons g u (v :: xs) σ H R := ⟨v, xs, rfl, q⟩
theorem w_gN {R : L2.St → Hp → Prop} (q : R σ H) : gNil [] σ H R := ⟨rfl, q⟩
theorem w_yes {Q : Bool → Hp → Prop} (h : Q true H) : tYes σ H Q := h
theorem w_wp {A : Prop} {vs : List Nat} {σ1 σ2 : L2.St} (h : wipe σ1 vs = wipe σ2 vs) (k : A) : wipe σ1 vs = wipe σ2 vs ∧ A := ⟨h, k⟩
theorem w_setL {k : Nat} {R : Hp → Prop} (h : At H a (.lst xs)) (h0 : ixN xs.length i = some k) (q : ∀ H2, At H2 a (.lst (xs.set k v)) → Nl H H2 → (∀ H0, Ex H0 H → Fr H0 a → Ex H0 H2) → (∀ b o, b ≠ a → At H b o → At H2 b o) → R H2) : rSetL (.ref a) (.int i) v H R :=
  ⟨a, xs, i, k, rfl, rfl, h, h0, q _ upd_same (Nl.upd h) (fun H0 e n => Ex.mut e n) (fun b o hb e => by unfold At; rw [upd_ne hb]; exact e)⟩
/-! == of lists and tuples of ints that are the same -/
theorem dpAll_ints : ∀ ns : List Int, DpAll K H (ns.map V.int) (ns.map PyData.int)
  | [] => .nil
  | n :: r => .cons (.int n) (dpAll_ints r)
theorem eqvAll_ints : ∀ ns ms : List Int, PyData.eqvAll (ns.map PyData.int) (ms.map PyData.int) = decide (ns = ms)
  | [], [] => by simp [PyData.eqvAll]
  | [], _ :: _ => by simp [PyData.eqvAll]
  | _ :: _, [] => by simp [PyData.eqvAll]
  | a :: r, b :: t => by
    simp only [List.map_cons, PyData.eqvAll, PyData.eqv, eqvAll_ints r t]
    by_cases h : a = b <;> by_cases h' : r = t <;> simp [h, h']
theorem shaped_tup (ns : List Int) : SeqAt.shaped (.tuple (ns.map PyData.int)) = true := by
  simp [SeqAt.shaped, PyData.canLay0, PyData.depth, PySem.W.ke_canLayAll0, PySem.W.ke_depthAll]
theorem w_eqLI {ns ms : List Int} (h1 : SqL K H a (ns.map V.int)) (h2 : SqL K H b (ms.map V.int)) (q : Q (.bl (decide (ns = ms))) H) : rEqZ K (.ref a) (.ref b) H Q :=
  .inr ⟨_, _, .lst h1 (dpAll_ints ns), .lst h2 (dpAll_ints ms), PySem.W.ke_shaped_ints ns, PySem.W.ke_shaped_ints ms, by simp only [PyData.eqv, eqvAll_ints]; exact q⟩
theorem w_neLI {ns ms : List Int} (h1 : SqL K H a (ns.map V.int)) (h2 : SqL K H b (ms.map V.int)) (q : Q (.bl (!decide (ns = ms))) H) : rNeZ K (.ref a) (.ref b) H Q :=
  .inr ⟨_, _, .lst h1 (dpAll_ints ns), .lst h2 (dpAll_ints ms), PySem.W.ke_shaped_ints ns, PySem.W.ke_shaped_ints ms, by simp only [PyData.eqv, eqvAll_ints]; exact q⟩
theorem w_eqTI {ns ms : List Int} (h1 : SqT K H a (ns.map V.int)) (h2 : SqT K H b (ms.map V.int)) (q : Q (.bl (decide (ns = ms))) H) : rEqZ K (.ref a) (.ref b) H Q :=
  .inr ⟨_, _, .tup h1 (dpAll_ints ns), .tup h2 (dpAll_ints ms), shaped_tup ns, shaped_tup ms, by simp only [PyData.eqv, eqvAll_ints]; exact q⟩
theorem w_neTI {ns ms : List Int} (h1 : SqT K H a (ns.map V.int)) (h2 : SqT K H b (ms.map V.int)) (q : Q (.bl (!decide (ns = ms))) H) : rNeZ K (.ref a) (.ref b) H Q :=
  .inr ⟨_, _, .tup h1 (dpAll_ints ns), .tup h2 (dpAll_ints ms), shaped_tup ns, shaped_tup ms, by simp only [PyData.eqv, eqvAll_ints]; exact q⟩
theorem w_shl {k : Nat} (hk : k ≤ 134217727) (q : Q (.int (2 ^ k)) H) : rShl (.int 1) (.int (k : Int)) H Q := ⟨k, rfl, rfl, hk, q⟩
theorem w_shr {n k : Nat} (q : Q (.int ((n / 2 ^ k : Nat) : Int)) H) : rShr (.int (n : Int)) (.int (k : Int)) H Q := ⟨n, k, rfl, rfl, q⟩
theorem w_odd {n : Nat} (q : Q (.int ((n % 2 : Nat) : Int)) H) : rOdd (.int (n : Int)) (.int 1) H Q := ⟨n, rfl, rfl, q⟩
theorem w_sum {ns : List Int} (h : SqL K H a (ns.map V.int)) (q : Q (.int ns.sum) H) : rSum K [.ref a] H Q := ⟨a, ns, rfl, h, q⟩
theorem w_max2 (q : Q (.int (max i j)) H) : rMax2 [.int i, .int j] H Q := ⟨i, j, rfl, by
  have e : (if j > i then j else i) = max i j := by split <;> omega
  rw [e]; exact q⟩
theorem w_min2 (q : Q (.int (min i j)) H) : rMin2 [.int i, .int j] H Q := ⟨i, j, rfl, by
  have e : (if j < i then j else i) = min i j := by split <;> omega
  rw [e]; exact q⟩
/-! membership among ints -/
theorem inV_int {ns : List Int} : inV (.int i) (ns.map V.int) = decide (i ∈ ns) := by
  unfold inV
  induction ns with
  | nil => simp
  | cons n r ih =>
    rw [List.map_cons, List.any_cons, ih]
    have e : eqV (.int n) (.int i) = decide (n = i) := by unfold eqV; rfl
    rw [e]
    by_cases h : n = i
    · subst h; simp
    · have h' : ¬ i = n := fun z => h z.symm
      simp [h, h']
theorem flat_ints {ns : List Int} : (ns.map V.int).all flatV = true := by
  rw [List.all_map]
  exact List.all_eq_true.mpr fun _ _ => rfl
theorem w_inT {ns : List Int} (h : SqT K H a (ns.map V.int)) (q : Q (.bl (decide (i ∈ ns))) H) : rIn K false (.int i) (.ref a) H Q := ⟨a, _, rfl, .inr h, rfl, flat_ints, by rw [inV_int]; exact q⟩
theorem w_ninT {ns : List Int} (h : SqT K H a (ns.map V.int)) (q : Q (.bl (!decide (i ∈ ns))) H) : rIn K true (.int i) (.ref a) H Q := ⟨a, _, rfl, .inr h, rfl, flat_ints, by rw [inV_int]; exact q⟩
theorem w_inL {ns : List Int} (h : SqL K H a (ns.map V.int)) (q : Q (.bl (decide (i ∈ ns))) H) : rIn K false (.int i) (.ref a) H Q := ⟨a, _, rfl, .inl h, rfl, flat_ints, by rw [inV_int]; exact q⟩
theorem w_ninL {ns : List Int} (h : SqL K H a (ns.map V.int)) (q : Q (.bl (!decide (i ∈ ns))) H) : rIn K true (.int i) (.ref a) H Q := ⟨a, _, rfl, .inl h, rfl, flat_ints, by rw [inV_int]; exact q⟩
/-- the ints of a list of ints -/
def unI : List V → Option (List Int)
  | [] => some []
  | .int i :: r => match unI r with
    | some l => some (i :: l)
    | none => none
  | _ => none
theorem unI_ok : ∀ {xs : List V} {ns : List Int}, unI xs = some ns → xs = ns.map V.int
  | [], ns, h => by cases h; rfl
  | x :: r, ns, h => by
    cases x <;> simp only [unI, reduceCtorEq] at h
    split at h
    · rename_i l e
      cases h
      rw [unI_ok e]
      rfl
    · cases h
theorem lU {ns : List Int} (h : SqL K H a xs) (e : unI xs = some ns) : SqL K H a (ns.map V.int) := unI_ok e ▸ h
theorem tU {ns : List Int} (h : SqT K H a xs) (e : unI xs = some ns) : SqT K H a (ns.map V.int) := unI_ok e ▸ h
/-! lists of naturals -/
theorem getD_map_cast (os : List Nat) (k : Nat) : (os.map (fun n : Nat => (n : Int))).getD k 0 = ((os.getD k 0 : Nat) : Int) := by
  simp only [List.getD_eq_getElem?_getD, List.getElem?_map]
  cases os[k]? <;> rfl
theorem getD_get {α : Type} (xs : List α) (k : Nat) (d : α) (h : k < xs.length) : xs.getD k d = xs[k] := by
  rw [List.getD_eq_getElem?_getD, List.getElem?_eq_getElem h]; rfl
theorem w_ixTN {os : List Nat} {k : Nat} (h : SqT K H a ((os.map fun n : Nat => (n : Int)).map V.int)) (hk : i.toNat = k) (h0 : 0 ≤ i) (h1 : i < os.length) (q : Q (.int ((os.getD k 0 : Nat) : Int)) H) : rIx K (.ref a) (.int i) H Q :=
  w_ixTI h hk h0 (by rw [List.length_map]; exact h1) (by rw [getD_map_cast]; exact q)
theorem w_ixLN {os : List Nat} {k : Nat} (h : SqL K H a ((os.map fun n : Nat => (n : Int)).map V.int)) (hk : i.toNat = k) (h0 : 0 ≤ i) (h1 : i < os.length) (q : Q (.int ((os.getD k 0 : Nat) : Int)) H) : rIx K (.ref a) (.int i) H Q :=
  w_ixLI h hk h0 (by rw [List.length_map]; exact h1) (by rw [getD_map_cast]; exact q)
theorem get_nat {os : List Nat} {k : Nat} {x : V} (h : ((os.map fun n : Nat => (n : Int)).map V.int)[k]? = some x) : k < os.length ∧ x = .int ((os.getD k 0 : Nat) : Int) := by
  have h1 : k < os.length := by simpa using (List.getElem?_eq_some_iff.mp h).1
  have h2 : x = ((os.map fun n : Nat => (n : Int)).map V.int)[k]'(by simpa using h1) := by
    rw [List.getElem?_eq_getElem (by simpa using h1)] at h; exact (Option.some.inj h).symm
  refine ⟨h1, ?_⟩
  rw [h2, List.getElem_map, List.getElem_map, getD_get _ _ _ h1]
theorem get_int {ns : List Int} {k : Nat} {x : V} (h : (ns.map V.int)[k]? = some x) : k < ns.length ∧ x = .int (ns.getD k 0) := by
  rw [List.getElem?_map] at h
  cases e : ns[k]? with
  | none => rw [e] at h; cases h
  | some y =>
    rw [e] at h
    cases h
    exact ⟨(List.getElem?_eq_some_iff.mp e).1, by rw [List.getD_eq_getElem?_getD, e]; rfl⟩
theorem range_map {α : Type} (es : List Int) (f : Int → α) : (List.range es.length).map (fun i => f (es.getD i 0)) = es.map f := by
  apply List.ext_getElem
  · simp
  · intro i h1 h2
    simp at h1 h2
    simp [h1]
theorem range_filter {α : Type} (es : List Int) (P : Int → Bool) (f : Int → α) : ((List.range es.length).filter fun i => P (es.getD i 0)).map (fun i => f (es.getD i 0)) = (es.filter P).map f := by
  have e : (List.range es.length).map (fun i => es.getD i 0) = es := (range_map es id).trans (List.map_id es)
  conv => rhs; rw [← e]
  rw [List.filter_map, List.map_map]
  rfl
theorem range_id (es : List Int) : (List.range es.length).map (fun i => es.getD i 0) = es := (range_map es id).trans (List.map_id es)
/-! isinstance with a built-in class -/
theorem w_isiB {a b : String} {r : Bool} (ty : TyX K H x (.type a)) (h : kitB a b = some r) (q : Q (.bl r) H) : rIsi K [x, .ty b] H Q := ⟨x, _, _, _, r, rfl, .ty b, ty, kit_ty h, q⟩
theorem w_isiII (q : Q (.bl true) H) : rIsi K [.int i, .ty "int"] H Q := w_isiB (.base (.int _)) (by decide +kernel) q
theorem w_isiIB (q : Q (.bl false) H) : rIsi K [.int i, .ty "bool"] H Q := w_isiB (.base (.int _)) (by decide +kernel) q
theorem w_isiBI {k : Bool} (q : Q (.bl true) H) : rIsi K [.bl k, .ty "int"] H Q := w_isiB (.base (.bl _)) (by decide +kernel) q
theorem w_isiBB {k : Bool} (q : Q (.bl true) H) : rIsi K [.bl k, .ty "bool"] H Q := w_isiB (.base (.bl _)) (by decide +kernel) q
theorem w_isiTT (h : At H a (.tup xs)) (q : Q (.bl true) H) : rIsi K [.ref a, .ty "tuple"] H Q := w_isiB (.base (.tup h)) (by decide +kernel) q
theorem w_isiLL (h : At H a (.lst xs)) (q : Q (.bl true) H) : rIsi K [.ref a, .ty "list"] H Q := w_isiB (.base (.lst h)) (by decide +kernel) q
theorem w_isiSS {z : Str} (q : Q (.bl true) H) : rIsi K [.str z, .ty "str"] H Q := w_isiB (.base (.str _)) (by decide +kernel) q
end
/-! ### loops: what is walked (Src), the loop's goal (FG), a comprehension's (CG) -/
/-- J takes n turns while Φ holds; the i-th thing x stands in the heap behind as Y says -/
structure Src (J : It) (Φ : Hp → Prop) (n : Nat) (Y : Nat → V → Hp → Prop) : Prop where
  go : ∀ i H', Φ H' → i < n → J.go i H'
  stop : ∀ H', Φ H' → J.stop n H'
  yld : ∀ i H' x H'', Φ H' → i < n → J.yld i H' x H'' → Ex H' H'' ∧ Y i x H''
def FG (J : It) (g : TG) (tb : TS) (D : Ends) (σ : L2.St) (H1 : Hp) : Prop := ∃ W : Nat → Nat → L2.St → Hp → Prop, (∃ m, W 0 m σ H1) ∧ ∀ i m σ H, W i m σ H →
  (J.stop i H ∧ D.nx σ H) ∨ (J.go i H ∧ ∃ N : L2.St → Hp → Prop, (∀ σ' H', N σ' H' → ∃ m', m' < m ∧ W (i + 1) m' σ' H') ∧ ∀ x H', J.yld i H x H' → g x σ H' fun σ2 H2 => tb { D with nx := N, ct := N, bk := D.nx } σ2 H2)
def CG (J : It) (g : TG) (tt : TT) (te : TE) (vs : List Nat) (σ : L2.St) (H1 : Hp) (Q : VK) : Prop := ∀ D, H1 D = none → ∃ W : Nat → Nat → Hp → Prop, (∃ m, W 0 m (upd H1 D (.lst []))) ∧ ∀ i m H, W i m H →
  (J.stop i H ∧ Q (.ref D) H) ∨ (J.go i H ∧ ∃ Nx : Hp → Prop, (∀ H', Nx H' → ∃ m', m' < m ∧ W (i + 1) m' H') ∧ ∀ x H', J.yld i H x H' → g x (wipe σ vs) H' fun σ2 H2 => wipe σ2 vs = wipe σ vs ∧ tt σ2 H2 fun b H3 =>
    if b = true then te σ2 H3 fun y H4 => ∃ acc, H4 D = some (.lst acc) ∧ acc.length < sizeLine ∧ Nx (upd H4 D (.lst (acc ++ [y]))) else Nx H3)
section
variable {K : PySem.W.Frag} {σ : L2.St} {H H' : Hp} {Q : VK} {v x y : V} {a b p : Addr} {xs ys : List V} {i j : Int} {J : It} {Φ : Hp → Prop} {n : Nat} {Y : Nat → V → Hp → Prop} {g : TG} {tb : TS} {D : Ends} {R : It → Hp → Prop} {tt : TT} {te : TE} {vs : List Nat} {ta : TA}
def dL (K : PySem.W.Frag) (R : It → Hp → Prop) : VK := fun x H1 => ∃ a, x = .ref a ∧ (∃ xs, SqL K H1 a xs) ∧ R (Itl K a) H1
def dT (K : PySem.W.Frag) (R : It → Hp → Prop) : VK := fun x H1 => ∃ a, x = .ref a ∧ (∃ xs, SqT K H1 a xs) ∧ R (Itt K a) H1
def dR1 (R : It → Hp → Prop) : List V → Hp → Prop := fun vs H1 => ∃ j : Int, vs = [.int j] ∧ -(2 ^ 62) ≤ j ∧ j < 2 ^ 62 ∧ R (Itr 0 j.toNat) H1
def dR2 (R : It → Hp → Prop) : List V → Hp → Prop := fun vs H1 => ∃ i j : Int, vs = [.int i, .int j] ∧ (-(2 ^ 62) ≤ i ∧ i < 2 ^ 62 ∧ -(2 ^ 62) ≤ j ∧ j < 2 ^ 62) ∧ R (Itr i (j - i).toNat) H1
def dE (K : PySem.W.Frag) (R : It → Hp → Prop) : List V → Hp → Prop := fun vs H1 => ∃ a xs, vs = [.ref a] ∧ SqL K H1 a xs ∧ R (Ite K a) H1
theorem w_for {wi : TI} (h : wi σ H fun J H1 => FG J g tb D σ H1) : tFor wi g tb D σ H := h
theorem w_lc {wi : TI} (h : wi σ H fun J H1 => CG J g tt te vs σ H1 Q) : tLc wi g tt te vs σ H Q := h
theorem w_iL (h : te σ H (dL K R)) : iList K te σ H R := h
theorem w_iT (h : te σ H (dT K R)) : iTup K te σ H R := h
theorem w_iR1 (h : ta σ H (dR1 R)) : iRng1 ta σ H R := h
theorem w_iR2 (h : ta σ H (dR2 R)) : iRng2 ta σ H R := h
theorem w_iE (h : ta σ H (dE K R)) : iEnum K ta σ H R := h
theorem i_L (h : SqL K H a xs) (k : ∀ J, Src J (fun H' => SqL K H' a xs) xs.length (fun i x _ => xs[i]? = some x) → R J H) : dL K R (.ref a) H :=
  ⟨a, rfl, ⟨xs, h⟩, k _ ⟨fun i H' hp hi => ⟨xs, xs[i], hp, List.getElem?_eq_getElem hi⟩, fun H' hp => ⟨xs, hp, Nat.le_refl _⟩, fun i H' x H'' hp hi hy => by
    obtain ⟨e, f⟩ := hy
    exact ⟨by rw [e]; exact Ex.refl _, f xs hp⟩⟩⟩
theorem i_T (h : SqT K H a xs) (k : ∀ J, Src J (fun H' => SqT K H' a xs) xs.length (fun i x _ => xs[i]? = some x) → R J H) : dT K R (.ref a) H :=
  ⟨a, rfl, ⟨xs, h⟩, k _ ⟨fun i H' hp hi => ⟨xs, xs[i], hp, List.getElem?_eq_getElem hi⟩, fun H' hp => ⟨xs, hp, Nat.le_refl _⟩, fun i H' x H'' hp hi hy => by
    obtain ⟨e, f⟩ := hy
    exact ⟨by rw [e]; exact Ex.refl _, f xs hp⟩⟩⟩
theorem i_R1 (h1 : -(2 ^ 62) ≤ i) (h2 : i < 2 ^ 62) (k : ∀ J, Src J (fun _ => True) i.toNat (fun k x _ => x = .int (k : Nat)) → R J H) : dR1 R [.int i] H :=
  ⟨i, rfl, h1, h2, k _ ⟨fun i H' _ hi => hi, fun H' _ => Nat.le_refl _, fun i H' x H'' _ hi hy => by
    obtain ⟨e, f⟩ := hy
    exact ⟨by rw [e]; exact Ex.refl _, by rw [f, Int.zero_add]⟩⟩⟩
theorem i_R2 (h1 : -(2 ^ 62) ≤ i ∧ i < 2 ^ 62 ∧ -(2 ^ 62) ≤ j ∧ j < 2 ^ 62) (k : ∀ J, Src J (fun _ => True) (j - i).toNat (fun k x _ => x = .int (i + (k : Nat))) → R J H) : dR2 R [.int i, .int j] H :=
  ⟨i, j, rfl, h1, k _ ⟨fun i H' _ hi => hi, fun H' _ => Nat.le_refl _, fun i H' x H'' _ hi hy => by
    obtain ⟨e, f⟩ := hy
    exact ⟨by rw [e]; exact Ex.refl _, f⟩⟩⟩
theorem i_E (h : SqL K H a xs) (k : ∀ J, Src J (fun H' => SqL K H' a xs) xs.length (fun i x H'' => ∃ T y, x = .ref T ∧ At H'' T (.tup [.int (i : Nat), y]) ∧ xs[i]? = some y) → R J H) : dE K R [.ref a] H :=
  ⟨a, xs, rfl, h, k _ ⟨fun i H' hp hi => ⟨xs, xs[i], hp, List.getElem?_eq_getElem hi⟩, fun H' hp => ⟨xs, hp, Nat.le_refl _⟩, fun i H' x H'' hp hi hy => by
    obtain ⟨T, y, e1, e2, e3, f⟩ := hy
    exact ⟨by rw [e3]; exact Ex.new e2, T, y, e1, by rw [e3]; exact upd_same, f xs hp⟩⟩⟩
/-- a for loop by its invariant -/
theorem fg (S : Src J Φ n Y) (Pv : Nat → L2.St → Hp → Prop) (h0 : Pv 0 σ H) (hx : ∀ i σ' H', i ≤ n → Pv i σ' H' → Φ H')
    (hs : ∀ i x σ' H' H'', i < n → Pv i σ' H' → Ex H' H'' → Y i x H'' → g x σ' H'' fun σ2 H2 => tb ⟨Pv (i + 1), D.rt, D.nx, Pv (i + 1)⟩ σ2 H2) (hd : ∀ σ' H', Pv n σ' H' → D.nx σ' H') : FG J g tb D σ H := by
  refine ⟨fun i m σ H => m = n - i ∧ i ≤ n ∧ Pv i σ H, ⟨n, by simp, Nat.zero_le _, h0⟩, ?_⟩
  rintro i m σ H ⟨rfl, hi, p⟩
  have hp := hx i σ H hi p
  by_cases hlt : i < n
  · refine Or.inr ⟨S.go i H hp hlt, Pv (i + 1), fun σ' H' q => ⟨n - (i + 1), by omega, rfl, hlt, q⟩, fun x H' hy => ?_⟩
    obtain ⟨e, y⟩ := S.yld i H x H' hp hlt hy
    exact hs i x σ H H' hlt p e y
  · have e : i = n := by omega
    subst e
    exact Or.inl ⟨S.stop H hp, hd σ H p⟩
/-- a for loop that stores nothing but its own name (slot j) and changes nothing that stood -/
def EndE (H : Hp) (σ : L2.St) (j : Nat) : L2.St → Hp → Prop := fun σ' G' => (∃ v, σ' = σ.set j v) ∧ Ex H G'
theorem fgE (j : Nat) {v0 : Option V} (S : Src J Φ n Y) (hj : σ[j]? = some v0) (hx : ∀ G, Ex H G → Φ G) (hs : ∀ i x G v, i < n → Ex H G → Y i x G → g x (σ.set j v) G fun σ2 H2 => tb ⟨EndE H σ j, D.rt, D.nx, EndE H σ j⟩ σ2 H2) (hd : ∀ v G, Ex H G → D.nx (σ.set j v) G) : FG J g tb D σ H := by
  refine fg S (fun _ σ' G => EndE H σ j σ' G) ⟨⟨v0, ?_⟩, Ex.refl H⟩ (fun i σ' G _ z => hx G z.2) ?_ ?_
  · obtain ⟨h1, h2⟩ := List.getElem?_eq_some_iff.mp hj
    rw [← h2, List.set_getElem_self]
  · rintro i x σ' G G2 hi ⟨⟨v, rfl⟩, e⟩ e2 y
    exact hs i x G2 v hi (e.trans e2) y
  · rintro σ' G ⟨⟨v, rfl⟩, e⟩
    exact hd v G e
/-- a comprehension's list at Dl, between two turns -/
structure CD (H : Hp) (Dl : Addr) (acc : List V) (H' : Hp) : Prop where
  new : Fr H Dl
  ex : Ex H H'
  at_ : At H' Dl (.lst acc)
theorem CD.up {H H' H'' : Hp} {Dl : Addr} {acc : List V} (c : CD H Dl acc H') (e : Ex H' H'') : CD H Dl acc H'' := ⟨c.new, c.ex.trans e, e.get c.at_⟩
/-- behind a turn's element -/
def ElE (H : Hp) (Dl : Addr) (acc : List V) : VK := fun y H4 => ∃ acc', At H4 Dl (.lst acc') ∧ acc'.length < sizeLine ∧ CD H Dl acc (upd H4 Dl (.lst (acc' ++ [y])))
theorem ele {H H' H4 : Hp} {Dl : Addr} {acc : List V} {y : V} (c : CD H Dl acc H') (hz : acc.length < sizeLine) (e : Ex H' H4) : ElE H Dl (acc ++ [y]) y H4 :=
  ⟨acc, e.get c.at_, hz, c.new, Ex.mut (c.ex.trans e) c.new, upd_same⟩
/-- a comprehension without a test; the elements are values that hang on no object -/
theorem cgF (S : Src J Φ n Y) (f : Nat → V) (hx : ∀ H', Ex H H' → Φ H') (hz : n ≤ sizeLine)
    (hs : ∀ Dl i x H', i < n → Ex H H' → CD H Dl ((List.range i).map f) H' → Y i x H' → g x (wipe σ vs) H' fun σ2 H2 => wipe σ2 vs = wipe σ vs ∧ tt σ2 H2 fun b H3 => if b = true then te σ2 H3 (ElE H Dl ((List.range i).map f ++ [f i])) else False)
    (q : ∀ p H2, Fr H p → Ex H H2 → At H2 p (.lst ((List.range n).map f)) → Q (.ref p) H2) (htt : tt = tYes) : CG J g tt te vs σ H Q := by
  subst htt
  have er : ∀ i, (List.range i).map f ++ [f i] = (List.range (i + 1)).map f := fun i => by rw [List.range_succ, List.map_append]; rfl
  intro Dl hD
  refine ⟨fun i m H' => m = n - i ∧ i ≤ n ∧ CD H Dl ((List.range i).map f) H', ⟨n, by simp, Nat.zero_le _, hD, Ex.new hD, upd_same⟩, ?_⟩
  rintro i m H1 ⟨rfl, hi, c⟩
  have hp := hx H1 c.ex
  by_cases hlt : i < n
  · refine Or.inr ⟨S.go i H1 hp hlt, fun H' => CD H Dl ((List.range i).map f ++ [f i]) H', fun H' q => ⟨n - (i + 1), by omega, rfl, hlt, er i ▸ q⟩, fun x H' hy => ?_⟩
    obtain ⟨e', y⟩ := S.yld i H1 x H' hp hlt hy
    exact hs Dl i x H' hlt (c.ex.trans e') ⟨c.new, c.ex.trans e', e'.get c.at_⟩ y
  · have e2 : i = n := by omega
    subst e2
    exact Or.inl ⟨S.stop H1 hp, q Dl H1 hD c.ex c.at_⟩
/-- .. ints -/
theorem cgI (S : Src J Φ n Y) (f : Nat → Int) (hx : ∀ H', Ex H H' → Φ H') (hz : n ≤ sizeLine)
    (hs : ∀ Dl i x H', i < n → Ex H H' → CD H Dl ((List.range i).map fun k => V.int (f k)) H' → Y i x H' → g x (wipe σ vs) H' fun σ2 H2 => wipe σ2 vs = wipe σ vs ∧ tt σ2 H2 fun b H3 => if b = true then te σ2 H3 (ElE H Dl ((List.range i).map (fun k => V.int (f k)) ++ [V.int (f i)])) else False)
    (q : ∀ p H2, Fr H p → Ex H H2 → At H2 p (.lst (((List.range n).map f).map V.int)) → Q (.ref p) H2) (htt : tt = tYes) : CG J g tt te vs σ H Q :=
  cgF S (fun k => V.int (f k)) hx hz hs (fun p H2 hn he hp => q p H2 hn he (hp.l (by rw [List.map_map]; rfl))) htt
/-- .. one int again and again -/
theorem cgK {c : Int} (S : Src J Φ n Y) (hx : ∀ H', Ex H H' → Φ H') (hz : n ≤ sizeLine)
    (hs : ∀ Dl i x H' acc, i < n → Ex H H' → CD H Dl acc H' → acc.length < sizeLine → Y i x H' → g x (wipe σ vs) H' fun σ2 H2 => wipe σ2 vs = wipe σ vs ∧ tt σ2 H2 fun b H3 => if b = true then te σ2 H3 (ElE H Dl (acc ++ [V.int c])) else False)
    (q : ∀ p H2, Fr H p → Ex H H2 → At H2 p (.lst ((List.replicate n c).map V.int)) → Q (.ref p) H2) (htt : tt = tYes) : CG J g tt te vs σ H Q :=
  cgF S (fun _ => V.int c) hx hz (fun Dl i x H' hi ec cd y => hs Dl i x H' _ hi ec cd (by rw [List.length_map, List.length_range]; omega) y) (fun p H2 hn he hp => q p H2 hn he (hp.l (by
    apply List.ext_getElem
    · simp
    · intro i h1 h2; simp))) htt
/-- a comprehension with a test: which turns give an element (p), and which (f) -/
theorem cgP (S : Src J Φ n Y) (p : Nat → Bool) (f : Nat → V) (hx : ∀ H', Ex H H' → Φ H') (hz : n ≤ sizeLine)
    (hs : ∀ Dl i x H', i < n → Ex H H' → CD H Dl (((List.range i).filter p).map f) H' → (((List.range i).filter p).map f).length < sizeLine → Y i x H' → g x (wipe σ vs) H' fun σ2 H2 => wipe σ2 vs = wipe σ vs ∧ tt σ2 H2 fun b H3 => if b = true then te σ2 H3 (ElE H Dl (((List.range (i + 1)).filter p).map f)) else CD H Dl (((List.range (i + 1)).filter p).map f) H3)
    (q : ∀ p' H2, Fr H p' → Ex H H2 → At H2 p' (.lst (((List.range n).filter p).map f)) → Q (.ref p') H2) : CG J g tt te vs σ H Q := by
  intro Dl hD
  refine ⟨fun i m H' => m = n - i ∧ i ≤ n ∧ CD H Dl (((List.range i).filter p).map f) H', ⟨n, by simp, Nat.zero_le _, hD, Ex.new hD, upd_same⟩, ?_⟩
  rintro i m H1 ⟨rfl, hi, c⟩
  have hp := hx H1 c.ex
  by_cases hlt : i < n
  · refine Or.inr ⟨S.go i H1 hp hlt, fun H' => CD H Dl (((List.range (i + 1)).filter p).map f) H', fun H' q => ⟨n - (i + 1), by omega, rfl, hlt, q⟩, fun x H' hy => ?_⟩
    obtain ⟨e', y⟩ := S.yld i H1 x H' hp hlt hy
    refine hs Dl i x H' hlt (c.ex.trans e') ⟨c.new, c.ex.trans e', e'.get c.at_⟩ ?_ y
    rw [List.length_map]
    exact Nat.lt_of_le_of_lt (List.length_filter_le _ _) (by rw [List.length_range]; omega)
  · have e2 : i = n := by omega
    subst e2
    exact Or.inl ⟨S.stop H1 hp, q Dl H1 hD c.ex c.at_⟩
theorem fr_T {α : Type} {p : Nat → Bool} {f : Nat → α} {i : Nat} (h : p i = true) : ((List.range (i + 1)).filter p).map f = ((List.range i).filter p).map f ++ [f i] := by
  rw [List.range_succ, List.filter_append, List.map_append]
  simp [h]
theorem fr_F {α : Type} {p : Nat → Bool} {f : Nat → α} {i : Nat} (h : p i = false) : ((List.range (i + 1)).filter p).map f = ((List.range i).filter p).map f := by
  rw [List.range_succ, List.filter_append, List.map_append]
  simp [h]
/-- a comprehension without a test by an invariant of what it has made -/
def ElX (H : Hp) (Dl : Addr) (i : Nat) (Pv : Nat → List V → Hp → Prop) : VK := fun y H4 => ∃ acc, At H4 Dl (.lst acc) ∧ acc.length < sizeLine ∧ ∃ acc', CD H Dl acc' (upd H4 Dl (.lst (acc ++ [y]))) ∧ acc'.length = i + 1 ∧ Pv (i + 1) acc' (upd H4 Dl (.lst (acc ++ [y])))
theorem elx {H H' H4 : Hp} {Dl : Addr} {acc : List V} {y : V} {i : Nat} {Pv : Nat → List V → Hp → Prop} (c : CD H Dl acc H') (hl : acc.length = i) (hz : acc.length < sizeLine) (e : Ex H' H4) (hp : ∀ H5, Nl H4 H5 → Pv (i + 1) (acc ++ [y]) H5) : ElX H Dl i Pv y H4 :=
  ⟨acc, e.get c.at_, hz, acc ++ [y], ⟨c.new, Ex.mut (c.ex.trans e) c.new, upd_same⟩, by simp [hl], hp _ (Nl.upd (e.get c.at_))⟩
theorem cgX (S : Src J Φ n Y) (Pv : Nat → List V → Hp → Prop) (h0 : ∀ H', Ex H H' → Pv 0 [] H') (st : ∀ i acc H1 H2, Pv i acc H1 → Ex H1 H2 → Pv i acc H2) (hx : ∀ H', Ex H H' → Φ H') (hz : n ≤ sizeLine)
    (hs : ∀ Dl i x H' acc, i < n → Ex H H' → CD H Dl acc H' → acc.length = i → Pv i acc H' → Y i x H' → g x (wipe σ vs) H' fun σ2 H2 => wipe σ2 vs = wipe σ vs ∧ tt σ2 H2 fun b H3 => if b = true then te σ2 H3 (ElX H Dl i Pv) else ∃ acc', CD H Dl acc' H3 ∧ acc'.length = i + 1 ∧ Pv (i + 1) acc' H3)
    (q : ∀ p H2 acc, Fr H p → Ex H H2 → At H2 p (.lst acc) → acc.length = n → Pv n acc H2 → Q (.ref p) H2) (htt : tt = tYes) : CG J g tt te vs σ H Q := by
  subst htt
  intro Dl hD
  refine ⟨fun i m H' => m = n - i ∧ i ≤ n ∧ ∃ acc, CD H Dl acc H' ∧ acc.length = i ∧ Pv i acc H', ⟨n, by simp, Nat.zero_le _, [], ⟨hD, Ex.new hD, upd_same⟩, rfl, h0 _ (Ex.new hD)⟩, ?_⟩
  rintro i m H1 ⟨rfl, hi, acc, c, hl, hP⟩
  have hp := hx H1 c.ex
  by_cases hlt : i < n
  · refine Or.inr ⟨S.go i H1 hp hlt, fun H' => ∃ acc, CD H Dl acc H' ∧ acc.length = i + 1 ∧ Pv (i + 1) acc H', fun H' q => ⟨n - (i + 1), by omega, rfl, hlt, q⟩, fun x H' hy => ?_⟩
    obtain ⟨e', y⟩ := S.yld i H1 x H' hp hlt hy
    exact hs Dl i x H' acc hlt (c.ex.trans e') ⟨c.new, c.ex.trans e', e'.get c.at_⟩ hl (st _ _ _ _ hP e') y
  · have e2 : i = n := by omega
    subst e2
    exact Or.inl ⟨S.stop H1 hp, q Dl H1 acc hD c.ex c.at_ hl hP⟩
/-- a while by an invariant that tells a falling number -/
def WB (W : Nat → L2.St → Hp → Prop) (t : TS) (D : Ends) (m : Nat) (σ' : L2.St) : Bool → Hp → Prop := fun b H1 => if b = true then ∃ N : L2.St → Hp → Prop, (∀ σ' H', N σ' H' → ∃ m', m' < m ∧ W m' σ' H') ∧ t { D with nx := N, ct := N, bk := D.nx } σ' H1 else D.nx σ' H1
theorem w_while {c : TT} {t : TS} (W : Nat → L2.St → Hp → Prop) (m0 : Nat) (h0 : W m0 σ H) (hs : ∀ m σ' H', W m σ' H' → c σ' H' (WB W t D m σ')) : tWhile c t D σ H := ⟨W, ⟨m0, h0⟩, hs⟩
section
variable {W : Nat → L2.St → Hp → Prop} {t : TS} {m : Nat}
theorem wb_T (h : t ⟨fun σ2 H2 => ∃ m', m' < m ∧ W m' σ2 H2, D.rt, D.nx, fun σ2 H2 => ∃ m', m' < m ∧ W m' σ2 H2⟩ σ H) : WB W t D m σ true H := ⟨_, fun _ _ h => h, h⟩
theorem wb_F (h : D.nx σ H) : WB W t D m σ false H := h
theorem wb_dec {p : Prop} [Decidable p] (h1 : p → t ⟨fun σ2 H2 => ∃ m', m' < m ∧ W m' σ2 H2, D.rt, D.nx, fun σ2 H2 => ∃ m', m' < m ∧ W m' σ2 H2⟩ σ H) (h2 : ¬ p → D.nx σ H) : WB W t D m σ (decide p) H := by
  by_cases h : p
  · rw [decide_eq_true h]; exact wb_T (h1 h)
  · rw [decide_eq_false h]; exact wb_F (h2 h)
end
end
end Z
namespace Z
open PySem L2
/-! ### own classes: what the top says of one, as one truth value -/
structure OwnC (K : PySem.W.Frag) (C : Addr) : Prop where
  cl : Cls K C
  sf : PySem.W.selfFirst K C = true
  ca : PySem.W.findIn K (.ref C) "__class__" = some (some (.builtin "object.__class__"))
  cn : PySem.W.specialIn K (.builtin "object.__class__") "__get__" = some (some (.builtin "getset_descriptor.__get__"))
  ct : PySem.W.takesIn K (.builtin "object.__class__") = some true
  cm : PySem.W.mroIn K C (.type "object") = some true
  ni : PySem.W.subIn K (.type "int") (.ref C) = some false
  ni' : PySem.W.subIn K (.ref C) (.type "int") = some false
  kCI : PySem.W.kitOne K (.ref C) (.type "int") = some false
  kIC : PySem.W.kitOne K (.type "int") (.ref C) = some false
  kCC : PySem.W.kitOne K (.ref C) (.ref C) = some true
def ownB (K : PySem.W.Frag) (x : Str) : Bool := (He.Fa.cls x).ok K && (PySem.W.selfFirst K (He.ga K x) && (decide (PySem.W.findIn K (.ref (He.ga K x)) "__class__" = some (some (.builtin "object.__class__"))) &&
  (decide (PySem.W.specialIn K (.builtin "object.__class__") "__get__" = some (some (.builtin "getset_descriptor.__get__"))) && (decide (PySem.W.takesIn K (.builtin "object.__class__") = some true) && (decide (PySem.W.mroIn K (He.ga K x) (.type "object") = some true) &&
  (decide (PySem.W.subIn K (.type "int") (.ref (He.ga K x)) = some false) && (decide (PySem.W.subIn K (.ref (He.ga K x)) (.type "int") = some false) && (decide (PySem.W.kitOne K (.ref (He.ga K x)) (.type "int") = some false) &&
  (decide (PySem.W.kitOne K (.type "int") (.ref (He.ga K x)) = some false) && decide (PySem.W.kitOne K (.ref (He.ga K x)) (.ref (He.ga K x)) = some true))))))))))
theorem ownB_ok {K : PySem.W.Frag} {x : Str} (h : ownB K x = true) : OwnC K (He.ga K x) := by
  obtain ⟨h1, h⟩ := He.ba h
  obtain ⟨h2, h⟩ := He.ba h
  obtain ⟨h3, h⟩ := He.ba h
  obtain ⟨h4, h⟩ := He.ba h
  obtain ⟨h5, h⟩ := He.ba h
  obtain ⟨h6, h⟩ := He.ba h
  obtain ⟨h7, h⟩ := He.ba h
  obtain ⟨h8, h⟩ := He.ba h
  obtain ⟨h9, h⟩ := He.ba h
  obtain ⟨h10, h11⟩ := He.ba h
  exact ⟨He.cls_ok h1, h2, of_decide_eq_true h3, of_decide_eq_true h4, of_decide_eq_true h5, of_decide_eq_true h6, of_decide_eq_true h7, of_decide_eq_true h8, of_decide_eq_true h9, of_decide_eq_true h10, of_decide_eq_true h11⟩
/-! ### own operators -/
section
variable {X : Cx} {CX : CXT} {n : Nat} {C g : Addr} {sp : Sp} {E : XK}
theorem inst_of {pins : List (Addr × Obj)} {σ : L2.St} {H : Hp} {s : Shared} {a dx : Addr} {fs : List (Str × V)} (I : Inv X pins σ H s) (h : At H a (.ins C dx fs)) : ∃ od, PySem.W.InstAt s.heap a (PySem.W.instObj C dx) C (some od) := by
  obtain ⟨mA, O, _⟩ := ins_get I.hok h
  obtain ⟨od, J, _⟩ := O.look
  exact ⟨od, J⟩
/-- int has both slots of an operator, or it is known that it lacks one -/
def IntHas (nm : String) : Prop := ∀ K : PySem.W.Frag, (∃ fo, PySem.W.findIn K (.type "int") (PySem.dunder nm) = some fo) ∧ ∃ ro, PySem.W.findIn K (.type "int") (dunderR nm) = some ro
theorem has_add : IntHas "add" := fun _ => ⟨⟨some (.builtin "int.__add__"), by kernel_rfl⟩, some (.builtin "int.__radd__"), by kernel_rfl⟩
theorem has_sub : IntHas "sub" := fun _ => ⟨⟨some (.builtin "int.__sub__"), by kernel_rfl⟩, some (.builtin "int.__rsub__"), by kernel_rfl⟩
theorem has_mul : IntHas "mul" := fun _ => ⟨⟨some (.builtin "int.__mul__"), by kernel_rfl⟩, some (.builtin "int.__rmul__"), by kernel_rfl⟩
theorem has_floordiv : IntHas "floordiv" := fun _ => ⟨⟨some (.builtin "int.__floordiv__"), by kernel_rfl⟩, some (.builtin "int.__rfloordiv__"), by kernel_rfl⟩
theorem has_mod : IntHas "mod" := fun _ => ⟨⟨some (.builtin "int.__mod__"), by kernel_rfl⟩, some (.builtin "int.__rmod__"), by kernel_rfl⟩
/-- a op b, both of the class at C -/
def rOO (C : Addr) (sp : Sp) (E : XK) : R2 := fun x y H Q => ∃ a dx fs b dy gs, x = .ref a ∧ y = .ref b ∧ At H a (.ins C dx fs) ∧ At H b (.ins C dy gs) ∧ sp [x, y] H Q E
/-- a op i, a of the class at C, i an int -/
def rOI (C : Addr) (sp : Sp) (E : XK) : R2 := fun x y H Q => ∃ a dx fs i, x = .ref a ∧ y = .int i ∧ At H a (.ins C dx fs) ∧ sp [x, y] H Q E
theorem op_OO {op : Operator} (O : OwnC X.K C) (hs : PySem.W.findIn X.K (.ref C) (PySem.dunder op.info.2) = some (some (.ref g))) (hf : PySem.W.isFn X.K (.ref g) = true) (F : FnR X.prog X.w X.K X.mg X.base CX n g sp) (hr : Room n X.A) (hx : Passes CX X E) :
    OpR X (binaryOp op) (rOO C sp E) := by
  intro pins s σ H x y v u Q I rx ry h
  obtain ⟨a, dx, fs, b, dy, gs, rfl, rfl, ha, hb, q⟩ := h
  cases (show v = Value.ref a from rx)
  cases (show u = Value.ref b from ry)
  obtain ⟨od, J⟩ := inst_of I ha
  obtain ⟨od', J'⟩ := inst_of I hb
  obtain ⟨m, hF⟩ := I.fr
  refine PySem.W.binop_K hF I.ok.mod.kin J J'.type O.sf hs hf (wpAny_mono (wpAny_call (run_fnR (us := [.ref a, .ref b]) (vs := [.ref a, .ref b]) F hr hx I (.cons rfl (.cons rfl .nil)) q)) (fun w s' z => ?_) fun _ _ x => x)
  obtain ⟨z', H', I', rz, qz⟩ := z
  exact SlX.cmpback rz ⟨z', H', I', rz, qz⟩
theorem op_OI {op : Operator} {rc : Option Value} (O : OwnC X.K C) (hs : PySem.W.findIn X.K (.ref C) (PySem.dunder op.info.2) = some (some (.ref g))) (hf : PySem.W.isFn X.K (.ref g) = true)
    (hr' : PySem.W.findIn X.K (.ref C) (dunderR op.info.2) = some rc) (hp : rc = none ∨ ∃ g : Addr, rc = some (.ref g)) (h12 : IntHas op.info.2)
    (F : FnR X.prog X.w X.K X.mg X.base CX n g sp) (hr : Room n X.A) (hx : Passes CX X E) : OpR X (binaryOp op) (rOI C sp E) := by
  intro pins s σ H x y v u Q I rx ry h
  obtain ⟨a, dx, fs, i, rfl, rfl, ha, q⟩ := h
  cases (show v = Value.ref a from rx)
  obtain ⟨t, rfl⟩ := (show ∃ t, u = Value.int i t from ry)
  obtain ⟨od, J⟩ := inst_of I ha
  obtain ⟨m, hF⟩ := I.fr
  refine PySem.W.ksp_binT (T := "int") hF I.ok.mod.kin J rfl O.sf hs hf hr' hp (h12 X.K).1.choose_spec (h12 X.K).2.choose_spec O.ni (wpAny_mono (wpAny_call (run_fnR (us := [.ref a, .int i t]) (vs := [.ref a, .int i]) F hr hx I (.cons rfl (.cons ⟨t, rfl⟩ .nil)) q)) (fun w s' z => ?_) fun _ _ x => x)
  obtain ⟨z', H', I', rz, qz⟩ := z
  exact SlX.cmpback rz ⟨z', H', I', rz, qz⟩
/-- -a -/
def rUO (C : Addr) (sp : Sp) (E : XK) : V → Hp → VK → Prop := fun x H Q => ∃ a dx fs, x = .ref a ∧ At H a (.ins C dx fs) ∧ sp [x] H Q E
theorem un_O (hs : PySem.W.findIn X.K (.ref C) "__neg__" = some (some (.ref g))) (hf : PySem.W.isFn X.K (.ref g) = true) (F : FnR X.prog X.w X.K X.mg X.base CX n g sp) (hr : Room n X.A) (hx : Passes CX X E) : UnR X (unaryOp .USub) (rUO C sp E) := by
  intro pins s σ H x v Q I rx h
  obtain ⟨a, dx, fs, rfl, ha, q⟩ := h
  cases (show v = Value.ref a from rx)
  obtain ⟨od, J⟩ := inst_of I ha
  obtain ⟨m, hF⟩ := I.fr
  exact PySem.W.ksp_neg hF I.ok.mod.kin J hs hf (wpAny_call (run_fnR (us := [.ref a]) (vs := [.ref a]) F hr hx I (.cons rfl .nil) q))
/-- a op b by an own comparison, b of the same class or an int -/
theorem cmp_OO {op : CmpOp} (hop : ∀ a b, compareOp op a b = richCompare op a b) (O : OwnC X.K C) (hs : PySem.W.findIn X.K (.ref C) (cmpInfo op).2.1 = some (some (.ref g))) (hf : PySem.W.isFn X.K (.ref g) = true) (F : FnR X.prog X.w X.K X.mg X.base CX n g sp) (hr : Room n X.A) (hx : Passes CX X E) :
    OpR X (compareOp op) (rOO C sp E) := by
  intro pins s σ H x y v u Q I rx ry h
  obtain ⟨a, dx, fs, b, dy, gs, rfl, rfl, ha, hb, q⟩ := h
  cases (show v = Value.ref a from rx)
  cases (show u = Value.ref b from ry)
  obtain ⟨od, J⟩ := inst_of I ha
  obtain ⟨od', J'⟩ := inst_of I hb
  obtain ⟨m, hF⟩ := I.fr
  rw [hop]
  refine PySem.W.cmp_K (op := op) (tb := .ref C) hr.units0 hF I.ok.mod.kin J J'.type (by simp [PySem.W.notFirst]) hs hf (wpAny_mono (wpAny_call (run_fnR (us := [.ref a, .ref b]) (vs := [.ref a, .ref b]) F hr hx I (.cons rfl (.cons rfl .nil)) q)) (fun w s' z => ?_) fun _ _ x => x)
  obtain ⟨z', H', I', rz, qz⟩ := z
  exact SlX.cmpback rz ⟨z', H', I', rz, qz⟩
theorem cmp_OI {op : CmpOp} (hop : ∀ a b, compareOp op a b = richCompare op a b) (O : OwnC X.K C) (hs : PySem.W.findIn X.K (.ref C) (cmpInfo op).2.1 = some (some (.ref g))) (hf : PySem.W.isFn X.K (.ref g) = true) (F : FnR X.prog X.w X.K X.mg X.base CX n g sp) (hr : Room n X.A) (hx : Passes CX X E) :
    OpR X (compareOp op) (rOI C sp E) := by
  intro pins s σ H x y v u Q I rx ry h
  obtain ⟨a, dx, fs, i, rfl, rfl, ha, q⟩ := h
  cases (show v = Value.ref a from rx)
  obtain ⟨t, rfl⟩ := (show ∃ t, u = Value.int i t from ry)
  obtain ⟨od, J⟩ := inst_of I ha
  obtain ⟨m, hF⟩ := I.fr
  rw [hop]
  refine PySem.W.cmp_K (op := op) (tb := .type "int") hr.units0 hF I.ok.mod.kin J (PySem.W.Looks.of_pure rfl) (by simp [PySem.W.notFirst, O.ni]) hs hf (wpAny_mono (wpAny_call (run_fnR (us := [.ref a, .int i t]) (vs := [.ref a, .int i]) F hr hx I (.cons rfl (.cons ⟨t, rfl⟩ .nil)) q)) (fun w s' z => ?_) fun _ _ x => x)
  obtain ⟨z', H', I', rz, qz⟩ := z
  exact SlX.cmpback rz ⟨z', H', I', rz, qz⟩
/-! an int on the left: its own slot hands back NotImplemented -/
theorem asInt_ref {M : Model} {A : Around} {E : Value → Shared → Prop} {s : Shared} {x dx C : Addr} {Q : Option Int → Shared → Prop} (ho : s.heap.get? x = some (PySem.W.instObj C dx)) (h : Q none s) : wpAny M A (asInt? (.ref x)) Q E s := by
  unfold asInt?
  exact wpAny_bind (wpAny_load ho (wpAny_pure h))
theorem intBinary_ni {M : Model} {A : Around} {E : Value → Shared → Prop} {s : Shared} {x dx C : Addr} {nm : String} {f : Int → Int → Sem Fin} {i : Int} {t : Tok} {Q : Fin → Shared → Prop} (ho : s.heap.get? x = some (PySem.W.instObj C dx))
    (h : Q (.done (.ret .notImplemented)) s) : wpAny M A (Builtin.Int.intBinary nm f false ⟨[.int i t, .ref x], []⟩) Q E s := by
  unfold Builtin.Int.intBinary
  refine wpAny_bind (wpAny_of_eq (a := ((Value.int i t : Value), [Value.ref x])) (by first | rfl | (simp only [slotArgs]; rfl)) ?_)
  refine wpAny_bind (wpAny_of_eq (a := i) (by first | rfl | (simp only [Builtin.intOfSelf]; rfl)) ?_)
  refine wpAny_bind (asInt_ref ho ?_)
  exact wpAny_bind (wpAny_rule (wpAny_pure h))
theorem int_ni {prog : Program} {w : World} {A : Around} {E : Value → Shared → Prop} {s : Shared} {x dx C : Addr} {id : String} {name : Str} {B : Builtin} {i : Int} {t : Tok} {Q : Value → Shared → Prop} (slot : Slot "int" name id) (entry : entryFor table id = some B)
    (args : argsOk id ⟨[.int i t, .ref x], []⟩) (hB : ∃ nm f, B = Builtin.Int.intBinary nm f false) (ho : s.heap.get? x = some (PySem.W.instObj C dx)) (h : Q .notImplemented s) : wpAny (model prog w) A (call (.builtin id) [.int i t, .ref x]) Q E s := by
  obtain ⟨nm, f, rfl⟩ := hB
  exact call_meets (S := fun _ R s' => s' = s ∧ R (.ok (.ret .notImplemented)) s) slot (typeIs_int s i t) entry args (fun prog w A R s' hs => by
    obtain ⟨rfl, hs⟩ := hs
    exact intBinary_ni ho hs) ⟨rfl, h⟩
theorem bin_IO {prog : Program} {w : World} {A : Around} {E : Value → Shared → Prop} {s : Shared} {K : PySem.W.Frag} {x dx C f f' : Addr} {od : Option Obj} {op : Operator} {id : String} {B : Builtin} {i : Int} {t : Tok} {Q : Value → Shared → Prop}
    (X : K.In s.heap) (I : PySem.W.InstAt s.heap x (PySem.W.instObj C dx) C od) (hc : PySem.W.selfFirst K C = true) (fills : fillsNumberSlot (.type "int") op.info.2 = pure true) (slot : Slot "int" (PySem.dunder op.info.2) id) (entry : entryFor table id = some B)
    (args : argsOk id ⟨[.int i t, .ref x], []⟩) (hB : ∃ nm f, B = Builtin.Int.intBinary nm f false) (hs : PySem.W.findIn K (.ref C) (PySem.dunder op.info.2) = some (some (.ref f'))) (hR : PySem.W.findIn K (.ref C) (dunderR op.info.2) = some (some (.ref f))) (hf : PySem.W.isFn K (.ref f) = true)
    (hsub : PySem.W.subIn K (.ref C) (.type "int") = some false) (h : wpAny (model prog w) A (call (.ref f) [.ref x, .int i t]) (PySem.W.CmpBack Q) E s) : wpAny (model prog w) A (binaryOp op (.int i t) (.ref x)) Q E s := by
  obtain ⟨cd, rest, hcd, hm⟩ := PySem.W.ksp_first hc
  rcases hi : op.info with ⟨sym, nm⟩
  rw [hi] at fills slot hs hR
  dsimp only at fills slot hs hR
  have hx : s.heap.get? x = some (PySem.W.instObj C dx) := I.1
  have two := PySem.W.ksp_try X I hR hf h
  have one : wpAny (model prog w) A (tryMethod (.int i t) (PySem.dunder nm) (.ref x)) (fun r s' => r = none ∧ s' = s) E s := by
    simp only [tryMethod]
    exact wpAny_bind (wpAny_callSpecial?_slot (typeIs_int s i t) slot (int_ni slot entry args hB hx (wpAny_pure ⟨rfl, rfl⟩)))
  have L1 : PySem.W.Looks (model prog w) s.heap (typeOf (.ref x)) (.ref C) := I.type
  have L3 : PySem.W.Looks (model prog w) s.heap (fillsNumberSlot (.ref C) nm) true := PySem.W.fills_K X hcd hm hs
  have L5 : PySem.W.Looks (model prog w) s.heap (isSubtype (.ref C) (.type "int")) false := PySem.W.looks_subIn X hsub
  have L7 : numberSlotInPython (.type "int") nm = pure false := rfl
  have ne : (Value.type "int" == Value.ref C) = false := Bool.eq_false_iff.mpr fun q => by cases beq_iff_eq.mp q
  simp only [binaryOp, hi]
  refine wpAny_holding (wpAny_bind ?_)
  unfold binaryOp1
  refine wpAny_bind (wpAny_typeOf (typeIs_int s i t) (wpAny_bind (L1.here (wpAny_bind (wpAny_of_eq fills ?_)))))
  simp only [ne, Bool.false_eq_true, if_false]
  refine wpAny_bind (L3.here ?_)
  simp only [Bool.and_self, if_true]
  refine wpAny_bind (L5.here ?_)
  simp only [Bool.false_eq_true, if_false, Bool.not_false, Bool.and_self, if_true, pure_bind, L7]
  refine wpAny_bind (wpAny_mono one (fun r s' hr => ?_) fun _ _ e => e)
  obtain ⟨rfl, rfl⟩ := hr
  dsimp only
  refine wpAny_bind (wpAny_mono two (fun r s' hr => ?_) fun _ _ e => e)
  obtain ⟨v, rfl, hq⟩ := hr
  exact wpAny_bind (wpAny_rule (wpAny_pure (wpAny_pure hq)))
/-- i op a -/
def rIO (C : Addr) (sp : Sp) (E : XK) : R2 := fun x y H Q => ∃ a dx fs i, x = .int i ∧ y = .ref a ∧ At H a (.ins C dx fs) ∧ sp [y, x] H Q E
theorem op_IO {op : Operator} {id : String} {B : Builtin} {f' : Addr} (O : OwnC X.K C) (hR : PySem.W.findIn X.K (.ref C) (dunderR op.info.2) = some (some (.ref g))) (hf : PySem.W.isFn X.K (.ref g) = true) (hs : PySem.W.findIn X.K (.ref C) (PySem.dunder op.info.2) = some (some (.ref f')))
    (fills : fillsNumberSlot (.type "int") op.info.2 = pure true) (slot : Slot "int" (PySem.dunder op.info.2) id) (entry : entryFor table id = some B) (args : ∀ a b, argsOk id ⟨[a, b], []⟩) (hB : ∃ nm f, B = Builtin.Int.intBinary nm f false)
    (F : FnR X.prog X.w X.K X.mg X.base CX n g sp) (hr : Room n X.A) (hx : Passes CX X E) : OpR X (binaryOp op) (rIO C sp E) := by
  intro pins s σ H x y v u Q I rx ry h
  obtain ⟨a, dx, fs, i, rfl, rfl, ha, q⟩ := h
  obtain ⟨t, rfl⟩ := (show ∃ t, v = Value.int i t from rx)
  cases (show u = Value.ref a from ry)
  obtain ⟨od, J⟩ := inst_of I ha
  refine bin_IO I.kIn J O.sf fills slot entry (args _ _) hB hs hR hf O.ni' (wpAny_mono (wpAny_call (run_fnR (us := [.ref a, .int i t]) (vs := [.ref a, .int i]) F hr hx I (.cons rfl (.cons ⟨t, rfl⟩ .nil)) q)) (fun w s' z => ?_) fun _ _ x => x)
  obtain ⟨z', H', I', rz, qz⟩ := z
  exact SlX.cmpback rz ⟨z', H', I', rz, qz⟩
theorem addIO {f' : Addr} (O : OwnC X.K C) (hR : PySem.W.findIn X.K (.ref C) "__radd__" = some (some (.ref g))) (hf : PySem.W.isFn X.K (.ref g) = true) (hs : PySem.W.findIn X.K (.ref C) "__add__" = some (some (.ref f'))) (F : FnR X.prog X.w X.K X.mg X.base CX n g sp) (hr : Room n X.A) (hx : Passes CX X E) : OpR X (binaryOp .Add) (rIO C sp E) :=
  op_IO (op := .Add) O hR hf hs PySem.F.fills_int_add PySem.F.slot_int_add PySem.F.entry_int_add PySem.F.args_int_add_2 ⟨_, _, rfl⟩ F hr hx
theorem subIO {f' : Addr} (O : OwnC X.K C) (hR : PySem.W.findIn X.K (.ref C) "__rsub__" = some (some (.ref g))) (hf : PySem.W.isFn X.K (.ref g) = true) (hs : PySem.W.findIn X.K (.ref C) "__sub__" = some (some (.ref f'))) (F : FnR X.prog X.w X.K X.mg X.base CX n g sp) (hr : Room n X.A) (hx : Passes CX X E) : OpR X (binaryOp .Sub) (rIO C sp E) :=
  op_IO (op := .Sub) O hR hf hs PySem.F.fills_int_sub PySem.F.slot_int_sub PySem.F.entry_int_sub PySem.F.args_int_sub_2 ⟨_, _, rfl⟩ F hr hx
theorem mulIO {f' : Addr} (O : OwnC X.K C) (hR : PySem.W.findIn X.K (.ref C) "__rmul__" = some (some (.ref g))) (hf : PySem.W.isFn X.K (.ref g) = true) (hs : PySem.W.findIn X.K (.ref C) "__mul__" = some (some (.ref f'))) (F : FnR X.prog X.w X.K X.mg X.base CX n g sp) (hr : Room n X.A) (hx : Passes CX X E) : OpR X (binaryOp .Mult) (rIO C sp E) :=
  op_IO (op := .Mult) O hR hf hs PySem.F.fills_int_mul PySem.F.slot_int_mul PySem.F.entry_int_mul PySem.F.args_int_mul_2 ⟨_, _, rfl⟩ F hr hx
/-- abs(a) by an own __abs__ -/
def rC1 (C : Addr) (sp : Sp) (E : XK) : List V → Hp → VK → Prop := fun xs H Q => ∃ a dx fs, xs = [V.ref a] ∧ At H a (.ins C dx fs) ∧ sp [.ref a] H Q E
theorem call_absO (hs : PySem.W.findIn X.K (.ref C) "__abs__" = some (some (.ref g))) (hf : PySem.W.isFn X.K (.ref g) = true) (F : FnR X.prog X.w X.K X.mg X.base CX n g sp) (hr : Room (n + 1) X.A) (hx : Passes CX X E) : CallR X (.builtin "abs") (rC1 C sp E) := by
  intro pins s σ H xs us Q I r h
  obtain ⟨a, dx, fs, rfl, ha, q⟩ := h
  obtain ⟨u, rfl, ru⟩ := r.one
  cases (show u = Value.ref a from ru)
  obtain ⟨od, J⟩ := inst_of I ha
  refine PySem.Calls.call_function_entry PyProof.Rows.kind_abs PyProof.Rows.plain_abs PyProof.Rows.entry_abs (PyProof.Rows.args_abs _) ?_
  unfold Builtin.«abs»
  refine wpAny_bind (m := oneArg "abs" _) (wpAny_pure (wpAny_bind (PySem.W.special_fn I.kIn J hs (beq_iff_eq.mp hf) (wpAny_mono (wpAny_call (SlX.run_at (us := [.ref a]) (ws := [.ref a]) F hr.in1 I.env0.in1 hx I (.cons rfl .nil) q)) (fun w s' z => ?_) fun _ _ x => x))))
  exact wpAny_pure ⟨w, rfl, z⟩
end
/-! ### readings: fields, new instances, own operators -/
def dF (K : PySem.W.Frag) (f : Str) (Q : VK) : VK := fun x H1 => ∃ a C dx fs v, x = .ref a ∧ At H1 a (.ins C dx fs) ∧ Cls K C ∧ NoAttr K C f ∧ fs.lookup f = some v ∧ Q v H1
def dSF (K : PySem.W.Frag) (f : Str) (y : V) (R : Hp → Prop) : VK := fun x H2 => ∃ a C dx fs, x = .ref a ∧ At H2 a (.ins C dx fs) ∧ Cls K C ∧ NoAttr K C f ∧ fs.length < 1000 ∧ R (upd H2 a (.ins C dx (putF f y fs)))
section
variable {K : PySem.W.Frag} {σ : L2.St} {H H' : Hp} {Q : VK} {v x y : V} {a b C dx dy : Addr} {fs gs : List (Str × V)} {f : Str} {i j : Int} {sp : Sp} {E : XK} {D : Ends} {ts : TA}
theorem w_fld {ta : TE} (h : ta σ H (dF K f Q)) : tFld K ta f σ H Q := h
theorem w_dF (h : At H a (.ins C dx fs)) (cl : Cls K C) (na : NoAttr K C f) (hl : fs.lookup f = some v) (q : Q v H) : dF K f Q (.ref a) H := ⟨a, C, dx, fs, v, rfl, h, cl, na, hl, q⟩
theorem w_sfld {ta tv : TE} (h : tv σ H fun y H1 => ta σ H1 (dSF K f y (D.nx σ))) : sFld K ta tv f D σ H := h
theorem w_dSF {R : Hp → Prop} (h : At H a (.ins C dx fs)) (cl : Cls K C) (na : NoAttr K C f) (hl : fs.length < 1000) (q : ∀ H2, At H2 a (.ins C dx (putF f y fs)) → (∀ b o, b ≠ a → At H b o → At H2 b o) → (∀ b, Fr H2 b → Fr H b) → R H2) : dSF K f y R (.ref a) H :=
  ⟨a, C, dx, fs, rfl, h, cl, na, hl, q _ upd_same (fun b o hb e => by unfold At; rw [upd_ne hb]; exact e) fun b e => by
    unfold Fr at *
    by_cases hb : b = a
    · subst hb; rw [upd_same] at e; cases e
    · rwa [upd_ne hb] at e⟩
/-- a new instance, ahead of its __init__ -/
structure New (C : Addr) (H : Hp) (p dx : Addr) (H2 : Hp) : Prop where
  new : Fr H p
  dnew : Fr H dx
  ne : dx ≠ p
  ex : Ex H H2
  at_ : At H2 p (.ins C dx [])
  own : At H2 dx (.own p)
def dMk (C : Addr) (sp : Sp) (dvs : List V) (E : XK) (Q : VK) : List V → Hp → Prop := fun vs H1 => ∀ x dx, Fr H1 x → Fr H1 dx → dx ≠ x → sp (.ref x :: (vs ++ dvs)) (upd (upd H1 dx (.own x)) x (.ins C dx [])) (fun v H2 => v = .non ∧ Q (.ref x) H2) E
theorem w_make {dvs : List V} (h : ts σ H (dMk C sp dvs E Q)) : tMake C sp dvs E ts σ H Q := h
theorem w_dMk {dvs vs : List V} (h : ∀ p dx H2, New C H p dx H2 → sp (.ref p :: (vs ++ dvs)) H2 (fun v H3 => v = .non ∧ Q (.ref p) H3) E) : dMk C sp dvs E Q vs H := fun p dx hp hd hne =>
  h p dx _ ⟨hp, hd, hne, (Ex.new hd).trans (Ex.new (by unfold Fr; rw [upd_ne (Ne.symm hne)]; exact hp)), upd_same, by unfold At; rw [upd_ne hne, upd_same]⟩
theorem w_OO (ha : At H a (.ins C dx fs)) (hb : At H b (.ins C dy gs)) (q : sp [.ref a, .ref b] H Q E) : rOO C sp E (.ref a) (.ref b) H Q := ⟨a, dx, fs, b, dy, gs, rfl, rfl, ha, hb, q⟩
theorem w_OI (ha : At H a (.ins C dx fs)) (q : sp [.ref a, .int i] H Q E) : rOI C sp E (.ref a) (.int i) H Q := ⟨a, dx, fs, i, rfl, rfl, ha, q⟩
theorem w_IO (ha : At H a (.ins C dx fs)) (q : sp [.ref a, .int i] H Q E) : rIO C sp E (.int i) (.ref a) H Q := ⟨a, dx, fs, i, rfl, rfl, ha, q⟩
theorem w_UO (ha : At H a (.ins C dx fs)) (q : sp [.ref a] H Q E) : rUO C sp E (.ref a) H Q := ⟨a, dx, fs, rfl, ha, q⟩
theorem w_C1 (ha : At H a (.ins C dx fs)) (q : sp [.ref a] H Q E) : rC1 C sp E [.ref a] H Q := ⟨a, dx, fs, rfl, ha, q⟩
theorem w_gcd (q : Q (.int ((Nat.gcd i.natAbs j.natAbs : Nat) : Int)) H) : rGcd [.int i, .int j] H Q := ⟨i, j, rfl, q⟩
def rAbsI : List V → Hp → VK → Prop := fun xs H Q => ∃ i, xs = [.int i] ∧ Q (.int (if i < 0 then -i else i)) H
theorem call_absI {X : Cx} : CallR X (.builtin "abs") rAbsI := L2.call_abs
theorem w_absI (q : Q (.int (i.natAbs : Int)) H) : rAbsI [.int i] H Q := ⟨i, rfl, by
  have e : (if i < 0 then -i else i) = (i.natAbs : Int) := by split <;> omega
  rw [e]; exact q⟩
/-- isinstance of an instance, with an own class -/
theorem w_isiOC (O : OwnC K C) (ha : At H a (.ins C dx fs)) (q : Q (.bl true) H) : rIsi K [.ref a, .ref C] H Q := ⟨_, _, .ref C, .ref C, true, rfl, .own C, .base (.ins ha O.cl O.ca O.cn O.ct O.cm), O.kCC, q⟩
theorem w_isiOI (O : OwnC K C) (ha : At H a (.ins C dx fs)) (q : Q (.bl false) H) : rIsi K [.ref a, .ty "int"] H Q := ⟨_, _, .ref C, .type "int", false, rfl, .ty "int", .base (.ins ha O.cl O.ca O.cn O.ct O.cm), O.kCI, q⟩
theorem w_isiIC (O : OwnC K C) (q : Q (.bl false) H) : rIsi K [.int i, .ref C] H Q := ⟨_, _, .type "int", .ref C, false, rfl, .own C, .base (.int _), O.kIC, q⟩
end
theorem rawOk {P : Program} {w : World} {K : PySem.W.Frag} {mg : Str → Option Value} {base : Heap} {CX : CXT} {k : Nat} {f : Addr} {fd : FuncData} {ps : List Str} {sp : Sp} (F : FnOk P w K mg base CX k f fd ps sp) (hb : Binds K fd ps []) : FnR P w K mg base CX k f sp :=
  (F.raw hb .nil).imp fun vs H Q E h => by rw [List.append_nil]; exact h
/-! ### the head's facts as truth values of the written part -/
open He in
def obsZ (n : Nat) (ex : List (PySem.W.Frag → Bool)) (fn : List DefD) (g : Addr → Option Obj) : AlD := ((ex.all fun f => f (frG g (asD g n))) && fn.all fun d => d.ok (frG g (asD g n)), fn.map fun d => fnW (frG g (asD g n)) d.at_)
structure SaysZ (ex : List (PySem.W.Frag → Bool)) (fn : List He.DefD) (K : PySem.W.Frag) : Prop where
  facts : ∀ f ∈ ex, f K = true
  d : He.SaysD [] fn K
theorem SaysZ.fact {ex : List (PySem.W.Frag → Bool)} {fn : List He.DefD} {K : PySem.W.Frag} (c : SaysZ ex fn K) (i : Nat) {f : PySem.W.Frag → Bool} (h : ex[i]? = some f := by rfl) : f K = true := c.facts f (List.mem_of_getElem? h)
def hookZ (n : Nat) (ex : List (PySem.W.Frag → Bool)) (fn : List He.DefD) : PySem.W.Hook where
  α := He.AlD
  obs := fun s => obsZ n ex fn s.heap.get?
  val := fun _ => He.valD fn
  says := fun _ h => ∃ K : PySem.W.Frag, K.In h ∧ SaysZ ex fn K
  of := fun _ s e => by
    have e1 := congrArg (fun z : He.AlD => z.1) e
    have e2 := congrArg (fun z : He.AlD => z.2) e
    obtain ⟨h1, h2⟩ := He.ba e1
    refine ⟨He.frG s.heap.get? (He.asD s.heap.get? n), He.frG_in, fun f hf => List.all_eq_true.mp h1 f hf, ?_⟩
    show ((([] : List He.Fa).all fun f => f.ok _) && fn.all fun d => d.ok _, fn.map fun d => He.fnW _ d.at_) = (true, fn.map He.DefD.val)
    rw [h2]
    exact congrArg (fun z => (true, z)) e2
  keeps := fun _ _ _ ⟨K, hK, c⟩ k => ⟨K, PySem.W.Frag.In.keeps hK k, c⟩
theorem obsZ_eq {n : Nat} {ex : List (PySem.W.Frag → Bool)} {fn : List He.DefD} {g : Addr → Option Obj} {s : Shared} (h : ∀ a, g a = s.heap.get? a) : obsZ n ex fn g = (hookZ n ex fn).obs s := by
  have e : g = s.heap.get? := funext h
  rw [e]
  rfl
def bltB (x : Str) (id : String) (K : PySem.W.Frag) : Bool := He.eqO (PySem.W.nsIn K mainGlobals x) (some (some (.builtin id)))
theorem blt_ok {K : PySem.W.Frag} {h : Heap} {mg : Str → Option Value} (X : K.In h) (G : h.Ns mainGlobals mg) {x : Str} {id : String} (c : bltB x id K = true) : mg x = some (.builtin id) := PySem.W.mg_of X G (He.eqO_ok c)
def nometB (x f : Str) (K : PySem.W.Frag) : Bool := He.eqO (PySem.W.findIn K (.ref (He.ga K x)) f) (some none)
theorem nomet_ok {K : PySem.W.Frag} {x f : Str} (c : nometB x f K = true) : PySem.W.findIn K (.ref (He.ga K x)) f = some none := He.eqO_ok c
end Z
namespace Z
open PySem L2 PySem.Spec PyProof.Rows
/-! ### calls whose errors are wished for at the caller's slots -/
section
variable {X : Cx} {CX : CXT} {k : Nat} {f g C : Addr} {fd : FuncData} {ps : List Str} {sp : Sp} {dvs : List V} {ds : List Value} {E : L2.St → XK} {x m : Str} {p pos apos : Pos} {e o : Expr} {es : List Expr} {ta tb : TE} {t : TA} {a b : Expr}
theorem runR {pins : List (Addr × Obj)} {σ : L2.St} {G : Hp} {s : Shared} {Q : VK} {us : List Value} {vs : List V} (F : FnR X.prog X.w X.K X.mg X.base CX k f sp) (hr : Room k X.A) (hx : PassesAt CX X σ (E σ)) (I : Inv X pins σ G s) (r : Vals vs us) (h : sp vs G Q (E σ)) :
    codeAny (model X.prog X.w) X.A (.call (.ref f) ⟨us, []⟩) (fun r s' => match r with | .ok (.ret v) => EP X pins σ Q v s' | .ok _ => False | .error e => X.xe e s') s :=
  codeAny_mono (F X.A X.stack s G us vs Q (E σ) hr I.env0 r h) fun r s' hq => match r, hq with
    | .error e, hq => hx pins G s e s' I hq
    | .ok (.ret u), hq => I.after hq
    | .ok .next, hq => hq
    | .ok .brk, hq => hq
    | .ok .cont, hq => hq
def tCallZ (sp : Sp) (dvs : List V) (E : L2.St → XK) (t : TA) : TE := fun σ H Q => tCall sp dvs (E σ) t σ H Q
theorem pe_callZ (F : FnOk X.prog X.w X.K X.mg X.base CX k f fd ps sp) (hr : Room k X.A) (hg : Gl X x) (hm : X.mg x = some (.ref f)) (hk : PySem.W.keepIn X.K (.ref f) = true) (hb : Binds X.K fd ps ds) (hd : Vals dvs ds) (hx : ∀ σ, PassesAt CX X σ (E σ)) (ha : PA X (e :: es) t)
    (hdb : (x == ("__debug__" : Str)) = false := by decide) (hst : starEach (e :: es) X.env = (false, eval e X.env) :: starEach es X.env := by rfl) (hpl : (backTo pos (starEach es X.env)).any (·.1) = false := by rfl) : PE X (.Call (.Name x p) (e :: es) [] pos) (tCallZ sp dvs E t) :=
  pe_callSD F hr hg hm hk hb hd hx ha hdb hst hpl
theorem pe_callZ0 (F : FnOk X.prog X.w X.K X.mg X.base CX k f fd ps sp) (hr : Room k X.A) (hg : Gl X x) (hm : X.mg x = some (.ref f)) (hk : PySem.W.keepIn X.K (.ref f) = true) (hb : Binds X.K fd ps ds) (hd : Vals dvs ds) (hx : ∀ σ, PassesAt CX X σ (E σ))
    (hdb : (x == ("__debug__" : Str)) = false := by decide) : PE X (.Call (.Name x p) [] [] pos) (tCallZ sp dvs E tNil) :=
  ⟨fun pins s σ G Q I h => wpAny_Call_Name_kw (ld_glob I hg hm (PySem.W.callWith_K0 I.kIn hk (run_fnSD (us := []) F hr hb hd (hx σ) I .nil h)) hdb)⟩
def tMethZ (C : Addr) (m : Str) (sp : Sp) (dvs : List V) (E : L2.St → XK) (ta : TE) (t : TA) : TE := fun σ H Q => tMeth C m sp dvs (E σ) ta t σ H Q
theorem pe_methZ {pl : Sem Bool} (he : PE X o ta) (c : Cls X.K C) (hm : Meth X.K C m f) (F : FnOk X.prog X.w X.K X.mg X.base CX k f fd ps sp) (hr : Room k X.A) (hb : Binds X.K fd ps ds) (hd : Vals dvs ds) (hx : ∀ σ, PassesAt CX X σ (E σ)) (ha : PA X (e :: es) t)
    (hst : starEach (e :: es) X.env = (false, eval e X.env) :: starEach es X.env := by rfl) (hpl : (backTo pos (starEach es X.env)).any (·.1) = false := by rfl)
    (ht : eval (.Call (.Attribute o m apos) (e :: es) [] pos) X.env = (do let ov ← eval o X.env; standAt apos.atName; let (f, first) ← holding [ov] (getMethod ov m pl); callWith pos f first (backTo pos (starEach (e :: es) X.env)) (backToKw pos (keywordEach [] X.env))) := by rfl) :
    PE X (.Call (.Attribute o m apos) (e :: es) [] pos) (tMethZ C m sp dvs E ta t) :=
  ⟨fun pins s σ G Q I h => PySem.W.methodCall_KW (pl := pl) (thn (he.run pins s σ G _ I h) fun u s1 ⟨z, H1, I1, rx, a, dx, fs, ex, ea, l, q⟩ => by
    subst ex
    obtain rfl : u = Value.ref a := rx
    exact getmeth_ok I1 ea c hm l (PySem.W.callWith_K (first := [.ref a]) (h₀ := X.base) I.ok.mod.kin hm.kp (thn (ha.run pos pins s1 σ H1 _ I1 q) fun us s2 ⟨vs, H2, I2, r, q2⟩ => ⟨I2.kIn, run_fnSD (us := .ref a :: us) (vs := .ref a :: vs) F hr hb hd (hx σ) I2 (.cons rfl r) q2⟩) hst hpl)) ht⟩
theorem pe_methZ0 {pl : Sem Bool} (he : PE X o ta) (c : Cls X.K C) (hm : Meth X.K C m f) (F : FnOk X.prog X.w X.K X.mg X.base CX k f fd ps sp) (hr : Room k X.A) (hb : Binds X.K fd ps ds) (hd : Vals dvs ds) (hx : ∀ σ, PassesAt CX X σ (E σ))
    (ht : eval (.Call (.Attribute o m apos) [] [] pos) X.env = (do let ov ← eval o X.env; standAt apos.atName; let (f, first) ← holding [ov] (getMethod ov m pl); callWith pos f first (backTo pos (starEach [] X.env)) (backToKw pos (keywordEach [] X.env))) := by rfl) :
    PE X (.Call (.Attribute o m apos) [] [] pos) (tMethZ C m sp dvs E ta tNil) :=
  ⟨fun pins s σ G Q I h => PySem.W.methodCall_KW (pl := pl) (thn (he.run pins s σ G _ I h) fun u s1 ⟨z, H1, I1, rx, a, dx, fs, ex, ea, l, q⟩ => by
    subst ex
    obtain rfl : u = Value.ref a := rx
    exact getmeth_ok I1 ea c hm l (PySem.W.callWith_K0 (first := [.ref a]) I1.kIn hm.kp (run_fnSD (us := [.ref a]) (vs := [.ref a]) F hr hb hd (hx σ) I1 (.cons rfl .nil) q))) ht⟩
theorem run_makeZ {pins : List (Addr × Obj)} {σ : L2.St} {G : Hp} {s : Shared} {Q : VK} {us : List Value} {vs : List V} (M : Mk X.K C f) (F : FnOk X.prog X.w X.K X.mg X.base CX k f fd ps sp) (hr : Room (k + 1) X.A) (hb : Binds X.K fd ps ds) (hd : Vals dvs ds) (hx : PassesAt CX X σ (E σ)) (I : Inv X pins σ G s) (r : Vals vs us)
    (h : ∀ x dx, G x = none → G dx = none → dx ≠ x → sp (.ref x :: (vs ++ dvs)) (upd (upd G dx (.own x)) x (.ins C dx [])) (fun v H2 => v = .non ∧ Q (.ref x) H2) (E σ)) : wpAny (model X.prog X.w) X.A (call (.ref C) us) (EP X pins σ Q) X.xe s := by
  have hq := h (s.heap.objs.size + 1) s.heap.objs.size (I.hok.fresh (Nat.le_succ _)) (I.hok.fresh (Nat.le_refl _)) (Nat.ne_of_lt (Nat.lt_succ_self _))
  have J := Inv.made (C := C) I
  have w2 : Vals (V.ref (s.heap.objs.size + 1) :: (vs ++ dvs)) (Value.ref (s.heap.objs.size + 1) :: (us ++ ds)) := .cons rfl (r.append hd)
  have hn : (Value.ref (s.heap.objs.size + 1) :: us ++ ds).length = ps.length := (w2.length.symm.trans (F.len _ _ _ _ hq) : _)
  refine wpAny_call (make_map (f := f) I.kIn M.makes M.init (beq_iff_eq.mp M.fn) (codeAny_mono (F.run _ X.stack _ _ ⟨Value.ref (s.heap.objs.size + 1) :: us, []⟩ _ _ _ (E σ) (hr.make C us []) (J.env0.make C us []) (hb _ (Value.ref (s.heap.objs.size + 1) :: us) J.kIn hn) w2 hq) fun r s' z => ?_))
  match r, z with
  | .error e, z => exact hx pins _ _ e s' J z
  | .ok (.ret u), z =>
    obtain ⟨v, H', I3, rv, ev, q3⟩ := J.after z
    subst ev
    exact ⟨rv, V.ref (s.heap.objs.size + 1), H', I3, rfl, q3⟩
  | .ok .next, z => exact z.elim
  | .ok .brk, z => exact z.elim
  | .ok .cont, z => exact z.elim
def tMakeZ (C : Addr) (sp : Sp) (dvs : List V) (E : L2.St → XK) (t : TA) : TE := fun σ H Q => tMake C sp dvs (E σ) t σ H Q
theorem pe_makeZ (M : Mk X.K C f) (F : FnOk X.prog X.w X.K X.mg X.base CX k f fd ps sp) (hr : Room (k + 1) X.A) (hg : Gl X x) (hm : X.mg x = some (.ref C)) (hb : Binds X.K fd ps ds) (hd : Vals dvs ds) (hx : ∀ σ, PassesAt CX X σ (E σ)) (ha : PA X (e :: es) t)
    (hdb : (x == ("__debug__" : Str)) = false := by decide) (hst : starEach (e :: es) X.env = (false, eval e X.env) :: starEach es X.env := by rfl) (hpl : (backTo pos (starEach es X.env)).any (·.1) = false := by rfl) : PE X (.Call (.Name x p) (e :: es) [] pos) (tMakeZ C sp dvs E t) :=
  ⟨fun pins s σ G Q I h => wpAny_Call_Name_kw (ld_glob I hg hm (PySem.W.callWith_K (h₀ := X.base) I.ok.mod.kin M.kp (thn (ha.run pos pins s σ G _ I h) fun us s1 ⟨vs, H1, I1, r, q⟩ => ⟨I1.kIn, run_makeZ M F hr hb hd (hx σ) I1 r q⟩) hst hpl) hdb)⟩
theorem pe_makeZ0 (M : Mk X.K C f) (F : FnOk X.prog X.w X.K X.mg X.base CX k f fd ps sp) (hr : Room (k + 1) X.A) (hg : Gl X x) (hm : X.mg x = some (.ref C)) (hb : Binds X.K fd ps ds) (hd : Vals dvs ds) (hx : ∀ σ, PassesAt CX X σ (E σ))
    (hdb : (x == ("__debug__" : Str)) = false := by decide) : PE X (.Call (.Name x p) [] [] pos) (tMakeZ C sp dvs E tNil) :=
  ⟨fun pins s σ G Q I h => wpAny_Call_Name_kw (ld_glob I hg hm (PySem.W.callWith_K0 I.kIn M.kp (run_makeZ (us := []) M F hr hb hd (hx σ) I .nil h)) hdb)⟩
/-- an operator at the slots σ -/
def OpS (X : Cx) (op : Operator) (r : L2.St → R2) : Prop := ∀ (pins : List (Addr × Obj)) (s : Shared) (σ : L2.St) (G : Hp) (x y : V) (v u : Value) (Q : VK), Inv X pins σ G s → RelV x v → RelV y u → r σ x y G Q → wpAny (model X.prog X.w) X.A (binaryOp op v u) (EP X pins σ Q) X.xe s
def tOpS (r : L2.St → R2) (ta tb : TE) : TE := fun σ H Q => tOp (r σ) ta tb σ H Q
theorem pe_opS {op : Operator} {r : L2.St → R2} (ho : OpS X op r) (ha : PE X a ta) (hb : PE X b tb) : PE X (.BinOp a op b pos) (tOpS r ta tb) :=
  ⟨fun pins s σ G Q I h => wpAny_BinOp (binT ha hb I h fun v u s2 x y H2 I2 rx ry q => ho pins s2 σ H2 x y v u Q I2 rx ry q)⟩
theorem OpS.or {op : Operator} {r q : L2.St → R2} (h : OpS X op r) (g : OpS X op q) : OpS X op (fun σ x y H Q => r σ x y H Q ∨ q σ x y H Q) := fun pins s σ G x y v u Q I rx ry z => z.elim (h pins s σ G x y v u Q I rx ry) (g pins s σ G x y v u Q I rx ry)
theorem OpS.of {op : Operator} {r : R2} (h : OpR X (binaryOp op) r) : OpS X op (fun _ => r) := fun pins s σ G x y v u Q I rx ry z => h pins s σ G x y v u Q I rx ry z
theorem opS_OO {op : Operator} (O : OwnC X.K C) (hs : PySem.W.findIn X.K (.ref C) (PySem.dunder op.info.2) = some (some (.ref g))) (hf : PySem.W.isFn X.K (.ref g) = true) (F : FnR X.prog X.w X.K X.mg X.base CX k g sp) (hr : Room k X.A) (hx : ∀ σ, PassesAt CX X σ (E σ)) :
    OpS X op (fun σ => rOO C sp (E σ)) := by
  intro pins s σ G x y v u Q I rx ry h
  obtain ⟨a, dx, fs, b, dy, gs, rfl, rfl, ha, hb, q⟩ := h
  cases (show v = Value.ref a from rx)
  cases (show u = Value.ref b from ry)
  obtain ⟨od, J⟩ := inst_of I ha
  obtain ⟨od', J'⟩ := inst_of I hb
  obtain ⟨m, hF⟩ := I.fr
  exact PySem.W.binop_K hF I.ok.mod.kin J J'.type O.sf hs hf (wpAny_mono (wpAny_call (runR (us := [.ref a, .ref b]) (vs := [.ref a, .ref b]) F hr (hx σ) I (.cons rfl (.cons rfl .nil)) q)) (fun w s' ⟨z', H', I', rz, qz⟩ => SlX.cmpback rz ⟨z', H', I', rz, qz⟩) fun _ _ x => x)
theorem opS_OI {op : Operator} {rc : Option Value} (O : OwnC X.K C) (hs : PySem.W.findIn X.K (.ref C) (PySem.dunder op.info.2) = some (some (.ref g))) (hf : PySem.W.isFn X.K (.ref g) = true) (hr' : PySem.W.findIn X.K (.ref C) (dunderR op.info.2) = some rc) (hp : rc = none ∨ ∃ g : Addr, rc = some (.ref g)) (h12 : IntHas op.info.2)
    (F : FnR X.prog X.w X.K X.mg X.base CX k g sp) (hr : Room k X.A) (hx : ∀ σ, PassesAt CX X σ (E σ)) : OpS X op (fun σ => rOI C sp (E σ)) := by
  intro pins s σ G x y v u Q I rx ry h
  obtain ⟨a, dx, fs, i, rfl, rfl, ha, q⟩ := h
  cases (show v = Value.ref a from rx)
  obtain ⟨t, rfl⟩ := (show ∃ t, u = Value.int i t from ry)
  obtain ⟨od, J⟩ := inst_of I ha
  obtain ⟨m, hF⟩ := I.fr
  exact PySem.W.ksp_binT (T := "int") hF I.ok.mod.kin J rfl O.sf hs hf hr' hp (h12 X.K).1.choose_spec (h12 X.K).2.choose_spec O.ni (wpAny_mono (wpAny_call (runR (us := [.ref a, .int i t]) (vs := [.ref a, .int i]) F hr (hx σ) I (.cons rfl (.cons ⟨t, rfl⟩ .nil)) q)) (fun w s' ⟨z', H', I', rz, qz⟩ => SlX.cmpback rz ⟨z', H', I', rz, qz⟩) fun _ _ x => x)
end
/-! ### try .. except X as n; isinstance of the caught error -/
section
variable {X : Cx} {x n : Str} {c : Value} {i : Nat} {body suite : List Stmt} {b₀ : Stmt} {np pos pos' : Pos} {tb : WX → TS} {ts : Addr → Value → Option Addr → TS} {Wout : WX}
def tTryA (K : PySem.W.Frag) (c : Value) (i : Nat) (tb : WX → TS) (ts : Addr → Value → Option Addr → TS) (Wout : WX) : TS := fun D σ H => tb (wAs K c i ts Wout D) D σ H
theorem ps_tryA (hs : X.stack = X.env :: X.outer) (hf : X.env.frame = some X.env.locals) (hN : X.N.Nodup) (hi : X.N[i]? = some n) (hln : X.env.kindOf n = some .local) (hc : Names X x c) (tk : Takes X Wout)
    (hb : ∀ (W : WX) (pn : List (Addr × Obj)) (xe : Value → Shared → Prop), Takes (X.tr pn xe) W → PassesOwn (model X.prog X.w) X.A X.env xe → PSs (X.tr pn xe) body (tb W))
    (hsu : ∀ (a : Addr) (oe : Obj) (cls : Value) (d : Option Addr) (pn : List (Addr × Obj)), Zc cls d oe → (∃ vs, oe.data = .fields vs) → PSs (X.suite a ((a, oe) :: pn)) (b₀ :: suite) (ts a cls d)) :
    PS X (.Try body [.ExceptHandler (some (.Name x np)) (some n) (b₀ :: suite) pos'] [] [] pos) (tTryA X.K c i tb ts Wout) := ps_try_as hs hf hN hi hln hc tk hb hsu
def tTryO (K : PySem.W.Frag) (c : Value) (tb : WX → TS) (ts : Addr → Value → Option Addr → TS) (Wout : WX) : TS := fun D σ H => tb (wOnly K c ts Wout D) D σ H
theorem ps_tryO (hs : X.stack = X.env :: X.outer) (hf : X.env.frame = some X.env.locals) (hc : Names X x c) (tk : Takes X Wout)
    (hb : ∀ (W : WX) (pn : List (Addr × Obj)) (xe : Value → Shared → Prop), Takes (X.tr pn xe) W → PassesOwn (model X.prog X.w) X.A X.env xe → PSs (X.tr pn xe) body (tb W))
    (hsu : ∀ (a : Addr) (oe : Obj) (cls : Value) (d : Option Addr) (pn : List (Addr × Obj)), Zc cls d oe → (∃ vs, oe.data = .fields vs) → PSs (X.suite a ((a, oe) :: pn)) (b₀ :: suite) (ts a cls d)) :
    PS X (.Try body [.ExceptHandler (some (.Name x np)) none (b₀ :: suite) pos'] [] [] pos) (tTryO X.K c tb ts Wout) := ps_try_only hs hf hc tk hb hsu
def rIsZ (K : PySem.W.Frag) (cls : Value) (d : Option Addr) (a : Addr) : List V → Hp → VK → Prop := fun xs H Q => ∃ D, cls = .ref D ∧ d = none ∧ ExcC K D ∧ rIsE K D a xs H Q
theorem call_isZ {a : Addr} {oe : Obj} {cls : Value} {d : Option Addr} {pn : List (Addr × Obj)} (hz : Zc cls d oe) (hf : ∃ vs, oe.data = .fields vs) : CallR (X.suite a ((a, oe) :: pn)) (.builtin "isinstance") (rIsZ X.K cls d a) := by
  intro pins s σ G xs us Q I r h
  obtain ⟨D, rfl, rfl, C, h⟩ := h
  exact call_isE C hz hf pins s σ G xs us Q I r h
end
section
variable {K : PySem.W.Frag} {σ : L2.St} {H : Hp} {Q : VK} {D : Ends} {tb : WX → TS} {ts : Addr → Value → Option Addr → TS} {Wout : WX} {c cls : Value} {d : Option Addr} {i : Nat} {ta : TE} {t : TA} {sp : Sp} {dvs : List V} {E : L2.St → XK} {C a b dx : Addr} {m : Str} {fs : List (Str × V)}
theorem w_tryA (h : tb (wAs K c i ts Wout D) D σ H) : tTryA K c i tb ts Wout D σ H := h
theorem w_tryO (h : tb (wOnly K c ts Wout D) D σ H) : tTryO K c tb ts Wout D σ H := h
/-- behind an except suite with a name -/
def endAs (D : Ends) (i : Nat) : Ends := { nx := fun σ' H' => D.nx (σ'.set i none) H', rt := D.rt, bk := fun σ' H' => D.bk (σ'.set i none) H', ct := fun σ' H' => D.ct (σ'.set i none) H' }
theorem w_as (h : PySem.W.exmOne K cls c = some true) (q : ∀ a, Fr H a → ts a cls d (endAs D i) (σ.set i (some (.ref a))) H) : WE (wAs K c i ts Wout D) σ cls d H := ⟨true, h, fun _ a ha => q a ha, fun z => nomatch z⟩
theorem w_asN (h : PySem.W.exmOne K cls c = some false) (q : Wout cls d σ H) : WE (wAs K c i ts Wout D) σ cls d H := ⟨false, h, fun z => (nomatch z), fun _ => q⟩
theorem w_only (h : PySem.W.exmOne K cls c = some true) (q : ∀ a, Fr H a → ts a cls d D σ H) : WE (wOnly K c ts Wout D) σ cls d H := ⟨true, h, fun _ a ha => q a ha, fun z => nomatch z⟩
theorem w_onlyN (h : PySem.W.exmOne K cls c = some false) (q : Wout cls d σ H) : WE (wOnly K c ts Wout D) σ cls d H := ⟨false, h, fun z => (nomatch z), fun _ => q⟩
theorem w_enx (h : D.nx (σ.set i none) H) : (endAs D i).nx σ H := h
theorem w_ert {v : V} (h : D.rt v H) : (endAs D i).rt v H := h
theorem w_ebk (h : D.bk (σ.set i none) H) : (endAs D i).bk σ H := h
theorem w_ect (h : D.ct (σ.set i none) H) : (endAs D i).ct σ H := h
theorem w_callZ0 (h : t σ H fun vs H1 => sp vs H1 Q (E σ)) : tCallZ sp [] E t σ H Q := by
  show t σ H fun vs H1 => sp (vs ++ []) H1 Q (E σ)
  simp only [List.append_nil]
  exact h
theorem w_callZ (h : t σ H fun vs H1 => sp (vs ++ dvs) H1 Q (E σ)) : tCallZ sp dvs E t σ H Q := h
def dMe (C : Addr) (m : Str) (sp : Sp) (dvs : List V) (E : XK) (t : TA) (σ : L2.St) (Q : VK) : VK := fun x H1 => ∃ a dx fs, x = .ref a ∧ H1 a = some (.ins C dx fs) ∧ fs.lookup m = none ∧ t σ H1 fun vs H2 => sp (x :: (vs ++ dvs)) H2 Q E
theorem w_methZ (h : ta σ H (dMe C m sp dvs (E σ) t σ Q)) : tMethZ C m sp dvs E ta t σ H Q := h
theorem w_meth {E : XK} (h : ta σ H (dMe C m sp dvs E t σ Q)) : tMeth C m sp dvs E ta t σ H Q := h
theorem w_dMe {E : XK} (h : At H a (.ins C dx fs)) (hl : fs.lookup m = none) (q : t σ H fun vs H2 => sp (.ref a :: (vs ++ dvs)) H2 Q E) : dMe C m sp dvs E t σ Q (.ref a) H := ⟨a, dx, fs, rfl, h, hl, q⟩
theorem w_dMe0 {E : XK} (h : At H a (.ins C dx fs)) (hl : fs.lookup m = none) (q : t σ H fun vs H2 => sp (.ref a :: vs) H2 Q E) : dMe C m sp [] E t σ Q (.ref a) H := ⟨a, dx, fs, rfl, h, hl, by simp only [List.append_nil]; exact q⟩
theorem w_makeZ (h : t σ H (dMk C sp dvs (E σ) Q)) : tMakeZ C sp dvs E t σ H Q := h
theorem w_opS {r : L2.St → R2} {tb : TE} (h : ta σ H fun x H1 => tb σ H1 fun y H2 => r σ x y H2 Q) : tOpS r ta tb σ H Q := h
/-- isinstance(e, c) of the caught error, c an own class -/
theorem w_isZ {b : Bool} {e : Addr} (x : ExcC K C) (h : PySem.W.kitOne K (.ref C) (.ref a) = some b) (q : Q (.bl b) H) : rIsZ K (.ref C) none e [.ref e, .ref a] H Q := ⟨C, rfl, rfl, x, .ref a, .ref a, b, rfl, fun u r => r, h, q⟩
theorem w_isZt {b : Bool} {e : Addr} {t : String} (x : ExcC K C) (h : PySem.W.kitOne K (.ref C) (.type t) = some b) (q : Q (.bl b) H) : rIsZ K (.ref C) none e [.ref e, .ty t] H Q := ⟨C, rfl, rfl, x, .ty t, .type t, b, rfl, fun u r => r, h, q⟩
end
def excB (x : Str) (K : PySem.W.Frag) : Bool := decide (PySem.W.findIn K (.ref (He.ga K x)) "__getattribute__" = some (some (.builtin "BaseException.__getattribute__"))) && (decide (PySem.W.findIn K (.ref (He.ga K x)) "__getattr__" = some none) && (decide (PySem.W.subIn K (.ref (He.ga K x)) (.type "BaseException") = some true) &&
  (PySem.W.hasDictIn K (He.ga K x) && (decide (PySem.W.findIn K (.ref (He.ga K x)) "__class__" = some (some (.builtin "object.__class__"))) && (decide (PySem.W.specialIn K (.builtin "object.__class__") "__get__" = some (some (.builtin "getset_descriptor.__get__"))) &&
  (decide (PySem.W.takesIn K (.builtin "object.__class__") = some true) && decide (PySem.W.mroIn K (He.ga K x) (.type "object") = some true)))))))
theorem excB_ok {K : PySem.W.Frag} {x : Str} (h : excB x K = true) : ExcC K (He.ga K x) := by
  obtain ⟨h1, h⟩ := He.ba h
  obtain ⟨h2, h⟩ := He.ba h
  obtain ⟨h3, h⟩ := He.ba h
  obtain ⟨h4, h⟩ := He.ba h
  obtain ⟨h5, h⟩ := He.ba h
  obtain ⟨h6, h⟩ := He.ba h
  obtain ⟨h7, h8⟩ := He.ba h
  exact ⟨of_decide_eq_true h1, of_decide_eq_true h2, of_decide_eq_true h3, h4, of_decide_eq_true h5, of_decide_eq_true h6, of_decide_eq_true h7, of_decide_eq_true h8⟩
/-- what the except clause 'except y' says to an error of the class x -/
def exmB (x y : Str) (b : Bool) (K : PySem.W.Frag) : Bool := decide (PySem.W.exmOne K (.ref (He.ga K x)) (.ref (He.ga K y)) = some b)
theorem exmB_ok {K : PySem.W.Frag} {x y : Str} {b : Bool} (h : exmB x y b K = true) : PySem.W.exmOne K (.ref (He.ga K x)) (.ref (He.ga K y)) = some b := of_decide_eq_true h
def kitB2 (x y : Str) (b : Bool) (K : PySem.W.Frag) : Bool := decide (PySem.W.kitOne K (.ref (He.ga K x)) (.ref (He.ga K y)) = some b)
theorem kitB2_ok {K : PySem.W.Frag} {x y : Str} {b : Bool} (h : kitB2 x y b K = true) : PySem.W.kitOne K (.ref (He.ga K x)) (.ref (He.ga K y)) = some b := of_decide_eq_true h
def kitBt (x : Str) (t : String) (b : Bool) (K : PySem.W.Frag) : Bool := decide (PySem.W.kitOne K (.ref (He.ga K x)) (.type t) = some b)
theorem kitBt_ok {K : PySem.W.Frag} {x : Str} {t : String} {b : Bool} (h : kitBt x t b K = true) : PySem.W.kitOne K (.ref (He.ga K x)) (.type t) = some b := of_decide_eq_true h
/-! ### an int on the left of a comparison -/
theorem one_int {op : CmpOp} {i : Int} {t : Tok} {x : Addr} : oneThing? op (.int i t) (.ref x) = none := by rfl
theorem cmpIO {prog : Program} {w : World} {A : Around} {E : Value → Shared → Prop} {s : Shared} {K : PySem.W.Frag} {x dx C f : Addr} {od : Option Obj} {op : CmpOp} {id : String} {B : Builtin} {i : Int} {t : Tok} {Q : Value → Shared → Prop} (hu : A.units < cLine)
    (X : K.In s.heap) (I : PySem.W.InstAt s.heap x (PySem.W.instObj C dx) C od) (slot : Slot "int" (cmpInfo op).2.1 id) (entry : entryFor table id = some B) (args : argsOk id ⟨[.int i t, .ref x], []⟩) (hB : ∃ nm f, B = Builtin.Int.intBinary nm f false)
    (hs : PySem.W.findIn K (.ref C) (cmpInfo op).2.2 = some (some (.ref f))) (hf : PySem.W.isFn K (.ref f) = true) (hsub : PySem.W.subIn K (.ref C) (.type "int") = some false)
    (h : wpAny (model prog w) A (call (.ref f) [.ref x, .int i t]) (PySem.W.CmpBack Q) E s) : wpAny (model prog w) A (richCompare op (.int i t) (.ref x)) Q E s := by
  have hx : s.heap.get? x = some (PySem.W.instObj C dx) := I.1
  have one : wpAny (model prog w) A (tryCompare (.int i t) (cmpInfo op).2.1 (.ref x)) (fun r s' => r = none ∧ s' = s) E s := by
    simp only [tryCompare]
    exact wpAny_bind (wpAny_callSpecialIfBound?_slot (typeIs_int s i t) slot (int_ni slot entry args hB hx (wpAny_pure ⟨rfl, rfl⟩)))
  have two : wpAny (model prog w) A (tryCompare (.ref x) (cmpInfo op).2.2 (.int i t)) (fun r s' => ∃ v, r = some v ∧ Q v s') E s := by
    simp only [tryCompare]
    refine wpAny_bind (PySem.W.ifBound_K X I hs hf (wpAny_mono h (fun v s' hv => ?_) fun _ _ e => e))
    cases v <;> first | exact wpAny_pure ⟨_, rfl, hv⟩ | exact hv.elim
  have ne : (Value.type "int" != Value.ref C) = true := by
    have : (Value.type "int" == Value.ref C) = false := Bool.eq_false_iff.mpr fun q => by cases beq_iff_eq.mp q
    simp only [bne, this, Bool.not_false]
  have L1 : PySem.W.Looks (model prog w) s.heap (typeOf (.ref x)) (.ref C) := I.type
  have L5 : PySem.W.Looks (model prog w) s.heap (isSubtype (.ref C) (.type "int")) false := PySem.W.looks_subIn X hsub
  unfold richCompare
  simp only [one_int]
  refine wpAny_holding (wpAny_bind (wpAny_cRoomFor hu ?_))
  refine wpAny_bind (wpAny_typeOf (typeIs_int s i t) (wpAny_bind (L1.here ?_)))
  simp only [ne, if_true]
  refine wpAny_bind (L5.here ?_)
  simp only [Bool.false_eq_true, if_false, Bool.not_false, if_true]
  refine wpAny_bind (wpAny_mono one (fun r s' hr => ?_) fun _ _ e => e)
  obtain ⟨rfl, rfl⟩ := hr
  dsimp only
  refine wpAny_bind (wpAny_mono two (fun r s' hr => ?_) fun _ _ e => e)
  obtain ⟨v, rfl, hq⟩ := hr
  exact wpAny_pure hq
section
variable {X : Cx} {CX : CXT} {n : Nat} {C g : Addr} {sp : Sp} {E : XK}
theorem cmp_IO {op : CmpOp} {id : String} {B : Builtin} (hop : ∀ a b, compareOp op a b = richCompare op a b) (O : OwnC X.K C) (slot : Slot "int" (cmpInfo op).2.1 id) (entry : entryFor table id = some B) (args : ∀ a b, argsOk id ⟨[a, b], []⟩) (hB : ∃ nm f, B = Builtin.Int.intBinary nm f false)
    (hs : PySem.W.findIn X.K (.ref C) (cmpInfo op).2.2 = some (some (.ref g))) (hf : PySem.W.isFn X.K (.ref g) = true) (F : FnR X.prog X.w X.K X.mg X.base CX n g sp) (hr : Room n X.A) (hx : Passes CX X E) : OpR X (compareOp op) (rIO C sp E) := by
  intro pins s σ G x y v u Q I rx ry h
  obtain ⟨a, dx, fs, i, rfl, rfl, ha, q⟩ := h
  obtain ⟨t, rfl⟩ := (show ∃ t, v = Value.int i t from rx)
  cases (show u = Value.ref a from ry)
  obtain ⟨od, J⟩ := inst_of I ha
  rw [hop]
  exact cmpIO hr.units0 I.kIn J slot entry (args _ _) hB hs hf O.ni' (wpAny_mono (wpAny_call (run_fnR (us := [.ref a, .int i t]) (vs := [.ref a, .int i]) F hr hx I (.cons rfl (.cons ⟨t, rfl⟩ .nil)) q)) (fun w s' ⟨z', H', I', rz, qz⟩ => SlX.cmpback rz ⟨z', H', I', rz, qz⟩) fun _ _ x => x)
theorem cmp_IO_lt (O : OwnC X.K C) (hs : PySem.W.findIn X.K (.ref C) "__gt__" = some (some (.ref g))) (hf : PySem.W.isFn X.K (.ref g) = true) (F : FnR X.prog X.w X.K X.mg X.base CX n g sp) (hr : Room n X.A) (hx : Passes CX X E) : OpR X (compareOp .Lt) (rIO C sp E) :=
  cmp_IO (op := .Lt) (fun _ _ => rfl) O PySem.F.slot_int_lt PySem.F.entry_int_lt PySem.F.args_int_lt_2 ⟨_, _, rfl⟩ hs hf F hr hx
theorem cmp_IO_le (O : OwnC X.K C) (hs : PySem.W.findIn X.K (.ref C) "__ge__" = some (some (.ref g))) (hf : PySem.W.isFn X.K (.ref g) = true) (F : FnR X.prog X.w X.K X.mg X.base CX n g sp) (hr : Room n X.A) (hx : Passes CX X E) : OpR X (compareOp .LtE) (rIO C sp E) :=
  cmp_IO (op := .LtE) (fun _ _ => rfl) O PySem.F.slot_int_le PySem.F.entry_int_le PySem.F.args_int_le_2 ⟨_, _, rfl⟩ hs hf F hr hx
theorem cmp_IO_gt (O : OwnC X.K C) (hs : PySem.W.findIn X.K (.ref C) "__lt__" = some (some (.ref g))) (hf : PySem.W.isFn X.K (.ref g) = true) (F : FnR X.prog X.w X.K X.mg X.base CX n g sp) (hr : Room n X.A) (hx : Passes CX X E) : OpR X (compareOp .Gt) (rIO C sp E) :=
  cmp_IO (op := .Gt) (fun _ _ => rfl) O PySem.F.slot_int_gt PySem.F.entry_int_gt PySem.F.args_int_gt_2 ⟨_, _, rfl⟩ hs hf F hr hx
theorem cmp_IO_ge (O : OwnC X.K C) (hs : PySem.W.findIn X.K (.ref C) "__le__" = some (some (.ref g))) (hf : PySem.W.isFn X.K (.ref g) = true) (F : FnR X.prog X.w X.K X.mg X.base CX n g sp) (hr : Room n X.A) (hx : Passes CX X E) : OpR X (compareOp .GtE) (rIO C sp E) :=
  cmp_IO (op := .GtE) (fun _ _ => rfl) O PySem.F.slot_int_ge PySem.F.entry_int_ge PySem.F.args_int_ge_2 ⟨_, _, rfl⟩ hs hf F hr hx
theorem cmp_IO_eq (O : OwnC X.K C) (hs : PySem.W.findIn X.K (.ref C) "__eq__" = some (some (.ref g))) (hf : PySem.W.isFn X.K (.ref g) = true) (F : FnR X.prog X.w X.K X.mg X.base CX n g sp) (hr : Room n X.A) (hx : Passes CX X E) : OpR X (compareOp .Eq) (rIO C sp E) :=
  cmp_IO (op := .Eq) (fun _ _ => rfl) O PySem.F.slot_int_eq PySem.F.entry_int_eq PySem.F.args_int_eq_2 ⟨_, _, rfl⟩ hs hf F hr hx
end
/-! ### bool(x) -/
theorem bool_own {prog : Program} {w : World} {A : Around} {E : Value → Shared → Prop} {s : Shared} {K : PySem.W.Frag} {x C f L : Addr} {h₀ : Heap} {m : Str → Option Value} {ox : Obj} {od : Option Obj} {Q : Value → Shared → Prop} (F : PyProof.Rows.Fr h₀ L s.heap m) (X : K.In h₀)
    (I : PySem.W.InstAt s.heap x ox C od) (hs : PySem.W.findIn K (.ref C) "__bool__" = some (some (.ref f))) (hf : PySem.W.isFn K (.ref f) = true)
    (h : wpAny (model prog w) A.in1.in1 (call (.ref f) [.ref x]) (fun r s₁ => ∃ b, r = Value.bool b ∧ Q r s₁) E s) : wpAny (model prog w) A (call (.type "bool") [.ref x]) Q E s := by
  refine callType_codes (T := "bool") (Bi := Builtin.«object.__init__») (Q₁ := fun r s₁ => ∃ b, r = Value.bool b ∧ Q r s₁) PySem.F.called_bool (PySem.F.typeCall_bool_1 _) PySem.F.entry_object_init ?_ ?_
  · refine codeAny_of_tree ?_
    show wpAny _ A.in1.in1 (do checkBuiltinCall "bool.__new__" ⟨[.type "bool", .ref x], []⟩; again (.builtin "bool.__new__" ⟨[.type "bool", .ref x], []⟩)) _ _ s
    refine wpAny_bind (wpAny_of_eq (PySem.F.newCall_bool_1 _) (wpAny_pure ⟨plainId_quiet (by decide +kernel) _, codeAny_builtin PySem.F.entry_bool_new ?_⟩))
    rw [Around.under_plainId (by decide +kernel) _]
    unfold Builtin.«bool.__new__»
    refine wpAny_bind (wpAny_of_eq (a := true) (by first | rfl | kernel_rfl) ?_)
    refine PySem.W.KFB.if_not rfl ?_
    refine wpAny_bind (wpAny_of_eq (a := true) PySem.F.conv_sub_bool ?_)
    refine PySem.W.KFB.if_not rfl ?_
    refine wpAny_bind (wpAny_of_eq (a := [Value.ref x]) (by first | rfl | kernel_rfl) ?_)
    refine wpAny_bind (PySem.W.truthy_K F X I hs hf (wpAny_mono h (fun r s₁ hr => ?_) fun _ _ y => y))
    obtain ⟨b, rfl, hq⟩ := hr
    exact wpAny_pure ⟨b, rfl, hq⟩
  · rintro obj s₁ ⟨b, rfl, hq⟩
    exact ⟨PySem.typeIs_bool _ _, PySem.F.args_object_init_2 _ _, object_init_meets PySem.F.called_bool.init.lookup PySem.F.called_bool.made (by decide) prog w A.in1 _ s₁ ⟨PySem.typeIs_bool _ _, rfl, hq⟩⟩
section
variable {X : Cx} {CX : CXT} {n : Nat} {C g : Addr} {sp : Sp} {E : XK}
/-- bool(x) of an instance -/
def rBoolO (C : Addr) (sp : Sp) (E : XK) : List V → Hp → VK → Prop := fun xs H Q => ∃ a dx fs, xs = [V.ref a] ∧ H a = some (.ins C dx fs) ∧ sp [.ref a] H (fun z H' => ∃ b, z = .bl b ∧ Q z H') E
theorem call_boolO (hs : PySem.W.findIn X.K (.ref C) "__bool__" = some (some (.ref g))) (hf : PySem.W.isFn X.K (.ref g) = true) (F : FnR X.prog X.w X.K X.mg X.base CX n g sp) (hr : Room (n + 2) X.A) (hx : Passes CX X E) : CallR X (.type "bool") (rBoolO C sp E) := by
  intro pins s σ G xs us Q I r h
  obtain ⟨a, dx, fs, rfl, ha, q⟩ := h
  obtain ⟨u, rfl, ru⟩ := r.one
  cases (show u = Value.ref a from ru)
  obtain ⟨od, J⟩ := inst_of I ha
  obtain ⟨m, hF⟩ := I.fr
  have hr2 : Room n X.A.in1.in1 := (show Room (n + 1) X.A.in1 from Room.in1 hr).in1
  refine bool_own hF I.ok.mod.kin J hs hf (wpAny_mono (wpAny_call (SlX.run_at (us := [.ref a]) (ws := [.ref a]) F hr2 I.env0.in1.in1 hx I (.cons rfl .nil) q)) (fun w s' z => ?_) fun _ _ x => x)
  obtain ⟨z', H', I', rz, b, rfl, qz⟩ := z
  cases (show w = Value.bool b from rz)
  exact ⟨b, rfl, .bl b, H', I', rfl, qz⟩
end
theorem w_boolO {C a dx : Addr} {sp : Sp} {E : XK} {H : Hp} {Q : VK} {fs : List (Str × V)} (ha : At H a (.ins C dx fs)) (q : sp [.ref a] H (fun z H' => ∃ b, z = .bl b ∧ Q z H') E) : rBoolO C sp E [.ref a] H Q := ⟨a, dx, fs, rfl, ha, q⟩
def rBool1 : List V → Hp → VK → Prop := fun xs H Q => (∃ i, xs = [.int i] ∧ Q (.bl (i != 0)) H) ∨ ∃ k, xs = [.bl k] ∧ Q (.bl k) H
theorem call_boolI {X : Cx} : CallR X (.type "bool") rBool1 := call_bool1
theorem w_bool1 {i : Int} {H : Hp} {Q : VK} (q : Q (.bl (!decide (i = 0))) H) : rBool1 [.int i] H Q := .inl ⟨i, rfl, by
  have e : (i != 0) = !decide (i = 0) := by by_cases h : i = 0 <;> simp [h]
  rw [e]; exact q⟩
section
variable {K : PySem.W.Frag} {H : Hp} {Q : VK} {a b : Bool}
theorem w_eqZB (q : Q (.bl (decide (a = b))) H) : rEqZ K (.bl a) (.bl b) H Q := .inl ⟨rfl, by
  have e : decide (V.bl a = V.bl b) = decide (a = b) := by simp
  rw [e]; exact q⟩
theorem w_neZB (q : Q (.bl (!decide (a = b))) H) : rNeZ K (.bl a) (.bl b) H Q := .inl ⟨rfl, by
  have e : decide (V.bl a = V.bl b) = decide (a = b) := by simp
  rw [e]; exact q⟩
end
end Z
namespace Z
open PySem L2 PySem.Spec PyProof.Rows
/-! ### super() -/
/-- what is known where a def of the class at D says super(); x its first parameter -/
structure SupX (X : Cx) (D f : Addr) (x : Str) : Prop where
  ks : X.env.kindOf "super" = some .globalImplicit
  kc : X.env.kindOf "__class__" = some .free
  fu : X.env.func = some f
  fn : ∃ (oc : Value) (od : Option Addr) (fd : FuncData) (osl : Array (Option Value)) (ar : Arg), X.K.lookup f = some ⟨oc, od, .func fd, osl⟩ ∧ (fd.params.posonlyargs ++ fd.params.args).head? = some ar ∧ ar.arg = x
  co : ∃ (cda : Addr) (cl : Value) (cd : Option Addr) (vs : Array Value) (cs : Array (Option Value)) (file : Str) (tf : Tok), X.env.code = .ref cda ∧ X.K.lookup cda = some ⟨cl, cd, .fields vs, cs⟩ ∧ vs[2]? = some (.str file tf) ∧ ((X.prog.main.file : Str) == file) = true
  top : (X.prog.main.scope.names.lookup ("super" : Str)).isSome = false
  nm : X.N[0]? = some x
  vis : Vis X.env.scope x
  xd : (x == ("__classdict__" : Str)) = false
  ce : ∃ (cc : Addr) (cl : Value) (cd : Option Addr) (cs : Array (Option Value)), X.env.cells.lookup ("__class__" : Str) = some cc ∧ X.K.lookup cc = some ⟨cl, cd, .cell (some (.ref D)), cs⟩
  mg : X.mg "super" = none
  cl : ∃ cd, PySem.W.clsIn X.K D = some cd
section
variable {X : Cx} {D f g a C : Addr} {x m : Str} {pins : List (Addr × Obj)} {σ : L2.St} {H : Hp} {s : Shared} {ox : Obj} {od : Option Obj} {body : List Stmt} {p0 p1 : Pos} {attr : Str} {whole : Sem Value} {E : Value → Shared → Prop}
theorem sup_base {Q : Value → Shared → Prop} (S : SupX X D f x) (I : Inv X pins σ H s) (h0 : σ[0]? = some (some (.ref a))) (J : PySem.W.InstAt s.heap a ox C od) (hsub : PySem.W.mroIn X.K C (.ref D) = some true) (hat : (attr == ("__class__" : Str)) = false)
    (hq : ∀ so h', (∀ b o, s.heap.get? b = some o → h'.get? b = some o) → h'.get? so = some (PySem.W.ks_superObj D a C) → Q (.ref so) { s with heap := h' }) :
    PySem.wpAt (model X.prog X.w) X.A (.func body X.env) (attributeBase (.Call (.Name "super" p0) [] [] p1) attr X.env whole) Q E s := by
  have KX : X.K.In s.heap := I.kIn
  obtain ⟨oc, odf, fd, osl, ar, hf, hp, rfl⟩ := S.fn
  obtain ⟨cda, ccl, ccd, vs, ccs, file, tf, hco, hcode, hvs, hfile⟩ := S.co
  obtain ⟨cc, cel, ced, ces, hcc, hcell⟩ := S.ce
  obtain ⟨cdD, hD⟩ := S.cl
  obtain ⟨mb, hb1, hb2⟩ := I.mod.blt
  obtain ⟨ml, hn, hl⟩ := I.loc
  obtain ⟨u, r, l⟩ := hl 0 ar.arg (.ref a) S.nm h0 S.vis
  cases (show u = Value.ref a from r)
  obtain ⟨oD, hD1, hD2⟩ : ∃ oD, s.heap.get? D = some oD ∧ oD.data = .cls cdD := by
    unfold PySem.W.clsIn at hD
    split at hD
    · rename_i c d cd' sl ho
      cases hD
      exact ⟨_, KX _ _ ho, rfl⟩
    · cases hD
  refine PySem.ks_wpAt_super_base (env := X.env) S.ks S.kc hat S.fu (KX _ _ hf) rfl hp hco (KX _ _ hcode) rfl hvs hfile S.top ?_
  refine PySem.W.ks_loadName_global I.ok.kind S.ks (Calls.loadGlobal_builtin (by rw [I.ok.glob]; exact I.mod.glob.keeps I.bk) S.mg (by rw [I.ok.blt]; exact hb1.keeps I.bk) ((hb2 "super" (by decide)).trans (by decide +kernel)) ⟨rfl, ?_⟩)
  refine wpAny_loadName_free I.ok.kind S.kc hcc ⟨_, KX _ _ hcell, rfl⟩ ?_
  have fin : wpAny (model X.prog X.w) X.A (isType (.ref D)) (fun b s₄ => b = true ∧ wpAny (model X.prog X.w) X.A (call (.type "super") [.ref D, .ref a]) Q E s₄) E s := by
    obtain ⟨hh, gg, dd, tt, os⟩ := s
    refine PySem.ks_wpAny_isType_cls hD1 hD2 ⟨rfl, ?_⟩
    refine PySem.ks_wpAny_call_super hD1 hD2 J.at_ J.cls (fun c e => ?_) (PySem.W.looks_mroIn KX hsub) (fun h' e k => ?_)
    · have := J.no
      unfold PySem.W.notCls at this
      rw [e] at this
      exact Bool.noConfusion this
    · exact hq _ h' k e
  rcases l with ⟨hk, hm⟩ | ⟨hk, c, hc, hce⟩
  · exact wpAny_loadName_local I.ok.kind hk hn hm fin
  · rcases hk with hk | hk
    · exact wpAny_loadName_cell I.ok.kind hk hc hce fin
    · exact wpAny_loadName_free I.ok.kind hk hc hce fin S.xd
/-- an expression in the body of the running def -/
structure PEat (X : Cx) (c : Code) (e : Expr) (t : TE) : Prop where
  run : ∀ (pins : List (Addr × Obj)) (s : Shared) (σ : L2.St) (G : Hp) (Q : VK), Inv X pins σ G s → t σ G Q → PySem.wpAt (model X.prog X.w) X.A c (eval e X.env) (EP X pins σ Q) X.xe s
structure PSat (X : Cx) (c : Code) (st : Stmt) (t : TS) : Prop where
  run : ∀ (pins : List (Addr × Obj)) (s : Shared) (σ : L2.St) (G : Hp) (D : Ends), Inv X pins σ G s → t D σ G → PySem.wpAt (model X.prog X.w) X.A c (exec st X.env) (SP X pins D) X.xe s
/-- super().m(e, ..), m a def of a class above -/
def tSup (C : Addr) (sp : Sp) (E : L2.St → XK) (t : TA) : TE := fun σ H Q => ∃ a dx fs, σ[0]? = some (some (.ref a)) ∧ H a = some (.ins C dx fs) ∧ t σ H fun vs H2 => sp (.ref a :: vs) H2 Q (E σ)
theorem pe_sup {CX : CXT} {k : Nat} {sp : Sp} {E : L2.St → XK} {e : Expr} {es : List Expr} {t : TA} {apos pos : Pos} {pl : Sem Bool} (S : SupX X D f x) (hsub : PySem.W.mroIn X.K C (.ref D) = some true) (ho : PySem.W.nsIn X.K PySem.cStatics "thirdparty.any" = some none)
    (hm : PySem.W.ks_superIn X.K C D m = some (some (.ref g))) (ht : PySem.W.typeIn X.K (.ref g) = some (.type "function")) (hfn : PySem.W.fnIn X.K g = true) (F : FnR X.prog X.w X.K X.mg X.base CX k g sp) (hr : Room k X.A) (hx : ∀ σ, PassesAt CX X σ (E σ)) (ha : PA X (e :: es) t)
    (hat : (m == ("__class__" : Str)) = false := by decide +kernel) (hst : starEach (e :: es) X.env = (false, eval e X.env) :: starEach es X.env := by rfl) (hpl : (backTo pos (starEach es X.env)).any (·.1) = false := by rfl)
    (hev : eval (.Call (.Attribute (.Call (.Name "super" p0) [] [] p1) m apos) (e :: es) [] pos) X.env = (do let ov ← attributeBase (.Call (.Name "super" p0) [] [] p1) m X.env (eval (.Call (.Name "super" p0) [] [] p1) X.env); standAt apos.atName; let (f, first) ← holding [ov] (getMethod ov m pl); callWith pos f first (backTo pos (starEach (e :: es) X.env)) []) := by rfl) :
    PEat X (.func body X.env) (.Call (.Attribute (.Call (.Name "super" p0) [] [] p1) m apos) (e :: es) [] pos) (tSup C sp E t) := by
  refine ⟨fun pins s σ G Q I h => ?_⟩
  obtain ⟨a, dx, fs, h0, hins, q⟩ := h
  obtain ⟨od, J⟩ := inst_of I hins
  refine PySem.ks_wpAt_MethodCall (pl := pl) (sup_base S I h0 J hsub hat fun so h' up hso => ?_) hev
  have I1 : Inv X pins σ G { s with heap := h' } := I.kept (t' := s.toks) up
  have KX : X.K.In h' := I1.kIn
  obtain ⟨cd, hcd⟩ : ∃ cd, PySem.W.clsIn X.K C = some cd := by
    cases hc : PySem.W.clsIn X.K C with
    | none => unfold PySem.W.ks_superIn at hm; rw [hc] at hm; cases hm
    | some cd => exact ⟨cd, rfl⟩
  have hal : PySem.W.alongIn X.K m ((cd.mro.dropWhile (· != .ref D)).drop 1) = some (some (.ref g)) := by
    unfold PySem.W.ks_superIn at hm
    rw [hcd] at hm
    exact hm
  obtain ⟨og, hog, hogc⟩ : ∃ og, h'.get? g = some og ∧ og.cls = .type "function" := by
    have ht' : (X.K.lookup g).map (·.cls) = some (.type "function") := ht
    cases z : X.K.lookup g with
    | none => rw [z] at ht'; cases ht'
    | some og => rw [z] at ht'; exact ⟨og, KX _ _ z, Option.some.inj ht'⟩
  obtain ⟨hh, gg, dd, tt, os⟩ := s
  refine PySem.ks_wpAny_getMethod_super hso (PySem.W.looks_opaque KX ho) (l₀ := cd.mro) (fun A Q E s k q => wpAny_bind ((PySem.W.looks_clsIn KX hcd) A _ E s k (wpAny_pure q))) rfl KX hal hog hogc (PySem.W.ks_ne I.kIn J hcd) hat ?_
  have I2 := ClX.met_new (g := g) (C := a) I1
  have hb := ClX.base_none I1 (Nat.le_refl _)
  refine ClX.callwith_cm I2 hb hfn (thn (ha.run pos _ _ σ G _ I2 q) fun us s2 ⟨vs, H2, I3, r, q2⟩ => ⟨⟨ClX.pin_at I3, I3.kIn⟩, ?_⟩) hst hpl
  exact thn (wpAny_call (PySem.W.method_call (ClX.pin_at I3) (runR (us := .ref a :: us) (vs := .ref a :: vs) F hr (hx σ) I3 (.cons rfl r) q2))) fun _ _ y => ClX.unpinE y
theorem ps_supE {c : Code} {e : Expr} {pos : Pos} {t : TE} (h : PEat X c e t) (hi : interactive X.env = false := by rfl) (hs : swapsWith e none pos.line X.env = pure false := by rfl) : PSat X c (.Expr e pos) (tDrop t) :=
  ⟨fun pins s σ G D I q => PySem.ks_wpAt_Expr_any (PySem.ks_wpAt_mono (h.run pins s σ G _ I q) (fun v s1 ⟨y, H1, I1, r1, q1⟩ => ⟨σ, H1, I1, q1⟩) fun _ _ z => z) hi hs⟩
theorem ps_supA {c : Code} {e : Expr} {i : Nat} {y : Str} {pos pos' : Pos} {t : TE} (hN : X.N.Nodup) (hi : X.N[i]? = some y) (hy : Loc X.env.scope y) (h : PEat X c e t) (hs : swapsWith e (some (.Name y pos')) pos.line X.env = pure false := by rfl)
    (hf : X.fn y = true ∨ X.env.scope.names.lookup y = some .local := by first | exact .inl rfl | exact .inr rfl) : PSat X c (.Assign [.Name y pos'] e pos) (tAsg t (gName i)) :=
  ⟨fun pins s σ G D I q => PySem.ks_wpAt_Assign_Name (PySem.ks_wpAt_mono (h.run pins s σ G _ I q) (fun v s1 ⟨z, H1, I1, r1, q1⟩ => store_ok I1 hN hi hy r1 (fun s2 I2 => ⟨_, H1, I2, q1⟩) hf) fun _ _ z => z) hs⟩
end
/-- the def at f, of the class at D, that captures the cell of its class -/
structure FunS (P : Program) (K : PySem.W.Frag) (x qual : Str) (params : Arguments) (body : List Stmt) (scope : Scope) (D f : Addr) (fd : FuncData) : Prop where
  ex : ∃ (oc : Value) (od : Option Addr) (doc pm : Value) (an : Option Addr) (cda : Addr) (ct : Value) (osl : Array (Option Value)) (cc : Addr), fd = PySem.W.fnX x qual params body scope [("__class__", cc)] .none .none doc pm an (.ref cda) ct ∧ K.lookup f = some ⟨oc, od, .func fd, osl⟩ ∧
    PySem.W.codeIn K (.ref cda) qual = true ∧ (∃ (cl : Value) (cd : Option Addr) (cs : Array (Option Value)), K.lookup cc = some ⟨cl, cd, .cell (some (.ref D)), cs⟩) ∧
    ∃ (cl : Value) (cd : Option Addr) (vs : Array Value) (cs : Array (Option Value)) (file : Str) (tf : Tok), K.lookup cda = some ⟨cl, cd, .fields vs, cs⟩ ∧ vs[2]? = some (.str file tf) ∧ ((P.main.file : Str) == file) = true
  kp : PySem.W.keepIn K (.ref f) = true
/-- THE RULE for such a def; its first statement says super() -/
theorem FunS.ok {CX : CXT} {P : Program} {w : World} {K : PySem.W.Frag} {mg : Str → Option Value} {base : Heap} {x qual x0 : Str} {params : Arguments} {st : Stmt} {rest : List Stmt} {scope : Scope} {D f : Addr} {fd : FuncData} {N ps : List Str} {k : Nat} {sp : Sp} {ar : Arg}
    (F : FunS P K x qual params (st :: rest) scope D f fd) (S : NdefX.NScope N ps ["__class__"] scope) (hs : scope.names.lookup ("super" : Str) = some .globalImplicit) (hp : (params.posonlyargs ++ params.args).head? = some ar) (har : ar.arg = x0) (hN : N[0]? = some x0) (hx : scope.names.lookup x0 = some .local) (hxd : (x0 == ("__classdict__" : Str)) = false)
    (top : (P.main.scope.names.lookup ("super" : Str)).isSome = false) (hm : mg "super" = none) (hD : ∃ cd, PySem.W.clsIn K D = some cd) (len : ∀ vs H Q E, sp vs H Q E → vs.length = ps.length)
    (hbody : ∀ (cc cda : Addr) (A : Around) (outer : List Env) (s : Shared) (H : Hp) (vs : List V) (Q : VK) (E : XK), Room k (A.deeper (PySem.W.envX qual scope s.heap.objs.size f (.ref cda) [("__class__", cc)])) → sp vs H Q E →
      SupX (NdefX.ncx CX P w K mg base N ⟨x, qual, params, st :: rest, scope, [("__class__", cc)], cda⟩ f A outer s H E) D f x0 →
      ∃ t1 t2, PSat (NdefX.ncx CX P w K mg base N ⟨x, qual, params, st :: rest, scope, [("__class__", cc)], cda⟩ f A outer s H E) (.func (st :: rest) (PySem.W.envX qual scope s.heap.objs.size f (.ref cda) [("__class__", cc)])) st t1 ∧
        PSs (NdefX.ncx CX P w K mg base N ⟨x, qual, params, st :: rest, scope, [("__class__", cc)], cda⟩ f A outer s H E) rest t2 ∧ tSeq t1 t2 { nx := fun _ H' => Q .non H', rt := Q } (NdefX.startF N vs [none]) H) : FnOk P w K mg base CX (k + 1) f fd ps sp := by
  obtain ⟨oc, od, doc, pm, an, cda, ct, osl, cc, rfl, lk, hcd, ⟨cl1, cd1, cs1, hcell⟩, cl2, cd2, vs2, cs2, file, tf, hcode, hvs2, hfile⟩ := F.ex
  refine ⟨len, fun A outer s H args us vs Q E hr e0 hb r hsp => ?_⟩
  have hl := len _ _ _ _ hsp
  have KX : K.In s.heap := e0.mod.kin.keeps fun b o e => (e0.bs b o e).1
  have lim : s.heap.NoLimit := e0.mod.nolimit.keeps fun b o e => (e0.bs b o e).1
  refine PySem.ks_codeAny_call_defAt (fd := PySem.W.fnX x qual params (st :: rest) scope [("__class__", cc)] .none .none doc pm an (.ref cda) ct) (body := st :: rest) (binds := ps.zip us) hr.depth (KX _ _ lk) rfl lim (PySem.W.codeRec_of KX hcd) rfl hb S.nocell (fun y hy => S.par y.1 (List.of_mem_zip hy).1) (fun h₁ hns hk₁ => ?_) S.co S.gen S.kind
  have C : NdefX.CellsAt [(("__class__" : Str), cc)] ["__class__"] [none] s.heap H := by
    refine ⟨rfl, fun y c hc => ?_, fun a b c h1 h2 => ?_, fun i y hy => ?_⟩
    · have e : y = "__class__" ∧ c = cc := by
        simp only [List.lookup] at hc
        split at hc
        · rename_i q; exact ⟨by simpa using q, (Option.some.inj hc).symm⟩
        · cases hc
      obtain ⟨rfl, rfl⟩ := e
      have z := e0.mod.kin _ _ hcell
      exact ⟨(e0.bs _ _ z).2, _, _, KX _ _ hcell, rfl⟩
    · simp only [List.lookup] at h1 h2
      split at h1
      · rename_i q1
        split at h2
        · rename_i q2
          have a1 : a = "__class__" := by simpa using q1
          have b1 : b = "__class__" := by simpa using q2
          rw [a1, b1]
        · cases h2
      · cases h1
    · cases i with
      | zero =>
        cases hy
        refine ⟨cc, by simp [List.lookup], fun v hv => ?_⟩
        cases hv
      | succ i => cases hy
  have I := NdefX.inv_startN (CX := CX) (E := E) (f := f) (F := ⟨x, qual, params, st :: rest, scope, [("__class__", cc)], cda⟩) (ws := [none]) (tk := s.toks + (ps.zip us).length) S hr.hd e0 hl r C hns hk₁
  have SX : SupX (NdefX.ncx CX P w K mg base N ⟨x, qual, params, st :: rest, scope, [("__class__", cc)], cda⟩ f A outer s H E) D f x0 :=
    ⟨hs, S.frk _ (by simp), rfl, ⟨_, _, _, _, ar, lk, hp, har⟩, ⟨cda, _, _, _, _, file, tf, rfl, hcode, hvs2, hfile⟩, top, hN, .inl hx, hxd, ⟨cc, _, _, _, by simp [List.lookup, NdefX.ncx], hcell⟩, hm, hD⟩
  obtain ⟨t1, t2, p1, p2, hq⟩ := hbody cc cda A outer s H vs Q E (hr.deeper _) hsp SX
  have fin : ∀ {σ' : L2.St} {H' : Hp} {v : V} {u : Value} {s' : Shared}, Inv (NdefX.ncx CX P w K mg base N ⟨x, qual, params, st :: rest, scope, [("__class__", cc)], cda⟩ f A outer s H E) [] σ' H' s' → RelV v u → Q v H' → CE outer P w H s Q u s' :=
    fun {σ' H' v u s'} J rv q => ⟨v, H', J.os, J.bare, J.base, J.hok, rv, q⟩
  refine PySem.ks_wpAt_execs_cons (PySem.ks_wpAt_mono (p1.run [] _ _ H _ I hq) (fun fl s' hs' => ?_) fun e s' z => z)
  cases fl with
  | ret u =>
    obtain ⟨v, σ', H', J, rv, q⟩ := hs'
    exact fin J rv q
  | brk => obtain ⟨_, _, _, q⟩ := hs'; exact q.elim
  | cont => obtain ⟨_, _, _, q⟩ := hs'; exact q.elim
  | next =>
    obtain ⟨σ', H', J, q⟩ := hs'
    refine wpAt_of_wpAny (wpAny_mono (p2.run [] s' σ' H' _ J q) (fun fl s2 h2 => ?_) fun e s2 z => z)
    cases fl with
    | ret u =>
      obtain ⟨v, σ2, H2, J2, rv, q⟩ := h2
      exact fin J2 rv q
    | next =>
      obtain ⟨σ2, H2, J2, q⟩ := h2
      exact fin (v := V.non) (u := Value.none) J2 rfl q
    | brk => obtain ⟨_, _, _, q⟩ := h2; exact q.elim
    | cont => obtain ⟨_, _, _, q⟩ := h2; exact q.elim
/-! ### an own error's super().__init__(..) -/
section
variable {X : Cx} {D f a C u : Addr} {x : Str} {pins : List (Addr × Obj)} {σ : L2.St} {H : Hp} {s : Shared} {body : List Stmt} {p0 p1 : Pos} {A : Around} {E : Value → Shared → Prop}
theorem mw_call {us : List Value} {Q : Value → Shared → Prop} (T : OexC X.K C) (I : Inv X pins σ H s) (hu : s.heap.get? u = some (PySem.W.kxs_mw "ValueError.__init__" a)) (e : H a = some (exo a C none)) (hl : us.length ≤ sizeLine) (h : ∀ s', Inv X pins σ H s' → Q .none s') :
    wpAny (model X.prog X.w) A (call (.ref u) us) Q E s := by
  obtain ⟨nm, q, N, bs, bm, sn, sub, ab, col, dd, k0, k1, k2, k3, k5, hC, hbm⟩ := T.cls
  obtain ⟨t1, ho⟩ := exo_at I.hok e
  obtain ⟨hh, gg, d, tt, os⟩ := s
  refine wpAny_call (codeAny_of_tree (show wpAny _ A.in1 (callAny (.ref u) ⟨us, []⟩) _ _ _ from ?_))
  simp only [callAny]
  refine wpAny_bind (wpAny_load hu (?_ : wpAny _ _ _ _ _ _))
  simp only [PySem.W.kxs_mw]
  refine PySem.W.KFB.if_so (by decide) (wpAny_bind (PySem.W.check_bound_init PySem.F.excBase_ValueError.toExcCallFacts (I.kIn _ _ hC) ho rfl (wpAny_bind (wpAny_pure (wpAny_pure ⟨plainId_quiet PySem.F.excBase_ValueError.init.plain _, codeAny_builtin PySem.F.excBase_ValueError.initEntry ?_⟩)))))
  refine PySem.W.exc_init_tree (cls := .ref C) (t0 := t1) (dv := none) (c2 := .none) (c3 := .none) (b4 := .bool false) ho hl fun h' k hx hy => ?_
  have J := I.write (t' := tt) (x := a) (e := a) (o := exo a C none) (by rw [e]; exact True.intro) (.inl rfl) k ⟨_, hx⟩ (exo_ok hx)
  have eu : upd H a (exo a C none) = H := by
    funext b
    by_cases hb : b = a
    · rw [hb, upd_same, e]
    · rw [upd_ne hb]
  rw [eu] at J
  exact h _ J
def tSupX (K : PySem.W.Frag) (C : Addr) (t : TA) : TE := fun σ H Q => ∃ a, σ[0]? = some (some (.ref a)) ∧ OexC K C ∧ H a = some (exo a C none) ∧ t σ H fun vs H2 => vs.length ≤ 1000 ∧ H2 a = some (exo a C none) ∧ Q .non H2
theorem pe_supX {e : Expr} {es : List Expr} {t : TA} {apos pos : Pos} {pl : Sem Bool} (S : SupX X D f x) (hsub : PySem.W.mroIn X.K C (.ref D) = some true) (ho : PySem.W.nsIn X.K PySem.cStatics "thirdparty.any" = some none)
    (hm : PySem.W.ks_superIn X.K C D "__init__" = some (some (.builtin "ValueError.__init__"))) (hI : PySem.W.subIn X.K (.ref C) (.type "ValueError") = some true) (ha : PA X (e :: es) t)
    (hst : starEach (e :: es) X.env = (false, eval e X.env) :: starEach es X.env := by rfl) (hpl : (backTo pos (starEach es X.env)).any (·.1) = false := by rfl)
    (hev : eval (.Call (.Attribute (.Call (.Name "super" p0) [] [] p1) "__init__" apos) (e :: es) [] pos) X.env = (do let ov ← attributeBase (.Call (.Name "super" p0) [] [] p1) "__init__" X.env (eval (.Call (.Name "super" p0) [] [] p1) X.env); standAt apos.atName; let (f, first) ← holding [ov] (getMethod ov "__init__" pl); callWith pos f first (backTo pos (starEach (e :: es) X.env)) []) := by rfl) :
    PEat X (.func body X.env) (.Call (.Attribute (.Call (.Name "super" p0) [] [] p1) "__init__" apos) (e :: es) [] pos) (tSupX X.K C t) := by
  refine ⟨fun pins s σ G Q I h => ?_⟩
  obtain ⟨a, h0, T, hexo, q⟩ := h
  obtain ⟨t1, hoa⟩ := exo_at I.hok hexo
  have J : PySem.W.InstAt s.heap a ({ cls := .ref C, dict := none, data := .fields #[.ref t1, .none, .none, .none, .bool false, .none] } : Obj) C none := ⟨hoa, rfl, rfl, trivial⟩
  refine PySem.ks_wpAt_MethodCall (pl := pl) (sup_base S I h0 J hsub (by decide +kernel) fun so h' up hso => ?_) hev
  have I1 : Inv X pins σ G { s with heap := h' } := I.kept (t' := s.toks) up
  have KX : X.K.In h' := I1.kIn
  obtain ⟨cd, hcd⟩ : ∃ cd, PySem.W.clsIn X.K C = some cd := by
    cases hc : PySem.W.clsIn X.K C with
    | none => unfold PySem.W.ks_superIn at hm; rw [hc] at hm; cases hm
    | some cd => exact ⟨cd, rfl⟩
  have hal : PySem.W.alongIn X.K "__init__" ((cd.mro.dropWhile (· != .ref D)).drop 1) = some (some (.builtin "ValueError.__init__")) := by
    unfold PySem.W.ks_superIn at hm
    rw [hcd] at hm
    exact hm
  have J1 : PySem.W.InstAt h' a ({ cls := .ref C, dict := none, data := .fields #[.ref t1, .none, .none, .none, .bool false, .none] } : Obj) C none := ⟨up _ _ hoa, rfl, rfl, trivial⟩
  have LI : PySem.W.Looks (model X.prog X.w) h' (isInstance (.ref a) (.type "ValueError")) true := (J1.type (M := model X.prog X.w)).andThen (PySem.W.looks_subIn KX hI)
  obtain ⟨hh, gg, dd, tt, os⟩ := s
  refine PySem.W.kxs_getMethod PySem.W.kxs_ValueError hso (PySem.W.looks_opaque KX ho) (l₀ := cd.mro) (fun A Q E s k q => wpAny_bind ((PySem.W.looks_clsIn KX hcd) A _ E s k (wpAny_pure q))) rfl KX hal LI (PySem.W.ks_ne I.kIn J hcd) (by decide +kernel) ?_
  have I2 : Inv X ((h'.objs.size, PySem.W.kxs_mw "ValueError.__init__" a) :: pins) σ G ⟨h'.push (PySem.W.kxs_mw "ValueError.__init__" a), gg, dd, tt + 1, os⟩ := ClX.pin_new I1 (fun _ _ z => Heap.get?_push_of_some _ z) (Nat.le_refl _) (Heap.get?_push_size h' rfl) (fun v z => nomatch z)
  show wpAny _ _ (callWith pos (.ref h'.objs.size) [] (backTo pos (starEach (e :: es) X.env)) []) _ _ _
  have hrun := ha.run pos _ _ σ G _ I2 q
  rw [hst] at hrun ⊢
  refine PySem.W.kxs_callWith (i := "ValueError.__init__") (x := a) (by show (false || (backTo pos (starEach es X.env)).any (·.1)) = false; rw [hpl]; rfl) (PySem.Calls.evalArgs_plain (thn hrun fun us s2 ⟨vs, H2, I3, r, hv, he2, q2⟩ => ⟨ClX.pin_at I3, ?_⟩))
  refine mw_call T I3 (ClX.pin_at I3) he2 ?_ fun s3 I4 => ⟨.non, H2, ClX.unpin I4, rfl, q2⟩
  show us.length ≤ sizeLine
  rw [← r.length, sizeLine_eq]
  omega
end
end Z
namespace Z
open PySem L2 PySem.Spec PyProof.Rows
/-! ### the head's facts of own errors and of defs that say super() -/
def oexB (x : Str) (K : PySem.W.Frag) : Bool := (match K.lookup (He.ga K x) with
  | some ⟨.type "type", _, .cls cd, sl⟩ => (match cd.mro, sl.toList with
    | .ref C' :: bm, [_, _, _, _, some (.builtin n), _] => C' == He.ga K x && n == "ValueError.__new__" && !cd.hasDel && cd.hasDict && PySem.HandSPX.refsVE bm
    | _, _ => false)
  | _ => false) && (decide (PySem.W.findIn K (.ref (He.ga K x)) "__setattr__" = some (some (.builtin "object.__setattr__"))) && (decide (PySem.W.subIn K (.ref (He.ga K x)) (.type "BaseException") = some true) && (decide (PySem.W.typeIn K (.ref (He.ga K x)) = some (.type "type")) && PySem.W.keepIn K (.ref (He.ga K x)))))
theorem oexB_ok {K : PySem.W.Frag} {x : Str} (h : oexB x K = true) : OexC K (He.ga K x) := by
  obtain ⟨q, h⟩ := He.ba h
  obtain ⟨h2, h⟩ := He.ba h
  obtain ⟨h3, h⟩ := He.ba h
  obtain ⟨h4, h5⟩ := He.ba h
  refine ⟨?_, of_decide_eq_true h2, of_decide_eq_true h3, of_decide_eq_true h4, h5⟩
  split at q
  · rename_i dd cd sl ho
    split at q
    · rename_i C' bm k0 k1 k2 k3 n k5 hm hs
      simp only [Bool.and_eq_true, beq_iff_eq, Bool.not_eq_true'] at q
      obtain ⟨⟨⟨⟨rfl, rfl⟩, hdel⟩, hdi⟩, ht⟩ := q
      obtain ⟨nm, bs, mro, ns, qn, hd, sn, sub, ab, col, del⟩ := cd
      dsimp only at hm hdel hdi
      subst hm hdel hdi
      have hsl : sl = #[k0, k1, k2, k3, some (.builtin "ValueError.__new__"), k5] := by
        obtain ⟨l⟩ := sl
        simp only at hs
        rw [hs]
      subst hsl
      exact ⟨nm, qn, ns, bs, bm, sn, sub, ab, col, dd, k0, k1, k2, k3, k5, ho, ht⟩
    · cases q
  · cases q
/-- a def with its closure left out -/
def fnWs (K : PySem.W.Frag) (p : Str × Option Str) : He.FnW := match K.lookup (He.fAd K p) with
  | some ⟨_, _, .func fd, _⟩ => some (fd.name, fd.qualname, fd.params, fd.body, fd.scope, fd.globals, [], fd.builtins)
  | _ => none
def supB (d : He.DefD) (D file : Str) (K : PySem.W.Frag) : Bool := PySem.W.keepIn K (.ref (He.fAd K d.at_)) && (match K.lookup (He.fAd K d.at_) with
  | some ⟨_, _, .func fd, _⟩ => (match fd.closure, fd.code with
    | [(n, cc)], .ref cda => (match fd.defaults, fd.kwdefaults with
      | .none, .none => true
      | _, _ => false) && (decide (n = "__class__") && (PySem.W.codeIn K (.ref cda) d.qual && ((match K.lookup cc with
        | some ⟨_, _, .cell (some (.ref D')), _⟩ => decide (D' = He.ga K D)
        | _ => false) && (match K.lookup cda with
        | some ⟨_, _, .fields vs, _⟩ => (match (vs[2]? : Option Value) with
          | some (Value.str fl _) => file == fl
          | _ => false)
        | _ => false))))
    | _, _ => false)
  | _ => false)
theorem supB_ok {P : Program} {K : PySem.W.Frag} {d : He.DefD} {D : Str} (e : fnWs K d.at_ = d.val) (c : supB d D P.main.file K = true) : ∃ fd, FunS P K d.name d.qual d.params d.body d.scope (He.ga K D) (He.fAd K d.at_) fd := by
  obtain ⟨kp, c2⟩ := He.ba c
  unfold fnWs at e
  cases q : K.lookup (He.fAd K d.at_) with
  | none =>
    rw [q] at c2
    cases c2
  | some o =>
    obtain ⟨oc, od, dt, osl⟩ := o
    rw [q] at c2 e
    cases dt with
    | func fd =>
      obtain ⟨n1, n2, n3, n4, n5, n6, n7, n8, n9, n10, n11, n12, n13, n14, n15⟩ := fd
      have e2 : (some (n1, n2, n3, n4, n5, n6, ([] : List (Str × Addr)), n15) : He.FnW) = some (d.name, d.qual, d.params, .stmts d.body, d.scope, mainGlobals, [], builtinsNs) := e
      simp only [Option.some.injEq, Prod.mk.injEq] at e2
      obtain ⟨h1, h2, h3, h4, h5, h6, _, h8⟩ := e2
      subst h1 h2 h3 h4 h5 h6 h8
      dsimp only at c2
      split at c2
      · rename_i x1 x2 n cc cda
        obtain ⟨k0, c2⟩ := He.ba c2
        obtain ⟨k1, c3⟩ := He.ba c2
        obtain ⟨k2, c4⟩ := He.ba c3
        obtain ⟨k3, k4⟩ := He.ba c4
        have en : n = "__class__" := of_decide_eq_true k1
        subst en
        split at k0
        case h_2 => cases k0
        refine ⟨_, ⟨oc, od, n10, n11, n12, cda, n14, osl, cc, rfl, q, k2, ?_, ?_⟩, kp⟩
        · split at k3
          · rename_i cl cd D' cs hc
            have eD : D' = He.ga K D := of_decide_eq_true k3
            subst eD
            exact ⟨_, _, _, hc⟩
          · cases k3
        · split at k4
          · rename_i cl cd vs cs hc
            split at k4
            · rename_i fl tf hv
              exact ⟨_, _, vs, _, fl, tf, hc, hv, k4⟩
            · cases k4
          · cases k4
      · cases c2
    | _ => cases c2
def fdOf_S {P : Program} {K : PySem.W.Frag} {x qual : Str} {params : Arguments} {body : List Stmt} {scope : Scope} {D f : Addr} (h : ∃ fd, FunS P K x qual params body scope D f fd) : FunS P K x qual params body scope D f (fdOf K f) := by
  obtain ⟨fd, F⟩ := h
  have e : fdOf K f = fd := by
    obtain ⟨_, _, _, _, _, _, _, _, _, _, lk, _⟩ := F.ex
    unfold fdOf
    rw [lk]
  rw [e]
  exact F
/-- the facts that a super() call wants -/
def clsB (x : Str) (K : PySem.W.Frag) : Bool := (PySem.W.clsIn K (He.ga K x)).isSome
theorem clsB_ok {K : PySem.W.Frag} {x : Str} (h : clsB x K = true) : ∃ cd, PySem.W.clsIn K (He.ga K x) = some cd := Option.isSome_iff_exists.mp h
def mroB (x y : Str) (K : PySem.W.Frag) : Bool := decide (PySem.W.mroIn K (He.ga K x) (.ref (He.ga K y)) = some true)
theorem mroB_ok {K : PySem.W.Frag} {x y : Str} (h : mroB x y K = true) : PySem.W.mroIn K (He.ga K x) (.ref (He.ga K y)) = some true := of_decide_eq_true h
def thirdB (K : PySem.W.Frag) : Bool := decide (PySem.W.nsIn K PySem.cStatics "thirdparty.any" = some none)
theorem thirdB_ok {K : PySem.W.Frag} (h : thirdB K = true) : PySem.W.nsIn K PySem.cStatics "thirdparty.any" = some none := of_decide_eq_true h
/-- super().m from the class at y of an object of the class at x is the def m of the class at z -/
def supmB (x y m z : Str) (K : PySem.W.Frag) : Bool := decide (PySem.W.ks_superIn K (He.ga K x) (He.ga K y) m = some (some (.ref (He.ma K (He.ga K z) m)))) && (decide (PySem.W.typeIn K (.ref (He.ma K (He.ga K z) m)) = some (.type "function")) && PySem.W.fnIn K (He.ma K (He.ga K z) m))
theorem supmB_ok {K : PySem.W.Frag} {x y m z : Str} (h : supmB x y m z K = true) : PySem.W.ks_superIn K (He.ga K x) (He.ga K y) m = some (some (.ref (He.ma K (He.ga K z) m))) ∧ PySem.W.typeIn K (.ref (He.ma K (He.ga K z) m)) = some (.type "function") ∧ PySem.W.fnIn K (He.ma K (He.ga K z) m) = true := by
  obtain ⟨h1, h⟩ := He.ba h
  obtain ⟨h2, h3⟩ := He.ba h
  exact ⟨of_decide_eq_true h1, of_decide_eq_true h2, h3⟩
def supiB (x : Str) (K : PySem.W.Frag) : Bool := decide (PySem.W.ks_superIn K (He.ga K x) (He.ga K x) "__init__" = some (some (.builtin "ValueError.__init__"))) && (decide (PySem.W.subIn K (.ref (He.ga K x)) (.type "ValueError") = some true) && (decide (PySem.W.findIn K (.ref (He.ga K x)) "__init__" = some (some (.ref (He.ma K (He.ga K x) "__init__")))) && decide (PySem.W.typeIn K (.ref (He.ma K (He.ga K x) "__init__")) = some (.type "function"))))
theorem supiB_ok {K : PySem.W.Frag} {x : Str} (h : supiB x K = true) : PySem.W.ks_superIn K (He.ga K x) (He.ga K x) "__init__" = some (some (.builtin "ValueError.__init__")) ∧ PySem.W.subIn K (.ref (He.ga K x)) (.type "ValueError") = some true ∧ PySem.W.findIn K (.ref (He.ga K x)) "__init__" = some (some (.ref (He.ma K (He.ga K x) "__init__"))) ∧ PySem.W.typeIn K (.ref (He.ma K (He.ga K x) "__init__")) = some (.type "function") := by
  obtain ⟨h1, h⟩ := He.ba h
  obtain ⟨h2, h⟩ := He.ba h
  obtain ⟨h3, h4⟩ := He.ba h
  exact ⟨of_decide_eq_true h1, of_decide_eq_true h2, of_decide_eq_true h3, of_decide_eq_true h4⟩
/-! the hook with such defs -/
open He in
def obsY (n : Nat) (ex : List (PySem.W.Frag → Bool)) (fn fs : List DefD) (g : Addr → Option Obj) : AlD := ((ex.all fun f => f (frG g (PySem.cStatics :: asD g n))) && fn.all fun d => d.ok (frG g (PySem.cStatics :: asD g n)), (fn.map fun d => fnW (frG g (PySem.cStatics :: asD g n)) d.at_) ++ fs.map fun d => fnWs (frG g (PySem.cStatics :: asD g n)) d.at_)
structure SaysY (ex : List (PySem.W.Frag → Bool)) (fn fs : List He.DefD) (K : PySem.W.Frag) : Prop where
  facts : ∀ f ∈ ex, f K = true
  d : He.SaysD [] fn K
  s : fs.map (fun d => fnWs K d.at_) = fs.map He.DefD.val
theorem SaysY.fact {ex : List (PySem.W.Frag → Bool)} {fn fs : List He.DefD} {K : PySem.W.Frag} (c : SaysY ex fn fs K) (i : Nat) {f : PySem.W.Frag → Bool} (h : ex[i]? = some f := by rfl) : f K = true := c.facts f (List.mem_of_getElem? h)
theorem SaysY.sup {ex : List (PySem.W.Frag → Bool)} {fn fs : List He.DefD} {K : PySem.W.Frag} (c : SaysY ex fn fs K) (i : Nat) {d : He.DefD} (h : fs[i]? = some d := by rfl) : fnWs K d.at_ = d.val := by
  have e : (fs.map fun d => fnWs K d.at_)[i]? = (fs.map He.DefD.val)[i]? := by rw [c.s]
  rw [List.getElem?_map, List.getElem?_map, h] at e
  exact Option.some.inj e
def hookY (n : Nat) (ex : List (PySem.W.Frag → Bool)) (fn fs : List He.DefD) : PySem.W.Hook where
  α := He.AlD
  obs := fun s => obsY n ex fn fs s.heap.get?
  val := fun _ => (true, fn.map He.DefD.val ++ fs.map He.DefD.val)
  says := fun _ h => ∃ K : PySem.W.Frag, K.In h ∧ SaysY ex fn fs K
  of := fun _ s e => by
    have e1 := congrArg (fun z : He.AlD => z.1) e
    have e2 := congrArg (fun z : He.AlD => z.2) e
    obtain ⟨h1, h2⟩ := He.ba e1
    obtain ⟨e3, e4⟩ := List.append_inj e2 (by rw [List.length_map, List.length_map])
    refine ⟨He.frG s.heap.get? (PySem.cStatics :: He.asD s.heap.get? n), He.frG_in, fun f hf => List.all_eq_true.mp h1 f hf, ?_, e4⟩
    show ((([] : List He.Fa).all fun f => f.ok _) && fn.all fun d => d.ok _, fn.map fun d => He.fnW _ d.at_) = (true, fn.map He.DefD.val)
    rw [h2]
    exact congrArg (fun z => (true, z)) e3
  keeps := fun _ _ _ ⟨K, hK, c⟩ k => ⟨K, PySem.W.Frag.In.keeps hK k, c⟩
theorem obsY_eq {n : Nat} {ex : List (PySem.W.Frag → Bool)} {fn fs : List He.DefD} {g : Addr → Option Obj} {s : Shared} (h : ∀ a, g a = s.heap.get? a) : obsY n ex fn fs g = (hookY n ex fn fs).obs s := by
  have e : g = s.heap.get? := funext h
  rw [e]
  rfl
/-! ### own errors with fields -/
/-- __init__ of an error: super().__init__(text), then self.f = v for each of the names -/
def spX (C : Addr) (names : List Str) : Sp := fun vs H Q _ => ∃ (a : Addr) (ws : List V), vs = .ref a :: ws ∧ ws.length = names.length ∧ H a = some (exo a C none) ∧ ∀ dx, H dx = none → dx ≠ a → Q .non (upd (upd H dx (exd dx (names.zip ws).reverse)) a (exo a C (some dx)))
section
variable {K : PySem.W.Frag} {σ : L2.St} {H : Hp} {Q : VK} {D : Ends} {C a dx : Addr} {f : Str} {y : V} {fs : List (Str × V)} {t : TA} {to te : TE}
theorem w_supX (h0 : σ[0]? = some (some (.ref a))) (T : OexC K C) (ha : H a = some (exo a C none)) (q : t σ H fun vs H2 => vs.length ≤ 1000 ∧ H2 a = some (exo a C none) ∧ Q .non H2) : tSupX K C t σ H Q := ⟨a, h0, T, ha, q⟩
theorem upd_swap {H : Hp} {p q : Addr} {o u u' : HO} (h : p ≠ q) : upd (upd (upd H p u) q o) p u' = upd (upd H p u') q o := by
  funext b
  by_cases hp : b = p
  · subst hp; rw [upd_same, upd_ne h, upd_same]
  · by_cases hq : b = q
    · subst hq; rw [upd_ne hp, upd_same, upd_same]
    · rw [upd_ne hp, upd_ne hq, upd_ne hp, upd_ne hq, upd_ne hp]
end
/-- raise C(v, ..) -/
theorem mkX {C : Addr} {names : List Str} {H : Hp} {Q : XK} {vs : List V} (hl : vs.length = names.length) (hn : names.length ≤ 1000) (q : ∀ d H', Fr H d → Ex H H' → At H' d (.xd (names.zip vs).reverse) → Q (.ref C) (some d) H') :
    vs.length ≤ 1000 ∧ ∀ a, H a = none → spX C names (.ref a :: (vs ++ [])) (upd H a (exo a C none)) (fun v H2 => v = .non ∧ ∃ (d : Addr) (fs : List (Str × V)), H2 a = some (exo a C (some d)) ∧ H2 d = some (exd d fs) ∧ H d = none ∧ Q (.ref C) (some d) (upd (del H2 a) d (.xd fs))) (fun _ _ _ => False) := by
  refine ⟨by omega, fun a ha => ⟨a, vs, by rw [List.append_nil], hl, upd_same, fun dx hd hne => ⟨rfl, dx, _, upd_same, by rw [upd_ne hne, upd_same], by rw [upd_ne hne] at hd; exact hd, ?_⟩⟩⟩
  have hd' : H dx = none := by rw [upd_ne hne] at hd; exact hd
  have e : upd (del (upd (upd (upd H a (exo a C none)) dx (exd dx (names.zip vs).reverse)) a (exo a C (some dx))) a) dx (.xd (names.zip vs).reverse) = upd H dx (.xd (names.zip vs).reverse) := by
    funext b
    by_cases hb : b = dx
    · subst hb; rw [upd_same, upd_same]
    · rw [upd_ne hb, upd_ne hb]
      by_cases hba : b = a
      · subst hba; rw [del_same, ha]
      · rw [del_ne hba, upd_ne hba, upd_ne hb, upd_ne hba]
  rw [e]
  exact q dx _ hd' (Ex.new hd') upd_same
theorem FunS.binds {P : Program} {K : PySem.W.Frag} {x qual : Str} {params : Arguments} {body : List Stmt} {scope : Scope} {D f : Addr} {fd : FuncData} {ps : List Str} (F : FunS P K x qual params body scope D f fd)
    (h : ∀ (cl : List (Str × Addr)) (doc pm : Value) (an : Option Addr) (c1 c2 : Value) (us : List Value), us.length = ps.length → bindArgs (PySem.W.fnX x qual params body scope cl .none .none doc pm an c1 c2) ⟨us, []⟩ = pure (ps.zip us)) : Binds K fd ps [] := by
  obtain ⟨oc, od, doc, pm, an, cda, ct, osl, cc, rfl, _⟩ := F.ex
  intro s us _ hl
  rw [List.append_nil] at hl ⊢
  have e := h [("__class__", cc)] doc pm an (.ref cda) ct us hl
  intro M A Q E hq
  rw [e]
  exact wpAny_pure hq
/-! ### the caught error: isinstance, with or without fields; its fields -/
section
variable {X : Cx} {a : Addr} {oe : Obj} {cls : Value} {d : Option Addr} {pn : List (Addr × Obj)}
def rIsY (K : PySem.W.Frag) (cls : Value) (d : Option Addr) (a : Addr) : List V → Hp → VK → Prop := fun xs H Q => ∃ D, cls = .ref D ∧ ExcC K D ∧ (d = none ∨ ∃ dd fs, d = some dd ∧ H dd = some (.xd fs)) ∧ rIsE K D a xs H Q
theorem call_isY (hz : Zc cls d oe) (hf : ∃ vs, oe.data = .fields vs) : CallR (X.suite a ((a, oe) :: pn)) (.builtin "isinstance") (rIsY X.K cls d a) := by
  intro pins s σ G xs us Q I r h
  obtain ⟨D, rfl, C, hd, h⟩ := h
  rcases hd with rfl | ⟨dd, fs, rfl, hxd⟩
  · exact call_isE C hz hf pins s σ G xs us Q I r h
  · obtain ⟨c, cv, b, rfl, hcv, e, q⟩ := h
    cases r with
    | cons rx rr =>
      cases rr with
      | cons rt rr =>
        cases rr
        cases rx
        have ec := hcv _ rt
        subst ec
        obtain ⟨hget, _⟩ := I.pin (a, oe) (List.mem_append.mpr (.inl List.mem_cons_self))
        obtain ⟨vs, hv⟩ := hf
        obtain ⟨mA, hns, hr⟩ := (show ObjOk X.prog X.w G s.heap dd (.xd fs) from I.hok dd _ hxd)
        obtain ⟨od, ho, hl⟩ := lookIn_ns hns
        have J : PySem.W.InstAt s.heap a oe D (some od) := ⟨hget, hz.1, by unfold PySem.W.notCls; rw [hv] <;> rfl, by rw [hz.2]; exact ho⟩
        have hcl : (PySem.W.clsIn X.K D).isSome = true := by
          obtain ⟨cd, hc, _⟩ := PySem.W.any_some C.hd
          rw [hc]; rfl
        exact PySem.W.kia_one (PySem.W.kitx_exc hcl C.hg C.hk C.hs C.ha C.hn C.ht C.hm) I.kIn J e (fun z => nomatch z) fun tk => ⟨.bl b, G, I.kept (t' := tk) fun _ _ z => z, rfl, q⟩
end
section
variable {K : PySem.W.Frag} {σ : L2.St} {H : Hp} {Q : VK} {C a dd : Addr} {f : Str} {v : V} {fs : List (Str × V)} {te : TE} {b : Bool}
theorem w_isY (x : ExcC K C) (h : PySem.W.kitOne K (.ref C) (.ref a) = some b) (q : Q (.bl b) H) {e : Addr} : rIsY K (.ref C) none e [.ref e, .ref a] H Q := ⟨C, rfl, x, .inl rfl, .ref a, .ref a, b, rfl, fun u r => r, h, q⟩
theorem w_isYt {t : String} (x : ExcC K C) (h : PySem.W.kitOne K (.ref C) (.type t) = some b) (q : Q (.bl b) H) {e : Addr} : rIsY K (.ref C) none e [.ref e, .ty t] H Q := ⟨C, rfl, x, .inl rfl, .ty t, .type t, b, rfl, fun u r => r, h, q⟩
theorem w_isYd (x : ExcC K C) (hd : At H dd (.xd fs)) (h : PySem.W.kitOne K (.ref C) (.ref a) = some b) (q : Q (.bl b) H) {e : Addr} : rIsY K (.ref C) (some dd) e [.ref e, .ref a] H Q := ⟨C, rfl, x, .inr ⟨dd, fs, rfl, hd⟩, .ref a, .ref a, b, rfl, fun u r => r, h, q⟩
theorem w_isYdt {t : String} (x : ExcC K C) (hd : At H dd (.xd fs)) (h : PySem.W.kitOne K (.ref C) (.type t) = some b) (q : Q (.bl b) H) {e : Addr} : rIsY K (.ref C) (some dd) e [.ref e, .ty t] H Q := ⟨C, rfl, x, .inr ⟨dd, fs, rfl, hd⟩, .ty t, .type t, b, rfl, fun u r => r, h, q⟩
/-- e.f of the caught error -/
def dXf (a : Addr) (cls : Value) (d : Option Addr) (C : Addr) (f : Str) (Q : VK) : VK := fun x H1 => x = .ref a ∧ cls = .ref C ∧ ∃ (dd : Addr) (fs : List (Str × V)) (v : V), d = some dd ∧ H1 dd = some (.xd fs) ∧ fs.lookup f = some v ∧ Q v H1
theorem w_xf {cls : Value} {d : Option Addr} (h : te σ H (dXf a cls d C f Q)) : tXf a cls d C f te σ H Q := h
theorem w_dXf (hd : At H dd (.xd fs)) (hl : fs.lookup f = some v) (q : Q v H) : dXf a (.ref C) (some dd) C f Q (.ref a) H := ⟨rfl, rfl, dd, fs, v, rfl, hd, hl, q⟩
end
def xfcB (x : Str) (K : PySem.W.Frag) : Bool := xfB K (He.ga K x)
theorem xfcB_ok {K : PySem.W.Frag} {x : Str} (h : xfcB x K = true) : XfC K (He.ga K x) := xfB_ok h
/-! ### raise -/
def tRaise (t : L2.St → Hp → XK → Prop) (W : WX) : TS := fun _ σ H => t σ H fun cls d H' => W cls d σ H'
theorem ps_raiseZ {X : Cx} {W : WX} {e : Expr} {t : L2.St → Hp → XK → Prop} {pos : Pos} (hc : X.calm = true) (tk : Takes X W) (he : PMk X e t) : PS X (.Raise (some e) none pos) (tRaise t W) := ps_raise hc tk he
def dMX (C : Addr) (sp : Sp) (dvs : List V) (Q : XK) : List V → Hp → Prop := fun vs H1 => vs.length ≤ 1000 ∧ ∀ a, H1 a = none → sp (.ref a :: (vs ++ dvs)) (upd H1 a (exo a C none)) (fun v H2 => v = .non ∧ ∃ (d : Addr) (fs : List (Str × V)), H2 a = some (exo a C (some d)) ∧ H2 d = some (exd d fs) ∧ H1 d = none ∧ Q (.ref C) (some d) (upd (del H2 a) d (.xd fs))) (fun _ _ _ => False)
section
variable {σ : L2.St} {H : Hp} {Q : XK} {D : Ends} {C : Addr} {sp : Sp} {dvs vs : List V} {ta : TA} {names : List Str} {t : L2.St → Hp → XK → Prop} {W : WX}
theorem w_raise (h : t σ H fun cls d H' => W cls d σ H') : tRaise t W D σ H := h
theorem w_mkO (h : ta σ H (dMX C sp dvs Q)) : tMkO C sp dvs ta σ H Q := h
theorem w_dMX (hl : vs.length = names.length) (hn : names.length ≤ 1000) (q : ∀ d H', Fr H d → Ex H H' → At H' d (.xd (names.zip vs).reverse) → Q (.ref C) (some d) H') : dMX C (spX C names) [] Q vs H := mkX hl hn q
end
/-! ### slices of tuples, sorted -/
theorem slA {X : Cx} {K : PySem.W.Frag} (hK : X.K = K) : SlR X (rSlA K) := hK ▸ sl_tupA
theorem call_sortI {X : Cx} {K : PySem.W.Frag} (hK : X.K = K) : CallR X (.builtin "sorted") (rSortedI K) := hK ▸ cr_sortedI
section
variable {K : PySem.W.Frag} {H : Hp} {Q : VK} {a : Addr} {i : Int} {ns : List Int}
theorem w_slTo (h : SqT K H a (ns.map V.int)) (h0 : 0 ≤ i) (q : ∀ p H2, Ex H H2 → SqT K H2 p ((ns.take i.toNat).map V.int) → Q (.ref p) H2) : rSlA K (.ref a) none (some i) H Q := by
  refine ⟨a, _, rfl, h, fun hw => ?_, fun hw p hp => q p _ (Ex.new hp) (st_of ?_)⟩
  · refine q a H (Ex.refl H) ?_
    have e : ns.take i.toNat = ns := by
      have := hw.2
      obtain ⟨k, rfl⟩ := Int.eq_ofNat_of_zero_le h0
      rw [HT.sIx_nat, List.length_map] at this
      rw [Int.toNat_natCast]
      exact List.take_of_length_le (by omega)
    rw [e]; exact h
  · show upd H p _ p = _
    rw [upd_same, cut_to h0, List.map_take]
theorem w_slFrom (h : SqT K H a (ns.map V.int)) (h0 : 0 ≤ i) (q : ∀ p H2, Ex H H2 → SqT K H2 p ((ns.drop i.toNat).map V.int) → Q (.ref p) H2) : rSlA K (.ref a) (some i) none H Q := by
  refine ⟨a, _, rfl, h, fun hw => ?_, fun hw p hp => q p _ (Ex.new hp) (st_of ?_)⟩
  · refine q a H (Ex.refl H) ?_
    have e : ns.drop i.toNat = ns := by
      have := hw.1
      obtain ⟨k, rfl⟩ := Int.eq_ofNat_of_zero_le h0
      rw [HT.sIx_nat, List.length_map] at this
      rw [Int.toNat_natCast]
      rcases Nat.eq_zero_or_pos k with z | z
      · rw [z]; rfl
      · have : ns.length = 0 := by omega
        rw [List.length_eq_zero_iff.mp this]; simp
    rw [e]; exact h
  · show upd H p _ p = _
    rw [upd_same, cut_from h0, List.map_drop]
theorem w_sortI (h : SqL K H a (ns.map V.int)) (q : ∀ p H2 (ms : List Int), Fr H p → Ex H H2 → At H2 p (.lst (ms.map V.int)) → ms.Perm ns → ms.Pairwise (· ≤ ·) → Q (.ref p) H2) : rSortedI K [.ref a] H Q :=
  ⟨a, ns, rfl, h, fun ms p h1 h2 hp => q p _ ms hp (Ex.new hp) at_upd h1 h2⟩
end
/-! ### xs.pop(i) -/
theorem w_popI {H : Hp} {Q : VK} {a : Addr} {i : Int} {ns : List Int} (h : At H a (.lst (ns.map V.int))) (h0 : 0 ≤ i) (h1 : i < ns.length) (h2 : ns.length < 2 ^ 62)
    (q : ∀ H2, At H2 a (.lst ((ns.eraseIdx i.toNat).map V.int)) → Nl H H2 → (∀ H0, Ex H0 H → Fr H0 a → Ex H0 H2) → (∀ b o, b ≠ a → At H b o → At H2 b o) → Q (.int (ns.getD i.toNat 0)) H2) : rPopAt (.ref a) [.int i] H Q := by
  have hk : i.toNat < ns.length := by omega
  refine ⟨a, _, i, i.toNat, .int (ns.getD i.toNat 0), rfl, rfl, h, by omega, by omega, ?_, ?_, q _ ?_ (Nl.upd h) (fun H0 e n => Ex.mut e n) (fun b o hb e => by unfold At; rw [upd_ne hb]; exact e)⟩
  · unfold seqIndex?
    rw [List.length_map]
    simp only [show ¬ i < 0 by omega, if_false]
    simp [h0, h1]
  · rw [List.getElem?_map, List.getD_eq_getElem?_getD, List.getElem?_eq_getElem hk]
    rfl
  · unfold At
    rw [upd_same]
    congr 2
    apply List.ext_getElem?
    intro j
    simp only [List.getElem?_eraseIdx, List.getElem?_map]
    split <;> rfl
end Z
namespace Z
open PySem L2 PySem.Spec PyProof.Rows
/-! ### methods of classes above; constants of a class; stores into own fields -/
/-- the method m of the class x is the def m of the class y -/
def methB (x m y : Str) (K : PySem.W.Frag) : Bool := He.eqO (PySem.W.findIn K (.ref (He.ga K x)) m) (some (some (.ref (He.ma K (He.ga K y) m)))) && (PySem.W.isFn K (.ref (He.ma K (He.ga K y) m)) && PySem.W.keepIn K (.ref (He.ma K (He.ga K y) m)))
theorem methB_ok {K : PySem.W.Frag} {x m y : Str} (c : methB x m y K = true) : Meth K (He.ga K x) m (He.ma K (He.ga K y) m) := by
  obtain ⟨c1, c⟩ := He.ba c
  obtain ⟨c2, c3⟩ := He.ba c
  exact ⟨He.eqO_ok c1, c2, c3⟩
/-- the class x makes instances by the __init__ of the class y -/
def mkrB (x y : Str) (K : PySem.W.Frag) : Bool := PySem.W.makesIn K (He.ga K x) && (He.eqO (PySem.W.findIn K (.ref (He.ga K x)) "__init__") (some (some (.ref (He.ma K (He.ga K y) "__init__")))) && (PySem.W.isFn K (.ref (He.ma K (He.ga K y) "__init__")) && PySem.W.keepIn K (.ref (He.ga K x))))
theorem mkrB_ok {K : PySem.W.Frag} {x y : Str} (c : mkrB x y K = true) : Mk K (He.ga K x) (He.ma K (He.ga K y) "__init__") := by
  obtain ⟨c1, c⟩ := He.ba c
  obtain ⟨c2, c⟩ := He.ba c
  obtain ⟨c3, c4⟩ := He.ba c
  exact ⟨c1, He.eqO_ok c2, c3, c4⟩
/-- the class x has the int i as its constant f -/
def conIB (x f : Str) (i : Int) (K : PySem.W.Frag) : Bool := match PySem.W.findIn K (.ref (He.ga K x)) f with
  | some (some (.int j t)) => decide (j = i) && He.eqO (PySem.W.specialIn K (.int j t) "__get__") (some none)
  | _ => false
theorem conIB_ok {K : PySem.W.Frag} {x f : Str} {i : Int} (h : conIB x f i K = true) (hc : PySem.W.copiedNames.contains f = false) : ∃ u, Con K (He.ga K x) f (.int i) u := by
  unfold conIB at h
  split at h
  · rename_i j t e
    obtain ⟨h1, h2⟩ := He.ba h
    have ej : j = i := of_decide_eq_true h1
    subst ej
    exact ⟨_, e, ⟨t, rfl⟩, He.eqO_ok h2, hc⟩
  · cases h
def dCon (K : PySem.W.Frag) (f : Str) (Q : VK) : VK := fun x H1 => ∃ a C dx fs v u, x = .ref a ∧ H1 a = some (.ins C dx fs) ∧ Cls K C ∧ Con K C f v u ∧ fs.lookup f = none ∧ Q v H1
section
variable {K : PySem.W.Frag} {σ : L2.St} {H H' : Hp} {Q : VK} {v x y : V} {a b C dx dy : Addr} {fs gs : List (Str × V)} {f : Str} {i j : Int} {sp : Sp} {D : Ends} {ts : TA}
theorem w_con {ta : TE} (h : ta σ H (dCon K f Q)) : tCon K ta f σ H Q := h
theorem w_dCon (h : At H a (.ins C dx fs)) (cl : Cls K C) (k : ∃ u, Con K C f v u) (hl : fs.lookup f = none) (q : Q v H) : dCon K f Q (.ref a) H := by
  obtain ⟨u, k⟩ := k
  exact ⟨a, C, dx, fs, v, u, rfl, h, cl, k, hl, q⟩
theorem w_put {R : Hp → Prop} (h : At H a (.ins C dx fs)) (cl : Cls K C) (na : NoAttr K C f) (hl : fs.length < 1000) (q : ∀ H2, At H2 a (.ins C dx (putF f y fs)) → (∀ H0, Ex H0 H → Fr H0 a → Ex H0 H2) → (∀ b o, b ≠ a → At H b o → At H2 b o) → R H2) : dSF K f y R (.ref a) H :=
  ⟨a, C, dx, fs, rfl, h, cl, na, hl, q _ upd_same (fun H0 e n => Ex.mut e n) (fun b o hb e => by unfold At; rw [upd_ne hb]; exact e)⟩
theorem w_sup {E : L2.St → XK} {t : TA} (h0 : σ[0]? = some (some (.ref a))) (ha : At H a (.ins C dx fs)) (q : t σ H fun vs H2 => sp (.ref a :: vs) H2 Q (E σ)) : tSup C sp E t σ H Q := ⟨a, dx, fs, h0, ha, q⟩
/-- an object of fs, by its class -/
theorem At.fd {fs gs : List (Str × V)} (h : At H a (.ins C dx fs)) (e : fs = gs) : At H a (.ins C dx gs) := e ▸ h
end
theorem putF_len {f : Str} {y : V} : ∀ {fs : List (Str × V)}, (putF f y fs).length ≤ fs.length + 1
  | [] => Nat.le_refl _
  | (g, z) :: r => by
    unfold putF
    split
    · simp
    · simpa using putF_len (fs := r)
theorem putF_end {f : Str} {y : V} : ∀ {fs : List (Str × V)}, (fs.map Prod.fst).contains f = false → putF f y fs = fs ++ [(f, y)]
  | [], _ => rfl
  | (g, z) :: r, h => by
    rw [List.map_cons, List.contains_cons, Bool.or_eq_false_iff] at h
    have h1 : ¬ g = f := fun e => by
      have := h.1
      rw [e] at this
      simp at this
    unfold putF
    rw [if_neg h1, putF_end h.2]
    rfl
/-- a new field behind the others -/
theorem w_putE {K : PySem.W.Frag} {H : Hp} {a C dx : Addr} {f : Str} {y : V} {fs : List (Str × V)} {R : Hp → Prop} (h : At H a (.ins C dx fs)) (cl : Cls K C) (na : NoAttr K C f) (hl : fs.length < 900) (hn : (fs.map Prod.fst).contains f = false) (q : ∀ H2, At H2 a (.ins C dx (fs ++ [(f, y)])) → (∀ H0, Ex H0 H → Fr H0 a → Ex H0 H2) → (∀ b o, b ≠ a → At H b o → At H2 b o) → R H2) : dSF K f y R (.ref a) H :=
  w_put h cl na (by omega) fun H2 h2 => q H2 (by rw [putF_end hn] at h2; exact h2)
/-- isinstance of an instance with the class y, of the class x -/
theorem w_isiOA {K : PySem.W.Frag} {H : Hp} {Q : VK} {a C D dx : Addr} {fs : List (Str × V)} {b : Bool} (O : OwnC K C) (ha : At H a (.ins C dx fs)) (h : PySem.W.kitOne K (.ref C) (.ref D) = some b) (q : Q (.bl b) H) : rIsi K [.ref a, .ref D] H Q := ⟨_, _, .ref C, .ref D, b, rfl, .own D, .base (.ins ha O.cl O.ca O.cn O.ct O.cm), h, q⟩
end Z
namespace Z
open PySem L2 PySem.Spec PyProof.Rows
/-! ### try with several except clauses that give the error a name -/
abbrev TSx := Addr → Value → Option Addr → TS
/-- what clauses wish, one behind the other -/
def wCl (K : PySem.W.Frag) (W0 : WX) (D : Ends) : List (Value × Option Nat × TSx) → WX
  | [] => W0
  | (c, some i, ts) :: r => wAs K c i ts (wCl K W0 D r) D
  | (c, none, ts) :: r => wOnly K c ts (wCl K W0 D r) D
inductive Clauses (X : Cx) : List ExceptHandler → List (Value × Option Nat × TSx) → Prop
  | nil : Clauses X [] []
  | as {x n : Str} {c : Value} {i : Nat} {ts : TSx} {b0 : Stmt} {su : List Stmt} {p1 p2 : Pos} {hs : List ExceptHandler} {l : List (Value × Option Nat × TSx)} (hc : Names X x c) (hi : X.N[i]? = some n) (hn : X.env.kindOf n = some .local)
      (hp : ∀ (a : Addr) (ob : Obj) (cls : Value) (d : Option Addr) (pl : List (Addr × Obj)), Zc cls d ob → (∃ fv, ob.data = .fields fv) → PSs (X.suite a ((a, ob) :: pl)) (b0 :: su) (ts a cls d)) (r : Clauses X hs l) : Clauses X (.ExceptHandler (some (.Name x p1)) (some n) (b0 :: su) p2 :: hs) ((c, some i, ts) :: l)
  | no {x : Str} {c : Value} {ts : TSx} {b0 : Stmt} {su : List Stmt} {p1 p2 : Pos} {hs : List ExceptHandler} {l : List (Value × Option Nat × TSx)} (hc : Names X x c)
      (hp : ∀ (a : Addr) (ob : Obj) (cls : Value) (d : Option Addr) (pl : List (Addr × Obj)), Zc cls d ob → (∃ fv, ob.data = .fields fv) → PSs (X.suite a ((a, ob) :: pl)) (b0 :: su) (ts a cls d)) (r : Clauses X hs l) : Clauses X (.ExceptHandler (some (.Name x p1)) none (b0 :: su) p2 :: hs) ((c, none, ts) :: l)
section
variable {X : Cx} {body : List Stmt} {e0 : ExceptHandler} {er : List ExceptHandler} {l : List (Value × Option Nat × TSx)} {pos : Pos} {tb : WX → TS} {W0 : WX}
def tTryM (K : PySem.W.Frag) (l : List (Value × Option Nat × TSx)) (tb : WX → TS) (W0 : WX) : TS := fun D σ H => tb (wCl K W0 D l) D σ H
theorem ps_tryM (hst : X.stack = X.env :: X.outer) (hfm : X.env.frame = some X.env.locals) (nd : X.N.Nodup) (tk : Takes X W0)
    (pb : ∀ (W : WX) (pl : List (Addr × Obj)) (xe : Value → Shared → Prop), Takes (X.tr pl xe) W → PassesOwn (model X.prog X.w) X.A X.env xe → PSs (X.tr pl xe) body (tb W))
    (cs : Clauses X (e0 :: er) l) : PS X (.Try body (e0 :: er) [] [] pos) (tTryM X.K l tb W0) := by
  refine ⟨fun pins st σ G D I hg => ?_⟩
  have okX := I.ok
  have hfrs : X.A.frames = some (X.env :: X.outer) := by rw [okX.frames, hst]
  refine wpAny_Try_except (wpAny_mono ((pb (wCl X.K W0 D l) (X.pn ++ pins) (fun er1 z1 => wpAny (model X.prog X.w) X.A (noteFrame er1 X.env) (fun _ z2 => wpAny (model X.prog X.w) X.A (setFlight er1 none) (fun _ z3 => wpAny (model X.prog X.w) X.A (handleBy er1 X.env (e0 :: er)) (SP X pins D) X.xe z3) X.xe z2) X.xe z1) (fun u st' xx => ?_) PassesOwn.looking).run [] st σ G D (I.toTry _) hg) (fun fl st1 hsp => ?_) fun _ _ z => z)
  · obtain ⟨a, B, sJ, pins', σ', G', cls, d, rfl, J', nob, upJ, skyJ, nfree, osJ, agJ, wish⟩ := xx
    have J : Inv X pins σ' G' sJ := J'.ofTry okX
    have sky1 : Sky B (X.env :: X.outer) a (Zc cls d) X.env.locals st'.heap := by rw [← hst]; exact skyJ
    show wpAny (model X.prog X.w) X.A (noteFrame (.ref a) X.env) _ _ _
    refine Sky.land Zc.steady hfrs hfm sky1 fun hp3 fly3 upp3 => ?_
    have J3 : Inv X pins σ' G' { st' with heap := hp3 } := J.landed nob fly3.1 (upJ.trans upp3) osJ agJ
    obtain ⟨ob3, fv3, get3, zc3, dat3⟩ := fly3.there
    have notF : a ∉ frs (X.env :: X.outer) := fun hm => by
      obtain ⟨_, o2, g2, hnf⟩ := fly3.2.2.1.mem hm
      rw [get3] at g2
      cases g2
      exact hnf _ dat3
    have neL : a ≠ X.env.locals := fun z => notF (List.mem_filterMap.mpr ⟨X.env, List.mem_cons_self, by rw [hfm, z]⟩)
    have neF : a ∉ X.fs := fun hm => by
      obtain ⟨en, hen, q⟩ := List.mem_filterMap.mp hm
      exact notF (List.mem_filterMap.mpr ⟨en, List.mem_cons_of_mem _ hen, q⟩)
    have SU := J3.suite get3 dat3 nfree neL neF
    have LT : PySem.W.Looks (model X.prog X.w) hp3 (typeOf (.ref a)) cls := fun A Q E z k q => wpAny_typeOf_ref (k _ _ get3) (by rw [zc3.1]; exact q)
    have each : ∀ {hs2 : List ExceptHandler} {l2 : List (Value × Option Nat × TSx)}, Clauses X hs2 l2 → wCl X.K W0 D l2 cls d σ' G' → wpAny (model X.prog X.w) X.A (handleBy (.ref a) X.env hs2) (SP X pins D) X.xe { st' with heap := hp3 } := by
      intro hs2 l2 hcs
      induction hcs with
      | nil =>
        intro wsh
        refine wpAny_handleBy_nil ?_
        obtain ⟨_, _, _, ob, fv, tbk, _, _, g1, _, dd, i1, _⟩ := id fly3
        unfold PySem.passOn
        refine wpAny_bind (wpAny_field g1 dd i1 ?_)
        rw [if_neg (show ¬ ((Value.ref tbk == Value.none) = true) by simp)]
        have out : wpAny (model X.prog X.w) X.A (setFlight (.ref a) X.env.frame) (fun _ z4 => wpAny (model X.prog X.w) X.A (throw (.ref a) : Sem Flow) (SP X pins D) X.xe z4) X.xe { st' with heap := hp3 } := by
          rw [hfm]
          exact HandSPX.setFlight_upZ fly3 fun hp4 fly4 upp4 => wpAny_throw (tk _ _ ⟨a, B, sJ, pins, σ', G', cls, d, rfl, J, nob, (upJ.trans upp3).trans upp4, .inr (.inr (by rw [hst]; exact fly4)), nfree, osJ, agJ, wsh⟩)
        first
          | exact wpAny_bind (wpAny_pure (wpAny_bind out))
          | exact wpAny_bind out
      | @as x n c i ts b0 su p1 p2 hs3 l3 hc hi hn hp r ih =>
        rintro ⟨b, hb1, yes, no⟩
        refine wpAny_handleBy_cons (codeAny_handlers_test ?_) (fun q => by cases q)
        have look : ∀ {Q : Value → Shared → Prop} {E : Value → Shared → Prop}, Q c { st' with heap := hp3 } → wpAny (model X.prog X.w) (X.A.mark (some (.ref a))) (eval (.Name x p1) X.env) Q E { st' with heap := hp3 } := fun {Q E} q => by
          obtain ⟨gx, dx, mx | ⟨mx, vx, nx⟩⟩ := hc
          · exact ld_glob (X := X.suite a ((a, ob3) :: (X.pn ++ pins))) SU gx mx q dx
          · exact ld_blt (X := X.suite a ((a, ob3) :: (X.pn ++ pins))) SU gx mx vx q nx dx
        refine look ((PySem.W.exm_one (M := model X.prog X.w) J3.kIn LT hb1).here ?_)
        cases b with
        | false =>
          show wpAny _ X.A (handleBy (.ref a) X.env hs3) _ _ _
          exact ih (no rfl)
        | true =>
          refine codeAny_handlers_suite_as (HandSPX.lands_againZ fly3 fun hp4 fly4 upp4 => ?_)
          have J4 : Inv X pins σ' G' { st' with heap := hp4 } := J.landed nob fly4.1 ((upJ.trans upp3).trans upp4) osJ agJ
          obtain ⟨ob4, fv4, get4, zc4, dat4⟩ := fly4.there
          refine store_ok (X := X.suite a ((a, ob4) :: (X.pn ++ pins))) (v := .ref a) (J4.suite get4 dat4 nfree neL neF) nd hi (.inl hn) rfl (fun st5 S5 => ?_) (.inr hn)
          refine wpAny_mono ((hp a ob4 cls d (X.pn ++ pins) zc4 ⟨_, dat4⟩).run [] st5 _ G' _ S5 (yes rfl a nfree)) (fun fl st6 hsp => ?_) (fun _ _ z => False.elim z)
          have bye : ∀ {σ6 : L2.St} {G6 : Hp} {Q : Shared → Prop}, Inv (X.suite a ((a, ob4) :: (X.pn ++ pins))) [] σ6 G6 st6 → (∀ z7, Inv X pins (σ6.set i none) G6 z7 → Q z7) →
              wpAny (model X.prog X.w) X.A (do bindName X.env n .none; unbindBehindTheSuite X.env n p2) (fun _ z7 => Q z7) X.xe st6 := fun {σ6 G6 Q} S6 hq => gone_ok (S6.unsuite okX) nd hi hn hq
          cases fl with
          | next => obtain ⟨_, _, S6, q6⟩ := hsp; exact bye S6 fun _ J7 => ⟨_, _, J7, q6⟩
          | brk => obtain ⟨_, _, S6, q6⟩ := hsp; exact bye S6 fun _ J7 => ⟨_, _, J7, q6⟩
          | cont => obtain ⟨_, _, S6, q6⟩ := hsp; exact bye S6 fun _ J7 => ⟨_, _, J7, q6⟩
          | ret u => obtain ⟨_, _, _, S6, r6, q6⟩ := hsp; exact bye S6 fun _ J7 => ⟨_, _, _, J7, r6, q6⟩
      | @no x c ts b0 su p1 p2 hs3 l3 hc hp r ih =>
        rintro ⟨b, hb1, yes, no⟩
        refine wpAny_handleBy_cons (codeAny_handlers_test ?_) (fun q => by cases q)
        have look : ∀ {Q : Value → Shared → Prop} {E : Value → Shared → Prop}, Q c { st' with heap := hp3 } → wpAny (model X.prog X.w) (X.A.mark (some (.ref a))) (eval (.Name x p1) X.env) Q E { st' with heap := hp3 } := fun {Q E} q => by
          obtain ⟨gx, dx, mx | ⟨mx, vx, nx⟩⟩ := hc
          · exact ld_glob (X := X.suite a ((a, ob3) :: (X.pn ++ pins))) SU gx mx q dx
          · exact ld_blt (X := X.suite a ((a, ob3) :: (X.pn ++ pins))) SU gx mx vx q nx dx
        refine look ((PySem.W.exm_one (M := model X.prog X.w) J3.kIn LT hb1).here ?_)
        cases b with
        | false =>
          show wpAny _ X.A (handleBy (.ref a) X.env hs3) _ _ _
          exact ih (no rfl)
        | true =>
          refine codeAny_handlers_suite (HandSPX.lands_againZ fly3 fun hp4 fly4 upp4 => ?_)
          have J4 : Inv X pins σ' G' { st' with heap := hp4 } := J.landed nob fly4.1 ((upJ.trans upp3).trans upp4) osJ agJ
          obtain ⟨ob4, fv4, get4, zc4, dat4⟩ := fly4.there
          refine wpAny_mono ((hp a ob4 cls d (X.pn ++ pins) zc4 ⟨_, dat4⟩).run [] _ _ G' _ (J4.suite get4 dat4 nfree neL neF) (yes rfl a nfree)) (fun fl st6 hsp => ?_) (fun _ _ z => False.elim z)
          cases fl with
          | next => obtain ⟨_, _, S6, q6⟩ := hsp; exact ⟨_, _, S6.unsuite okX, q6⟩
          | brk => obtain ⟨_, _, S6, q6⟩ := hsp; exact ⟨_, _, S6.unsuite okX, q6⟩
          | cont => obtain ⟨_, _, S6, q6⟩ := hsp; exact ⟨_, _, S6.unsuite okX, q6⟩
          | ret u => obtain ⟨_, _, _, S6, r6, q6⟩ := hsp; exact ⟨_, _, _, S6.unsuite okX, r6, q6⟩
    exact each cs wish
  · cases fl with
    | next => obtain ⟨_, _, J', q⟩ := hsp; exact wpAny_execs_nil ⟨_, _, J'.ofTry okX, q⟩
    | brk => obtain ⟨_, _, J', q⟩ := hsp; exact ⟨_, _, J'.ofTry okX, q⟩
    | cont => obtain ⟨_, _, J', q⟩ := hsp; exact ⟨_, _, J'.ofTry okX, q⟩
    | ret u => obtain ⟨_, _, _, J', r, q⟩ := hsp; exact ⟨_, _, _, J'.ofTry okX, r, q⟩
end
section
variable {K : PySem.W.Frag} {σ : L2.St} {H : Hp} {D : Ends} {tb : WX → TS} {W0 : WX} {c cls : Value} {d : Option Addr} {i : Nat} {ts : TSx} {l : List (Value × Option Nat × TSx)}
theorem w_tryM (h : tb (wCl K W0 D l) D σ H) : tTryM K l tb W0 D σ H := h
theorem w_cl (h : PySem.W.exmOne K cls c = some true) (q : ∀ a, Fr H a → ts a cls d (endAs D i) (σ.set i (some (.ref a))) H) : WE (wCl K W0 D ((c, some i, ts) :: l)) σ cls d H := w_as h q
theorem w_clN (h : PySem.W.exmOne K cls c = some false) (q : WE (wCl K W0 D l) σ cls d H) : WE (wCl K W0 D ((c, some i, ts) :: l)) σ cls d H := w_asN h q
theorem w_clO (h : PySem.W.exmOne K cls c = some true) (q : ∀ a, Fr H a → ts a cls d D σ H) : WE (wCl K W0 D ((c, none, ts) :: l)) σ cls d H := w_only h q
theorem w_clON (h : PySem.W.exmOne K cls c = some false) (q : WE (wCl K W0 D l) σ cls d H) : WE (wCl K W0 D ((c, none, ts) :: l)) σ cls d H := w_onlyN h q
theorem w_cl0 (q : W0 cls d σ H) : WE (wCl K W0 D []) σ cls d H := q
end
/-! ### ways that join: only slot i has changed -/
theorem w_cutI {t u : TS} {D : Ends} {σ : L2.St} {H : Hp} (i : Nat) (P : Int → Prop) (h : t ⟨fun σ' G => G = H ∧ ∃ w : Int, P w ∧ σ' = σ.set i (some (.int w)), D.rt, D.bk, D.ct⟩ σ H) (k : ∀ w, P w → u D (σ.set i (some (.int w))) H) : C8.tCut t u D σ H :=
  w_cut _ h fun σ' G ⟨e1, w, hw, e2⟩ => by subst e1 e2; exact k w hw
theorem w_cutV {t u : TS} {D : Ends} {σ : L2.St} {H : Hp} (i : Nat) (P : V → Hp → Prop) (h : t ⟨fun σ' G => Ex H G ∧ ∃ w, P w G ∧ σ' = σ.set i (some w), D.rt, D.bk, D.ct⟩ σ H) (k : ∀ w G, Ex H G → P w G → u D (σ.set i (some w)) G) : C8.tCut t u D σ H :=
  w_cut _ h fun σ' G ⟨e1, w, hw, e2⟩ => by subst e2; exact k w G e1 hw
/-! ### xs[i] = v -/
theorem w_gSub {to ti : TE} {t : TSet} {v : V} {σ : L2.St} {H : Hp} {Q : L2.St → Hp → Prop} (h : to σ H fun o H1 => ti σ H1 fun i H2 => t o i v H2 fun H3 => Q σ H3) : gSub to ti t v σ H Q := h
theorem ixN_pos {n : Nat} {i : Int} (h0 : 0 ≤ i) (h1 : i < n) : ixN n i = some i.toNat := by unfold ixN; rw [if_pos h0, if_pos h1]
theorem map_set {α β : Type} (f : α → β) (l : List α) (i : Nat) (a : α) : (l.map f).set i (f a) = (l.set i a).map f := by
  apply List.ext_getElem
  · simp
  · intro j h1 h2
    simp only [List.getElem_map, List.getElem_set]
    split <;> rfl
theorem w_setI {H : Hp} {a : Addr} {i v : Int} {ns : List Int} {R : Hp → Prop} (h : At H a (.lst (ns.map V.int))) (h0 : 0 ≤ i) (h1 : i < ns.length) (q : ∀ H2, At H2 a (.lst ((ns.set i.toNat v).map V.int)) → Nl H H2 → (∀ H0, Ex H0 H → Fr H0 a → Ex H0 H2) → (∀ b o, b ≠ a → At H b o → At H2 b o) → R H2) : rSetL (.ref a) (.int i) (.int v) H R :=
  w_setL h (ixN_pos h0 (by rw [List.length_map]; exact h1)) fun H2 h2 => q H2 (by rw [map_set] at h2; exact h2)
/-- .. of values -/
theorem w_setV {H : Hp} {a : Addr} {i : Int} {v : V} {xs : List V} {R : Hp → Prop} (h : At H a (.lst xs)) (h0 : 0 ≤ i) (h1 : i < xs.length) (q : ∀ H2, At H2 a (.lst (xs.set i.toNat v)) → Nl H H2 → (∀ H0, Ex H0 H → Fr H0 a → Ex H0 H2) → (∀ b o, b ≠ a → At H b o → At H2 b o) → R H2) : rSetL (.ref a) (.int i) v H R :=
  w_setL h (ixN_pos h0 h1) q
/-! ### a number with itself -/
section
variable {K : PySem.W.Frag} {H : Hp} {Q : VK} {i : Int} {t : Str}
theorem w_eqIr (q : Q (.bl true) H) : rEqZ K (.int i) (.int i) H Q := w_eqZI (by rw [decide_eq_true rfl]; exact q)
theorem w_neIr (q : Q (.bl false) H) : rNeZ K (.int i) (.int i) H Q := w_neZI (by rw [decide_eq_true rfl]; exact q)
theorem w_eqSr (q : Q (.bl true) H) : rEqZ K (.str t) (.str t) H Q := w_eqZS (by rw [decide_eq_true rfl]; exact q)
theorem w_neSr (q : Q (.bl false) H) : rNeZ K (.str t) (.str t) H Q := w_neZS (by rw [decide_eq_true rfl]; exact q)
end
/-! ### isinstance, the object first -/
section
variable {K : PySem.W.Frag} {H : Hp} {Q : VK} {a C D dx : Addr} {fs : List (Str × V)} {b : Bool}
theorem w_isiOC2 (ha : At H a (.ins C dx fs)) (O : OwnC K C) (q : Q (.bl true) H) : rIsi K [.ref a, .ref C] H Q := w_isiOC O ha q
theorem w_isiOI2 (ha : At H a (.ins C dx fs)) (O : OwnC K C) (q : Q (.bl false) H) : rIsi K [.ref a, .ty "int"] H Q := w_isiOI O ha q
theorem w_isiOA2 (ha : At H a (.ins C dx fs)) (O : OwnC K C) (h : PySem.W.kitOne K (.ref C) (.ref D) = some b) (q : Q (.bl b) H) : rIsi K [.ref a, .ref D] H Q := w_isiOA O ha h q
end
/-! ### is None -/
def dIsN (Q : VK) : VK := fun x H1 => Q (.bl (decide (x = .non))) H1
def dNotN (Q : VK) : VK := fun x H1 => Q (.bl (!decide (x = .non))) H1
section
variable {σ : L2.St} {H : Hp} {Q : VK} {ta : TE} {i : Int} {t : Str} {a : Addr} {b : Bool}
theorem w_isN2 (h : ta σ H (dIsN Q)) : tIsN ta σ H Q := h
theorem w_notN2 (h : ta σ H (dNotN Q)) : tNotN ta σ H Q := h
theorem isN_n (q : Q (.bl true) H) : dIsN Q .non H := q
theorem isN_i (q : Q (.bl false) H) : dIsN Q (.int i) H := q
theorem isN_s (q : Q (.bl false) H) : dIsN Q (.str t) H := q
theorem isN_r (q : Q (.bl false) H) : dIsN Q (.ref a) H := q
theorem isN_b (q : Q (.bl false) H) : dIsN Q (.bl b) H := q
theorem notN_n (q : Q (.bl false) H) : dNotN Q .non H := q
theorem notN_i (q : Q (.bl true) H) : dNotN Q (.int i) H := q
theorem notN_s (q : Q (.bl true) H) : dNotN Q (.str t) H := q
theorem notN_r (q : Q (.bl true) H) : dNotN Q (.ref a) H := q
theorem notN_b (q : Q (.bl true) H) : dNotN Q (.bl b) H := q
end
end Z
namespace Z
open PySem L2 PySem.Spec PyProof.Rows HT
/-! ### t[::-1] of a tuple -/
theorem pick_back (xs : Array Value) : ((List.range xs.size).filterMap fun (m : Nat) => xs[(((xs.size : Int) - 1) + (m : Int) * (-1)).toNat]?).toArray = xs.toList.reverse.toArray := by
  congr 1
  have e : ∀ m, m < xs.size → xs[(((xs.size : Int) - 1) + (m : Int) * (-1)).toNat]? = xs.toList.reverse[m]? := fun m hm => by
    rw [List.getElem?_reverse (by rw [Array.length_toList]; exact hm), Array.length_toList, show (((xs.size : Int) - 1) + (m : Int) * (-1)).toNat = xs.size - 1 - m by omega]
    simp
  have e2 : (List.range xs.size).filterMap (fun (m : Nat) => xs[(((xs.size : Int) - 1) + (m : Int) * (-1)).toNat]?) = (List.range xs.size).filterMap fun m => xs.toList.reverse[m]? := by
    have gen : ∀ l : List Nat, (∀ m ∈ l, m < xs.size) → l.filterMap (fun (m : Nat) => xs[(((xs.size : Int) - 1) + (m : Int) * (-1)).toNat]?) = l.filterMap fun m => xs.toList.reverse[m]? := fun l hl => by
      induction l with
      | nil => rfl
      | cons a r ih =>
        rw [List.filterMap_cons, List.filterMap_cons, e a (hl a (by simp)), ih fun m hm => hl m (by simp [hm])]
    exact gen _ fun m hm => List.mem_range.mp hm
  rw [e2]
  have all : ∀ l : List Value, (List.range l.length).filterMap (fun m => l[m]?) = l := fun l => by
    induction l with
    | nil => rfl
    | cons a r ih =>
      rw [List.length_cons, List.range_succ_eq_map, List.filterMap_cons]
      simp only [List.getElem?_cons_zero, List.filterMap_map]
      congr 1
  have := all xs.toList.reverse
  rwa [List.length_reverse, Array.length_toList] at this
section
variable {prog : Program} {w : World} {A : Around} {E : Value → Shared → Prop} {s : Shared}
theorem tuple_back {t sl : Addr} {its : Array Value} {vl vu vs : Value} {Q : Value → Shared → Prop} (ht : IsTup s.heap t its) (hs : s.heap.IsSliceOf sl vl vu vs) (pl : IsPart vl none) (pu : IsPart vu none) (ps : IsPart vs (some (-1)))
    (h : Q (.ref s.heap.objs.size) { s with heap := s.heap.push { cls := .type "tuple", data := .seq its.toList.reverse.toArray } }) (hz : its.size ≤ sizeLine) : wpAny (model prog w) A (getItem (.ref t) (.ref sl)) Q E s := by
  obtain ⟨ob, hob, hcl, hda⟩ := id hs
  have hT : s.TypeIs (.ref sl) "slice" := ⟨ob, hob, hcl⟩
  have fits : sizeOk (.seq its.toList.reverse.toArray) := by
    show its.toList.reverse.toArray.size ≤ sizeLine
    rw [List.size_toArray, List.length_reverse, Array.length_toList]
    exact hz
  unfold getItem
  try with_reducible refine wpAny_holding ?_
  first | refine wpAny_bind (wpAny_pure ?_) | skip
  refine wpAny_bind (wpAny_sequenceKey ht.typeIs (by decide) ?_)
  refine wpAny_bind (wpAny_callSpecial?_slot (name := Str.ofString "__getitem__") ht.typeIs PyProof.Rows.slot_tuple_getitem (wpAny_call_entry PyProof.Rows.slot_tuple_getitem ht.typeIs entry_tuple_getitem ?_ (args_tuple_getitem _ _)))
  show wpAny _ _ (Builtin.Tuple.tupleItemsOf (.ref t) >>= _) _ _ s
  refine wpAny_bind (tupleItemsOf_ ht (wpAny_bind (wpAny_typeOf hT ?_)))
  rw [if_pos (by decide)]
  have ap : ∀ {Q' : Int × Int × Nat → Shared → Prop} {A' : Around} {E' : Value → Shared → Prop}, Q' ((its.size : Int) - 1, -1, its.size) s → wpAny (model prog w) A' (Builtin.Slice.sliceApplied (.ref sl) (pure (its.size : Int))) Q' E' s := by
    intro Q' A' E' q
    unfold Builtin.Slice.sliceApplied Builtin.Slice.sliceFields
    refine wpAny_bind (wpAny_bind (wpAny_field hob hda (x := vl) rfl (wpAny_bind (wpAny_field hob hda (x := vu) rfl (wpAny_bind (wpAny_field hob hda (x := vs) rfl (wpAny_pure ?_)))))))
    refine wpAny_bind (slicePart_ ps ?_)
    show wpAny _ _ (if ((-1 : Int) == 0) = true then _ else _) _ _ s
    rw [if_neg (by decide)]
    refine wpAny_bind (slicePart_ pl (wpAny_bind (slicePart_ pu (wpAny_bind (wpAny_pure ?_)))))
    show wpAny _ _ (pure ((its.size : Int) - 1, (-1 : Int), Builtin.Slice.slicePlaces ((its.size : Int) - 1) (-1) (-1))) _ _ s
    have e : Builtin.Slice.slicePlaces ((its.size : Int) - 1) (-1) (-1) = its.size := by
      unfold Builtin.Slice.slicePlaces
      rw [if_neg (by decide)]
      by_cases h0 : its.size = 0
      · rw [h0]; decide
      · rw [if_pos (by omega), show (-(-1) : Int) = 1 from rfl, Int.ediv_one]; omega
    rw [e]
    exact wpAny_pure q
  refine wpAny_bind (ap ?_)
  have hno : ¬ ((((its.size : Int) - 1) == 0 && (-1 : Int) == 1 && its.size == its.size) = true) := fun q => by
    rw [Bool.and_eq_true, Bool.and_eq_true] at q
    exact absurd q.1.2 (by decide)
  show wpAny _ _ (if (((its.size : Int) - 1) == 0 && (-1 : Int) == 1 && its.size == its.size) = true then _ else _) _ _ s
  rw [if_neg hno, pick_back]
  first
    | exact wpAny_bind (m := Builtin.Tuple.tupleExact _) (wpAny_newObj_type (wpAny_pure ⟨_, rfl, wpAny_pure h⟩) fits)
    | exact wpAny_bind (wpAny_bind (m := Builtin.Tuple.tupleExact _) (wpAny_newObj_type (wpAny_pure (wpAny_pure ⟨_, rfl, wpAny_pure h⟩)) fits))
    | exact wpAny_bind (wpAny_bind (m := Builtin.Tuple.tupleExact _) (wpAny_newObj_type (wpAny_pure ⟨_, rfl, wpAny_pure h⟩) fits))
end
section
variable {X : Cx}
def tRevT (K : PySem.W.Frag) (te : TE) : TE := fun σ H Q => te σ H fun x H1 => ∃ a xs, x = .ref a ∧ SqT K H1 a xs ∧ ∀ p, Fr H1 p → Q (.ref p) (upd H1 p (.tup xs.reverse))
theorem pe_revT {K : PySem.W.Frag} (hK : X.K = K) {e : Expr} {te : TE} {k : Nat} {p1 p2 p3 pos : Pos} (he : PE X e te) : PE X (.Subscript e (.Slice none none (some (.UnaryOp .USub (.Constant (.int 1) k p1) p2)) p3) pos) (tRevT K te) := by
  subst hK
  refine ⟨fun pins s σ G Q I h => Subscript_ (thn (he.run pins s σ G _ I h) fun v s1 ⟨x, G1, I1, r1, a, xs, ex, hx, q⟩ => ?_)⟩
  subst ex
  cases r1
  have hst : PO X (some (.UnaryOp .USub (.Constant (.int 1) k p1) p2)) (tPart (tUn (rU fun i => .int (-i)) (tC (.int 1)))) := po_some (pe_un L2.un_neg pe_int)
  refine wpAny_Slice (thn (po_none.run pins s1 σ G1 (fun o G2 => o = none ∧ G2 = G1) I1 ⟨rfl, rfl⟩) fun vl s2 ⟨l, G2, I2, pl, el, eg2⟩ => ?_)
  subst el eg2
  refine thn (po_none.run pins s2 σ G2 (fun o G3 => o = none ∧ G3 = G2) I2 ⟨rfl, rfl⟩) fun vu s3 ⟨u, G3, I3, pu, eu, eg3⟩ => ?_
  subst eu eg3
  refine thn (hst.run pins s3 σ G3 (fun o G4 => o = some (-1) ∧ G4 = G3) I3 ⟨1, rfl, -1, rfl, rfl, rfl⟩) fun vs s4 ⟨o, G4, I4, ps, eo, eg4⟩ => ?_
  subst eo eg4
  have I5 : Inv X pins σ G4 { s4 with heap := s4.heap.push { cls := .type "slice", data := .fields #[vl, vu, vs] } } := I4.kept (t' := s4.toks) fun b ob q => Heap.get?_push_of_some _ q
  obtain ⟨its, r, ht, hz⟩ := I5.tuple hx
  have hlen := r.length
  refine tail_any (ops := [.ref a, .ref s4.heap.objs.size]) ht.typeIs PyProof.Rows.slot_tuple_getitem.lookup ?_ (by with_unfolding_all rfl)
  refine tuple_back ht (Heap.IsSliceOf.new _ vl vu vs) pl pu ps ?_ (by rw [List.size_toArray]; omega)
  refine ⟨.ref _, _, I5.laid (t' := s4.toks) (o := .tup xs.reverse) (fun b ob q => Heap.get?_push_of_some _ q) (Nat.le_refl _) ?_, rfl, q _ (I5.hok.fresh (Nat.le_refl _))⟩
  exact ⟨by rw [List.length_reverse]; exact hz, _, r.reverse, IsTup.new _ _⟩
theorem revL {K : PySem.W.Frag} (hK : X.K = K) {e : Expr} {te : TE} {k : Nat} {p1 p2 p3 pos : Pos} (he : PE X e te) : PE X (.Subscript e (.Slice none none (some (.UnaryOp .USub (.Constant (.int 1) k p1) p2)) p3) pos) (tRevL K te) := hK ▸ pe_revL he
theorem catA {K : PySem.W.Frag} (hK : X.K = K) : OpR X (binaryOp .Add) (rCatA K) := hK ▸ op_catA
end
def dRevT (K : PySem.W.Frag) (Q : VK) : VK := fun x H1 => ∃ a xs, x = .ref a ∧ SqT K H1 a xs ∧ ∀ p, Fr H1 p → Q (.ref p) (upd H1 p (.tup xs.reverse))
def dRevL (K : PySem.W.Frag) (Q : VK) : VK := fun x H1 => ∃ a xs, x = .ref a ∧ SqL K H1 a xs ∧ ∀ p, H1 p = none → Q (.ref p) (upd H1 p (.lst xs.reverse))
section
variable {K : PySem.W.Frag} {σ : L2.St} {H : Hp} {Q : VK} {te : TE} {a b : Addr} {ns ms : List Int} {xs ys : List V}
theorem w_revT (h : te σ H (dRevT K Q)) : tRevT K te σ H Q := h
theorem w_revL (h : te σ H (dRevL K Q)) : tRevL K te σ H Q := h
theorem w_dRevT (h : SqT K H a (ns.map V.int)) (q : ∀ p H2, Fr H p → Ex H H2 → At H2 p (.tup (ns.reverse.map V.int)) → Q (.ref p) H2) : dRevT K Q (.ref a) H := ⟨a, _, rfl, h, fun p hp => q p _ hp (Ex.new hp) (by rw [List.map_reverse]; exact at_upd)⟩
theorem w_dRevL (h : SqL K H a (ns.map V.int)) (q : ∀ p H2, Fr H p → Ex H H2 → At H2 p (.lst (ns.reverse.map V.int)) → Q (.ref p) H2) : dRevL K Q (.ref a) H := ⟨a, _, rfl, h, fun p hp => q p _ hp (Ex.new hp) (by rw [List.map_reverse]; exact at_upd)⟩
/-- t + u of tuples of ints -/
theorem w_catI (h1 : SqT K H a (ns.map V.int)) (h2 : SqT K H b (ms.map V.int)) (hz : ns.length + ms.length ≤ 16777216) (q : ∀ p H2, Ex H H2 → SqT K H2 p ((ns ++ ms).map V.int) → Q (.ref p) H2) : rCatA K (.ref a) (.ref b) H Q := by
  refine ⟨a, b, _, _, rfl, rfl, h1, h2, by rw [List.length_map, List.length_map]; exact hz, fun e => ?_, fun _ e => ?_, fun _ _ p hp => q p _ (Ex.new hp) (st_of (by rw [List.map_append]; exact at_upd))⟩
  · have : ns = [] := by simpa using e
    subst this
    exact q b H (Ex.refl H) h2
  · have : ms = [] := by simpa using e
    subst this
    rw [List.append_nil] at q
    exact q a H (Ex.refl H) h1
/-- any slice of a tuple of ints is one, and no longer -/
theorem w_slAny {lo hi : Option Int} (h : SqT K H a (ns.map V.int)) (q : ∀ p H2 (ms : List Int), Ex H H2 → ms.Sublist ns → SqT K H2 p (ms.map V.int) → Q (.ref p) H2) : rSlA K (.ref a) lo hi H Q := by
  refine ⟨a, _, rfl, h, fun hw => q a H ns (Ex.refl H) (List.Sublist.refl _) h, fun hw p hp => ?_⟩
  refine q p _ ((ns.drop (HT.sIx (ns.map V.int).length 0 lo)).take (HT.sIx (ns.map V.int).length (ns.map V.int).length hi - HT.sIx (ns.map V.int).length 0 lo)) (Ex.new hp) ((List.take_sublist _ _).trans (List.drop_sublist _ _)) (st_of ?_)
  show upd H p _ p = _
  rw [upd_same]
  unfold cutV
  rw [List.map_take, List.map_drop]
end
/-- ways that join with the slots as they were -/
theorem w_cutS {t u : TS} {D : Ends} {σ : L2.St} {H : Hp} (H0 : Hp) (h : t ⟨fun σ' G => σ' = σ ∧ Ex H0 G, D.rt, D.bk, D.ct⟩ σ H) (k : ∀ G, Ex H0 G → u D σ G) : C8.tCut t u D σ H :=
  w_cut _ h fun σ' G ⟨e1, e2⟩ => by subst e1; exact k G e2
/-- tuples stand behind an append -/
theorem Nl.t {K : PySem.W.Frag} {H H' : Hp} {a : Addr} {xs : List V} (e : Nl H H') (h : SqT K H a xs) : SqT K H' a xs := by
  rcases h with (h | ⟨o, h⟩) | h
  · exact .inl (.inl (e.get (fun l z => by cases z) h))
  · exact .inl (.inr ⟨o, e.get (fun l z => by cases z) h⟩)
  · exact .inr h
theorem tEN {K : PySem.W.Frag} {H H' : Hp} {a : Addr} {xs : List V} (h : SqT K H a xs) (e : Nls H H') : SqT K H' a xs := e.nl.t h
/-- t[-1:] of a tuple of ints that is not empty -/
theorem w_slBack {K : PySem.W.Frag} {H : Hp} {Q : VK} {a : Addr} {ns : List Int} (h : SqT K H a (ns.map V.int)) (h0 : 0 < ns.length) (q : ∀ p H2, Ex H H2 → SqT K H2 p ((ns.drop (ns.length - 1)).map V.int) → Q (.ref p) H2) : rSlA K (.ref a) (some (-1)) none H Q := by
  have e : HT.sIx (ns.map V.int).length 0 (some (-1)) = ns.length - 1 := by
    rw [List.length_map]
    unfold HT.sIx
    simp
    omega
  refine ⟨a, _, rfl, h, fun hw => ?_, fun hw p hp => q p _ (Ex.new hp) (st_of ?_)⟩
  · have := hw.1
    rw [e] at this
    refine q a H (Ex.refl H) ?_
    rw [this, List.drop_zero]
    exact h
  · show upd H p _ p = _
    rw [upd_same]
    unfold cutV
    rw [e, HT.sIx_none, List.length_map, List.take_of_length_le (by rw [List.length_drop, List.length_map]; exact Nat.le_refl _), List.map_drop]
/-- xs.pop() of ints -/
theorem w_pop0 {H : Hp} {Q : VK} {a : Addr} {ns : List Int} (h : At H a (.lst (ns.map V.int))) (h0 : 0 < ns.length) (q : ∀ H2, At H2 a (.lst (ns.dropLast.map V.int)) → Nl H H2 → (∀ H0, Ex H0 H → Fr H0 a → Ex H0 H2) → (∀ b o, b ≠ a → At H b o → At H2 b o) → Q (.int (ns.getD (ns.length - 1) 0)) H2) : rPop (.ref a) [] H Q := by
  refine ⟨a, _, _, rfl, rfl, h, ?_, q _ ?_ (Nl.upd h) (fun H0 e n => Ex.mut e n) (fun b o hb e => by unfold At; rw [upd_ne hb]; exact e)⟩
  · rw [List.length_map, List.getElem?_map, List.getD_eq_getElem?_getD, List.getElem?_eq_getElem (by omega)]
    rfl
  · unfold At
    rw [upd_same, List.map_dropLast]
section
variable {K : PySem.W.Frag} {H : Hp} {Q : VK} {a b : Addr} {ns : List Int}
theorem w_eqLr (h1 : SqL K H a (ns.map V.int)) (h2 : SqL K H b (ns.map V.int)) (q : Q (.bl true) H) : rEqZ K (.ref a) (.ref b) H Q := w_eqLI h1 h2 (by rw [decide_eq_true rfl]; exact q)
theorem w_neLr (h1 : SqL K H a (ns.map V.int)) (h2 : SqL K H b (ns.map V.int)) (q : Q (.bl false) H) : rNeZ K (.ref a) (.ref b) H Q := w_neLI h1 h2 (by rw [decide_eq_true rfl]; exact q)
theorem w_eqTr (h1 : SqT K H a (ns.map V.int)) (h2 : SqT K H b (ns.map V.int)) (q : Q (.bl true) H) : rEqZ K (.ref a) (.ref b) H Q := w_eqTI h1 h2 (by rw [decide_eq_true rfl]; exact q)
theorem w_neTr (h1 : SqT K H a (ns.map V.int)) (h2 : SqT K H b (ns.map V.int)) (q : Q (.bl false) H) : rNeZ K (.ref a) (.ref b) H Q := w_neTI h1 h2 (by rw [decide_eq_true rfl]; exact q)
end
/-! ### slots as a written list -/
class SetsTo (σ : List (Option V)) (i : Nat) (v : Option V) (σ' : outParam (List (Option V))) : Prop where
  eq : σ.set i v = σ'
instance SetsTo.zero {x v : Option V} {r : List (Option V)} : SetsTo (x :: r) 0 v (v :: r) := ⟨rfl⟩
instance SetsTo.succ {x v : Option V} {r r' : List (Option V)} {i : Nat} [s : SetsTo r i v r'] : SetsTo (x :: r) (i + 1) v (x :: r') := ⟨by rw [← s.eq]; rfl⟩
theorem w_gnS {i : Nat} {v : V} {σ σ' : L2.St} {H : Hp} {R : L2.St → Hp → Prop} [s : SetsTo σ i (some v) σ'] (h : R σ' H) : gName i v σ H R := by
  have e := s.eq
  show R (σ.set i (some v)) H
  rw [e]
  exact h
end Z
namespace Z
open PySem L2 PySem.Spec PyProof.Rows
/-! ### for x in a list or a tuple -/
def SqA (K : PySem.W.Frag) (H : Hp) (a : Addr) (xs : List V) : Prop := SqL K H a xs ∨ SqT K H a xs
def dA (K : PySem.W.Frag) (R : It → Hp → Prop) : VK := fun x H1 => ∃ a, x = .ref a ∧ (((∃ xs, SqL K H1 a xs) ∧ R (Itl K a) H1) ∨ ((∃ xs, SqT K H1 a xs) ∧ R (Itt K a) H1))
def iAny (K : PySem.W.Frag) (tl : TE) : TI := fun σ H R => tl σ H (dA K R)
theorem piA {X : Cx} {K : PySem.W.Frag} (hK : X.K = K) {tg l : Expr} {tl : TE} (hl : PE X l tl) : PI X tg l (iAny K tl) := by
  subst hK
  constructor
  intro pins s σ H R I h
  refine thn (hl.run pins s σ H _ I h) ?_
  rintro v s1 ⟨x, H1, I1, r1, a, rfl, q1⟩
  cases r1
  have new : ∀ b ∈ [s1.heap.objs.size], FpOk X pins H1 b := fun b hb => by
    rw [List.mem_singleton.mp hb]
    exact I1.fpOk (Nat.le_refl _) (I1.hok.fresh (Nat.le_refl _))
  rcases q1 with ⟨⟨xs, hq⟩, q⟩ | ⟨⟨xs, hq⟩, q⟩
  · obtain ⟨its, rv, p, hz⟩ := I1.list hq
    exact wpAny_pyIter_list p.isList ⟨_, [s1.heap.objs.size], _, _, H1, rfl, I1.kept (t' := s1.toks) fun b o e => Heap.get?_push_of_some _ e, turn_list a _, ⟨_, Heap.get?_push_size _ rfl, rfl, rfl⟩, new, q⟩
  · obtain ⟨its, rv, p, hz⟩ := I1.tuple hq
    exact wpAny_pyIter_tuple (show s1.heap.IsTuple a its.toArray from p) ⟨_, [s1.heap.objs.size], _, _, H1, rfl, I1.kept (t' := s1.toks) fun b o e => Heap.get?_push_of_some _ e, turn_tuple a _, ⟨_, Heap.get?_push_size _ rfl, rfl, rfl⟩, new, q⟩
section
variable {K : PySem.W.Frag} {σ : L2.St} {H H' : Hp} {Q : VK} {te : TE} {a : Addr} {xs : List V} {R : It → Hp → Prop}
theorem w_iA (h : te σ H (dA K R)) : iAny K te σ H R := h
theorem Ex.sa (e : Ex H H') (h : SqA K H a xs) : SqA K H' a xs := h.imp e.l e.t
theorem aE (h : SqA K H a xs) (e : Exs H H') : SqA K H' a xs := e.ex.sa h
theorem i_A (h : SqA K H a xs) (k : ∀ J, Src J (fun H' => SqA K H' a xs ∧ (SqL K H a xs → SqL K H' a xs) ∧ (SqT K H a xs → SqT K H' a xs)) xs.length (fun i x _ => xs[i]? = some x) → R J H) : dA K R (.ref a) H := by
  refine ⟨a, rfl, ?_⟩
  rcases h with h | h
  · refine .inl ⟨⟨xs, h⟩, k _ ⟨fun i H' hp hi => ⟨xs, xs[i], hp.2.1 h, List.getElem?_eq_getElem hi⟩, fun H' hp => ⟨xs, hp.2.1 h, Nat.le_refl _⟩, fun i H' x H'' hp hi hy => ?_⟩⟩
    obtain ⟨e, f⟩ := hy
    exact ⟨by rw [e]; exact Ex.refl _, f xs (hp.2.1 h)⟩
  · refine .inr ⟨⟨xs, h⟩, k _ ⟨fun i H' hp hi => ⟨xs, xs[i], hp.2.2 h, List.getElem?_eq_getElem hi⟩, fun H' hp => ⟨xs, hp.2.2 h, Nat.le_refl _⟩, fun i H' x H'' hp hi hy => ?_⟩⟩
    obtain ⟨e, f⟩ := hy
    exact ⟨by rw [e]; exact Ex.refl _, f xs (hp.2.2 h)⟩
theorem aOk (h : SqA K H a xs) (e : Ex H H') : SqA K H' a xs ∧ (SqL K H a xs → SqL K H' a xs) ∧ (SqT K H a xs → SqT K H' a xs) := ⟨e.sa h, e.l, e.t⟩
end
end Z
namespace Z
open PySem L2 PySem.Spec PyProof.Rows
/-! ### == of lists and tuples of flat values -/
def flD : V → Option PyData
  | .non => some .none
  | .bl b => some (.bool b)
  | .int i => some (.int i)
  | .str x => some (.str x)
  | _ => none
def okV : V → Bool
  | .str x => PyData.strOk x
  | _ => true
def okVs : List V → Bool
  | [] => true
  | v :: r => okV v && okVs r
def fls : List V → Option (List PyData)
  | [] => some []
  | v :: r => match flD v, fls r with
    | some d, some ds => some (d :: ds)
    | _, _ => none
theorem fls_cons {v : V} {r : List V} {es : List PyData} (h : fls (v :: r) = some es) : ∃ d ds, flD v = some d ∧ fls r = some ds ∧ es = d :: ds := by
  unfold fls at h
  split at h
  · rename_i d ds h1 h2
    exact ⟨d, ds, h1, h2, (Option.some.inj h).symm⟩
  · cases h
theorem flD_dp {K : PySem.W.Frag} {H : Hp} {v : V} {d : PyData} (h : flD v = some d) : Dp K H v d := by
  cases v <;> simp only [flD, reduceCtorEq, Option.some.injEq] at h <;> subst h <;> constructor
theorem fls_dp {K : PySem.W.Frag} {H : Hp} : ∀ {xs : List V} {ds : List PyData}, fls xs = some ds → DpAll K H xs ds
  | [], ds, h => by cases h; exact .nil
  | v :: r, es, h => by
    obtain ⟨d, ds, h1, h2, rfl⟩ := fls_cons h
    exact .cons (flD_dp h1) (fls_dp h2)
theorem flD_can {v : V} {d : PyData} (h : flD v = some d) (o : okV v = true) : d.canLay0 = true ∧ d.depth = 0 ∧ PyData.eqv d d = true := by
  cases v <;> simp only [flD, reduceCtorEq, Option.some.injEq] at h <;> subst h <;> first | (simp [PyData.canLay0, PyData.depth, PyData.eqv]; done) | (simp only [okV] at o; simp [PyData.canLay0, PyData.depth, PyData.eqv, o])
theorem fls_can : ∀ {xs : List V} {ds : List PyData}, fls xs = some ds → okVs xs = true → PyData.canLayAll0 ds = true ∧ PyData.depthAll ds = 0 ∧ PyData.eqvAll ds ds = true
  | [], ds, h, _ => by cases h; simp [PyData.canLayAll0, PyData.depthAll, PyData.eqvAll]
  | v :: r, es, h, o => by
    obtain ⟨d, ds, h1, h2, rfl⟩ := fls_cons h
    obtain ⟨o1, o2⟩ := Bool.and_eq_true_iff.mp (show (okV v && okVs r) = true from o)
    obtain ⟨a1, a2, a3⟩ := flD_can h1 o1
    obtain ⟨b1, b2, b3⟩ := fls_can h2 o2
    simp [PyData.canLayAll0, PyData.depthAll, PyData.eqvAll, a1, a2, a3, b1, b2, b3]
theorem fls_shL {xs : List V} {ds : List PyData} (h : fls xs = some ds) (o : okVs xs = true) : SeqAt.shaped (.list ds) = true := by
  obtain ⟨b1, b2, b3⟩ := fls_can h o
  simp [SeqAt.shaped, PyData.canLay0, PyData.depth, b1, b2]
theorem fls_shT {xs : List V} {ds : List PyData} (h : fls xs = some ds) (o : okVs xs = true) : SeqAt.shaped (.tuple ds) = true := by
  obtain ⟨b1, b2, b3⟩ := fls_can h o
  simp [SeqAt.shaped, PyData.canLay0, PyData.depth, b1, b2]
section
variable {K : PySem.W.Frag} {H : Hp} {Q : VK} {a b : Addr} {xs ys : List V} {ds es : List PyData}
theorem w_eqLF (h1 : SqL K H a xs) (h2 : SqL K H b ys) (e1 : fls xs = some ds) (e2 : fls ys = some es) (o1 : okVs xs = true) (o2 : okVs ys = true) (q : Q (.bl (PyData.eqvAll ds es)) H) : rEqZ K (.ref a) (.ref b) H Q := .inr ⟨_, _, .lst h1 (fls_dp e1), .lst h2 (fls_dp e2), fls_shL e1 o1, fls_shL e2 o2, by unfold PyData.eqv; exact q⟩
theorem w_neLF (h1 : SqL K H a xs) (h2 : SqL K H b ys) (e1 : fls xs = some ds) (e2 : fls ys = some es) (o1 : okVs xs = true) (o2 : okVs ys = true) (q : Q (.bl (!PyData.eqvAll ds es)) H) : rNeZ K (.ref a) (.ref b) H Q := .inr ⟨_, _, .lst h1 (fls_dp e1), .lst h2 (fls_dp e2), fls_shL e1 o1, fls_shL e2 o2, by unfold PyData.eqv; exact q⟩
theorem w_eqTF (h1 : SqT K H a xs) (h2 : SqT K H b ys) (e1 : fls xs = some ds) (e2 : fls ys = some es) (o1 : okVs xs = true) (o2 : okVs ys = true) (q : Q (.bl (PyData.eqvAll ds es)) H) : rEqZ K (.ref a) (.ref b) H Q := .inr ⟨_, _, .tup h1 (fls_dp e1), .tup h2 (fls_dp e2), fls_shT e1 o1, fls_shT e2 o2, by unfold PyData.eqv; exact q⟩
theorem w_neTF (h1 : SqT K H a xs) (h2 : SqT K H b ys) (e1 : fls xs = some ds) (e2 : fls ys = some es) (o1 : okVs xs = true) (o2 : okVs ys = true) (q : Q (.bl (!PyData.eqvAll ds es)) H) : rNeZ K (.ref a) (.ref b) H Q := .inr ⟨_, _, .tup h1 (fls_dp e1), .tup h2 (fls_dp e2), fls_shT e1 o1, fls_shT e2 o2, by unfold PyData.eqv; exact q⟩
theorem w_eqLFr (h1 : SqL K H a xs) (h2 : SqL K H b xs) (e1 : fls xs = some ds) (o1 : okVs xs = true) (q : Q (.bl true) H) : rEqZ K (.ref a) (.ref b) H Q := w_eqLF h1 h2 e1 e1 o1 o1 (by rw [(fls_can e1 o1).2.2]; exact q)
theorem w_neLFr (h1 : SqL K H a xs) (h2 : SqL K H b xs) (e1 : fls xs = some ds) (o1 : okVs xs = true) (q : Q (.bl false) H) : rNeZ K (.ref a) (.ref b) H Q := w_neLF h1 h2 e1 e1 o1 o1 (by rw [(fls_can e1 o1).2.2]; exact q)
theorem w_eqTFr (h1 : SqT K H a xs) (h2 : SqT K H b xs) (e1 : fls xs = some ds) (o1 : okVs xs = true) (q : Q (.bl true) H) : rEqZ K (.ref a) (.ref b) H Q := w_eqTF h1 h2 e1 e1 o1 o1 (by rw [(fls_can e1 o1).2.2]; exact q)
theorem w_neTFr (h1 : SqT K H a xs) (h2 : SqT K H b xs) (e1 : fls xs = some ds) (o1 : okVs xs = true) (q : Q (.bl false) H) : rNeZ K (.ref a) (.ref b) H Q := w_neTF h1 h2 e1 e1 o1 o1 (by rw [(fls_can e1 o1).2.2]; exact q)
end
example (i : Int) : okVs [.str "prices", .int i, .non] = true := by kernel_rfl
end Z
namespace Z
open PySem L2 PySem.Spec PyProof.Rows
/-! ### C(e, .., k = v, ..): keyword-only parameters without defaults -/
theorem kb_of {K : PySem.W.Frag} {x qual : Str} {params : Arguments} {body : List Stmt} {scope : Scope} {kws : List (Str × V)} {f : Addr} {fd : FuncData} {ps ks : List Str} {n : Nat} (F : FunD K x qual params body scope [] kws f fd)
    (h : ∀ (kV doc pm : Value) (an : Option Addr) (cdv ct : Value) (us ws : List Value), us.length = n → ws.length = ks.length → bindArgs (PySem.W.fnOf x qual params body scope .none kV doc pm an cdv ct) ⟨us, ks.zip ws⟩ = pure (ps.zip (us ++ ws))) : KBn K fd ps n ks (fun us ws => us ++ ws) (fun vs zs => vs ++ zs) := by
  obtain ⟨oc, od, dV, kV, doc, pm, an, cdv, ct, osl, rfl, lk, hcd, hD, hK⟩ := F.ex
  rcases hD with ⟨_, rfl⟩ | ⟨e, _⟩
  · exact ⟨fun s us ws _ l1 l2 => .of_eq (h kV doc pm an cdv ct us ws l1 l2), fun r1 r2 => r1.append r2⟩
  · exact absurd rfl e
section
variable {X : Cx} {CX : CXT} {k n : Nat} {f C : Addr} {fd : FuncData} {ps ks : List Str} {sp : Sp} {E : L2.St → XK} {x : Str} {p pos : Pos} {e : Expr} {es : List Expr} {kws : List Keyword} {t tk : TA} {g : List Value → List Value → List Value} {gV : List V → List V → List V}
theorem run_makeKZ {pins : List (Addr × Obj)} {σ : L2.St} {G : Hp} {s : Shared} {Q : VK} {us ws : List Value} {vs zs : List V} (M : Mk X.K C f) (F : FnOk X.prog X.w X.K X.mg X.base CX k f fd ps sp) (hr : Room (k + 1) X.A) (hb : KBn X.K fd ps (n + 1) ks g gV) (hx : PassesAt CX X σ (E σ)) (I : Inv X pins σ G s) (r : Vals vs us) (rz : Vals zs ws) (l1 : vs.length = n) (l2 : zs.length = ks.length)
    (h : ∀ x dx, G x = none → G dx = none → dx ≠ x → sp (gV (.ref x :: vs) zs) (upd (upd G dx (.own x)) x (.ins C dx [])) (fun v H2 => v = .non ∧ Q (.ref x) H2) (E σ)) : wpAny (model X.prog X.w) X.A (call (.ref C) us (ks.zip ws)) (EP X pins σ Q) X.xe s := by
  have J := Inv.made (C := C) I
  have w2 := hb.rel (show Vals (V.ref (s.heap.objs.size + 1) :: vs) (Value.ref (s.heap.objs.size + 1) :: us) from .cons rfl r) rz
  have n1 : (Value.ref (s.heap.objs.size + 1) :: us).length = n + 1 := by rw [List.length_cons, ← r.length, l1]
  have hq := h (s.heap.objs.size + 1) s.heap.objs.size (I.hok.fresh (Nat.le_succ _)) (I.hok.fresh (Nat.le_refl _)) (Nat.ne_of_lt (Nat.lt_succ_self _))
  have hB := hb.to _ (Value.ref (s.heap.objs.size + 1) :: us) ws J.kIn n1 (rz.length.symm.trans l2)
  refine wpAny_call (make_map (f := f) I.kIn M.makes M.init (beq_iff_eq.mp M.fn) (codeAny_mono (F.run _ X.stack _ _ _ _ _ _ (E σ) (hr.make C us (ks.zip ws)) (J.env0.make C us (ks.zip ws)) hB w2 hq) fun r s' z => ?_))
  match r, z with
  | .error e, z => exact hx pins _ _ e s' J z
  | .ok (.ret u), z =>
    obtain ⟨v, H', I3, rv, ev, q3⟩ := J.after z
    subst ev
    exact ⟨rv, V.ref (s.heap.objs.size + 1), H', I3, rfl, q3⟩
  | .ok .next, z => exact z.elim
  | .ok .brk, z => exact z.elim
  | .ok .cont, z => exact z.elim
def tMakeKZ (C : Addr) (n m : Nat) (sp : Sp) (gV : List V → List V → List V) (E : L2.St → XK) (t tk : TA) : TE := fun σ H Q => tMakeK C n m sp gV (E σ) t tk σ H Q
theorem pe_makeKZ (M : Mk X.K C f) (F : FnOk X.prog X.w X.K X.mg X.base CX k f fd ps sp) (hr : Room (k + 1) X.A) (hg : Gl X x) (hm : X.mg x = some (.ref C)) (hb : KBn X.K fd ps (n + 1) ks g gV) (hx : ∀ σ, PassesAt CX X σ (E σ)) (ha : PA X (e :: es) t) (hkw : PK X kws tk)
    (hall : (backToKw pos (keywordEach kws X.env)).all (·.1.isSome) = true := by rfl) (hks : (backToKw pos (keywordEach kws X.env)).filterMap (·.1) = ks := by rfl) (hdb : (x == ("__debug__" : Str)) = false := by decide)
    (he : starEach (e :: es) X.env = (false, eval e X.env) :: starEach es X.env := by rfl) (hpl : ((backTo pos (starEach (e :: es) X.env)).any (·.1) || (backToKw pos (keywordEach kws X.env)).any (·.1.isNone)) = false := by rfl) :
    PE X (.Call (.Name x p) (e :: es) kws pos) (tMakeKZ C n ks.length sp gV E t tk) := by
  constructor
  intro pins s σ G Q I h
  have go : ∀ us s1, (∃ vs H1, Inv X pins σ H1 s1 ∧ Vals vs us ∧ tk σ H1 fun zs H2 => vs.length = n ∧ zs.length = ks.length ∧ ∀ x dx, H2 x = none → H2 dx = none → dx ≠ x → sp (gV (.ref x :: vs) zs) (upd (upd H2 dx (.own x)) x (.ins C dx [])) (fun v H3 => v = .non ∧ Q (.ref x) H3) (E σ)) →
      wpAny (model X.prog X.w) X.A (evalAll ((backToKw pos (keywordEach kws X.env)).map (·.2))) (fun ws s2 => X.K.In s2.heap ∧ wpAny (model X.prog X.w) X.A (call (.ref C) us (((backToKw pos (keywordEach kws X.env)).filterMap (·.1)).zip ws)) (EP X pins σ Q) X.xe s2) X.xe s1 := by
    rintro us s1 ⟨vs, H1, I1, r, q⟩
    refine thn (hkw.run pos pins s1 σ H1 _ I1 q) ?_
    rintro ws s2 ⟨zs, H2, I2, rz, l1, l2, q2⟩
    refine ⟨I2.kIn, ?_⟩
    rw [hks]
    exact run_makeKZ M F hr hb (hx σ) I2 r rz l1 l2 q2
  exact wpAny_Call_Name_kw (ld_glob I hg hm (PySem.W.callWith_KW (h₀ := X.base) I.ok.mod.kin M.kp hall (thn (ha.run pos pins s σ G _ I h) go) hpl he) hdb)
end
section
variable {K : PySem.W.Frag} {σ : L2.St} {H : Hp} {Q : VK} {C : Addr} {n m : Nat} {sp : Sp} {t tk : TA} {i : Int} {z : Str} {b : Bool}
theorem w_makeK {E : XK} (h : t σ H fun vs H1 => tk σ H1 fun zs H2 => vs.length = n ∧ zs.length = m ∧ dMk C sp [] E Q (vs ++ zs) H2) : tMakeK C n m sp (fun vs zs => vs ++ zs) E t tk σ H Q := by
  show t σ H fun vs H1 => tk σ H1 fun zs H2 => vs.length = n ∧ zs.length = m ∧ ∀ x dx, H2 x = none → H2 dx = none → dx ≠ x → sp ((.ref x :: vs) ++ zs) (upd (upd H2 dx (.own x)) x (.ins C dx [])) (fun v H3 => v = .non ∧ Q (.ref x) H3) E
  simp only [dMk, List.append_nil] at h
  exact h
theorem w_makeKZ {E : L2.St → XK} (h : t σ H fun vs H1 => tk σ H1 fun zs H2 => vs.length = n ∧ zs.length = m ∧ dMk C sp [] (E σ) Q (vs ++ zs) H2) : tMakeKZ C n m sp (fun vs zs => vs ++ zs) E t tk σ H Q := w_makeK h
theorem w_two {A B R : Prop} (h1 : A) (h2 : B) (h : R) : A ∧ B ∧ R := ⟨h1, h2, h⟩
theorem w_isiIS (q : Q (.bl false) H) : rIsi K [.int i, .ty "str"] H Q := w_isiB (.base (.int _)) (by decide +kernel) q
theorem w_isiSI (q : Q (.bl false) H) : rIsi K [.str z, .ty "int"] H Q := w_isiB (.base (.str _)) (by decide +kernel) q
end
end Z
namespace Z
open PySem L2 PySem.Spec PyProof.Rows
open AutoSeq1 (wpAny_loadPart')
/-! ### enumerate of a tuple -/
theorem meets_enumT (t : Addr) (its : Array Value) (n : Nat) (dct : Option Addr) (sl : Array (Option Value)) :
    Meets (Builtin.«enumerate.__new__» ⟨[.type "enumerate", .ref t], []⟩) (fun _ R s => s.heap.get? t = some { cls := .type "tuple", dict := dct, data := .seq its n, slots := sl } ∧
      R (.ok (.ret (.ref (s.heap.push { cls := .type "tuple_iterator", data := .fields #[.ref t, .int 0 0] }).objs.size)))
        { s with heap := (s.heap.push { cls := .type "tuple_iterator", data := .fields #[.ref t, .int 0 0] }).push { cls := .type "enumerate", data := .fields #[.none, .bool false, .ref s.heap.objs.size, rawInt 0, .none, .none] } }) :=
  .of_wp fun prog w A R s h => by
    obtain ⟨hp, g, d, tk, os⟩ := s
    obtain ⟨ht, h⟩ := h
    have hsub := sub_enumerate
    have hT : Heap.IsTuple (Shared.heap ⟨hp, g, d, tk, os⟩) t its := ⟨_, ht, rfl, n, rfl⟩
    wp_walk using wpAny_loadPart' ht
    refine wpAny_stack_any fun st => wpAny_pure ?_
    split
    · rename_i c _ _ _ _ _
      cases (c == Value.type "enumerate") <;> (wp_walk using wpAny_loadPart' ht, wpAny_pyIter_tuple hT; exact ⟨_, rfl, h⟩)
    · wp_walk using wpAny_loadPart' ht, wpAny_pyIter_tuple hT
      exact ⟨_, rfl, h⟩
theorem call_enumT {prog : Program} {w : World} {A : Around} {E : Value → Shared → Prop} {s : Shared} {t : Addr} {its : Array Value} {Q : Value → Shared → Prop} (hT : s.heap.IsTuple t its)
    (h : ∀ h', IsEnum h' (s.heap.objs.size + 1) s.heap.objs.size 0 .none → h'.IsTupleIter s.heap.objs.size t 0 → (∀ b o, s.heap.get? b = some o → h'.get? b = some o) → Q (.ref (s.heap.objs.size + 1)) { s with heap := h' }) :
    wpAny (model prog w) A (call (.type "enumerate") [.ref t]) Q E s := by
  obtain ⟨⟨c, dct, dt, sl⟩, hl, hc, n, hd⟩ := hT
  cases (show c = .type "tuple" from hc)
  cases (show dt = .seq its n from hd)
  refine callType_new F.called_enumerate (by decide) (F.typeCall_enumerate_1 _) (F.newCall_enumerate_1 _) (fun obj => F.args_object_init_2 obj _) F.entry_enumerate_new (meets_enumT t its n dct sl) ⟨hl, ?_⟩
  have hz : (s.heap.push { cls := .type "tuple_iterator", data := .fields #[.ref t, .int 0 0] }).objs.size = s.heap.objs.size + 1 := Heap.size_push ..
  have he : IsEnum ((s.heap.push { cls := .type "tuple_iterator", data := .fields #[.ref t, .int 0 0] }).push { cls := .type "enumerate", data := .fields #[.none, .bool false, .ref s.heap.objs.size, rawInt 0, .none, .none] }) (s.heap.objs.size + 1) s.heap.objs.size 0 .none := by
    rw [← hz]
    exact Heap.get?_push_size _ rfl
  show _ ∧ _
  rw [hz]
  exact ⟨⟨_, he, rfl⟩, h _ he ⟨_, Heap.get?_push_of_some _ (Heap.get?_push_size _ rfl), rfl, rfl⟩ fun b o x => Heap.get?_push_of_some _ (Heap.get?_push_of_some _ x)⟩
theorem enum_endT {prog : Program} {w : World} {A : Around} {E : Value → Shared → Prop} {s : Shared} {e it t : Addr} {j : Nat} {k : Int} {old : Value} {its : Array Value} {Q : Option Value → Shared → Prop} (hh : A.handled = none) (he : IsEnum s.heap e it k old) (hit : s.heap.IsTupleIter it t j) (ht : s.heap.IsTuple t its) (hx : its[j]? = none)
    (hQ : ∀ h', Heap.ExtBut it s.heap h' → Q none { s with heap := h' }) : wpAny (model prog w) A (pyNext (.ref e)) Q E s := by
  have ty : s.TypeIs (.ref e) "enumerate" := ⟨_, he, rfl⟩
  have body : ∀ {A' : Around} {R : PySem.Fin → Shared → Prop} {E' : Value → Shared → Prop}, A'.handled = none → (∀ h' x, Heap.ExtBut it s.heap h' → (∃ o, h'.get? x = some o ∧ o.cls = .type "StopIteration") → E' (.ref x) { s with heap := h' }) → wpAny (model prog w) A' (Builtin.«enumerate.__next__» ⟨[.ref e], []⟩) R E' s := fun {A' R E'} h0 hE => by
    show wpAny _ _ (field (.ref e) 2 >>= _) _ _ _
    exact wpAny_bind (wpAny_field he rfl (x := .ref it) rfl (wpAny_bind (wpAny_nextOf_tuple_end h0 hit ht hx hE)))
  unfold pyNext
  refine wpAny_bind (wpAny_attempt (wpAny_callSpecial?_slot (name := Str.ofString "__next__") ty F.slot_enumerate_next (wpAny_call_entry F.slot_enumerate_next ty F.entry_enumerate_next (body (by exact hh) ?_) (F.args_enumerate_next_1 _))))
  rintro h' x eb ⟨o, ho, hc⟩
  exact wpAny_bind (wpAny_isInstance (T := "StopIteration") (b := true) ⟨o, ho, hc⟩ isSubtype_stop (wpAny_pure (hQ _ eb)))
/-- the tuple at a, each item in a new pair -/
def IteT (K : PySem.W.Frag) (a : Addr) : It :=
  ⟨fun i H => ∃ (xs : List V) (x : V), SqT K H a xs ∧ xs[i]? = some x, fun i H v H' => ∃ T x, v = .ref T ∧ H T = none ∧ H' = upd H T (.tup [.int (i : Nat), x]) ∧ ∀ xs, SqT K H a xs → xs[i]? = some x, fun i H => ∃ xs : List V, SqT K H a xs ∧ xs.length ≤ i⟩
theorem turn_enumT {P : Program} {w : World} {K : PySem.W.Frag} {elts : List Expr} {kk : Nat} {tpos : Pos} (a e it : Addr) :
    Turn P w K (.Tuple elts kk tpos) (IteT K a) [e, it] e (fun i h => (∃ old, IsEnum h e it ((i : Nat) : Int) old) ∧ h.IsTupleIter it a i ∧ e ≠ it ∧ a ≠ it ∧ a ≠ e) where
  mem := List.mem_cons_self
  obj := by
    rintro i h ⟨⟨old, he⟩, ⟨o, ho, hc, hd⟩, _⟩ b hb
    rcases List.mem_cons.mp hb with rfl | hb
    · exact ⟨_, he, fun v q => nomatch q⟩
    · rw [List.mem_singleton.mp hb]
      exact ⟨o, ho, fun v q => by rw [hd] at q; cases q⟩
  keep := by
    rintro i h h' ⟨⟨old, he⟩, hi, hne⟩ k
    exact ⟨⟨old, k e List.mem_cons_self _ he⟩, hi.at fun o q => k it (by simp) o q, hne⟩
  item := by
    intro X hP hw hK hc i pins s σ H E I hf st hg
    subst hP hw hK
    obtain ⟨⟨old, he⟩, hit, hne, hai, hae⟩ := st
    obtain ⟨xs, x, hq, hx⟩ := hg
    obtain ⟨its, rv, p, hz⟩ := I.tuple hq
    obtain ⟨u, hu, ru⟩ := rv.get hx
    have hlt : i < its.toArray.size := by
      have := (List.getElem?_eq_some_iff.mp hu).1
      simpa using this
    have hel : e < s.heap.objs.size := Heap.lt_size he
    have hil : it < s.heap.objs.size := by obtain ⟨_, q, _⟩ := hit; exact Heap.lt_size q
    refine wpAny_pyNext_enum_itemD (Draws.tuple (A := X.A.in1) (I.ok.hd hc) it a hai its.toArray) he ⟨hit, p⟩ hlt hne (fun z => ?_) fun y h' tk hy ho hit' hT hsz hk => ?_
    · rcases List.mem_cons.mp z with z | z
      · exact hne z
      · exact hae (List.mem_singleton.mp z).symm
    have ey : y = u := by
      have h1 : its.toArray[i]? = some y := hy
      rw [List.getElem?_toArray, hu] at h1
      exact (Option.some.inj h1).symm
    subst ey
    refine ⟨_, rfl, wpAny_letOwnedTupleGo_enum (s := { s with heap := h', toks := tk + 1 }) ho fun h'' he' sb => ?_⟩
    have hT2 : h''.get? s.heap.objs.size = some { cls := .type "tuple", data := .seq #[.int i tk, y] } := (sb.2 _ (Nat.ne_of_gt hel)).trans hT
    have new : ObjOk X.prog X.w (upd H s.heap.objs.size (.tup [.int (i : Nat), x])) h'' s.heap.objs.size (.tup [.int (i : Nat), x]) := by
      refine ⟨?_, [.int i tk, y], .cons ⟨_, rfl⟩ (.cons ru .nil), ⟨_, hT2, rfl, _, rfl⟩⟩
      show 2 ≤ sizeLine
      decide
    have I1 : Inv X pins σ (upd H s.heap.objs.size (.tup [.int (i : Nat), x])) { s with heap := h'', toks := tk + 1 } :=
      I.turnedNew (ch := [e, it]) (fun b ob hb q => (sb.2 b (fun z => hb (by simp [z]))).trans (hk b ob (fun z => hb (by simp [z])) (fun z => hb (by simp [z])) q)) hf (Nat.le_refl _) new
    refine ⟨.ref s.heap.objs.size, _, I1, rfl, ⟨_, x, rfl, I.hok.fresh (Nat.le_refl _), rfl, fun ys hy => by rw [I.tuple_inj hy hq]; exact hx⟩, ⟨⟨y, ?_⟩, hit'.1.at fun o q => (sb.2 it (Ne.symm hne)).trans q, hne, hai, hae⟩, fun b hb => ?_⟩
    · rw [show ((i + 1 : Nat) : Int) = (i : Int) + 1 by omega]
      exact he'
    · have hb' : b < s.heap.objs.size := by
        rcases List.mem_cons.mp hb with z | z
        · rw [z]; exact hel
        · rw [List.mem_singleton.mp z]; exact hil
      rw [upd_ne (Nat.ne_of_lt hb')]
      exact (hf b hb).1
  done := by
    intro X hP hw hK hc i pins s σ H E I hf st hg
    subst hP hw hK
    obtain ⟨⟨old, he⟩, hit, hne, hai, hae⟩ := st
    obtain ⟨xs, hq, hx⟩ := hg
    obtain ⟨its, rv, p, hz⟩ := I.tuple hq
    obtain ⟨f0, f1, f2, f3, f4, f5⟩ := hf it (by simp)
    have hl := rv.length
    refine enum_endT (I.ok.hd hc) he hit p (by simp; omega) fun h' eb => ⟨rfl, I.turned (t' := s.toks) (fun b o hb q => eb b o hb q) f0 f1 f3 f4 f5⟩
  self := by
    rintro A i s Q E ⟨⟨_, he⟩, _⟩ h
    exact wpAny_pyIter_enum he h
/-- enumerate of a list or a tuple -/
def dEA (K : PySem.W.Frag) (R : It → Hp → Prop) : List V → Hp → Prop := fun vs H1 => ∃ a xs, vs = [.ref a] ∧ ((SqL K H1 a xs ∧ R (Ite K a) H1) ∨ (SqT K H1 a xs ∧ R (IteT K a) H1))
def iEnA (K : PySem.W.Frag) (ta : TA) : TI := fun σ H R => ta σ H (dEA K R)
theorem pi_enumA {X : Cx} {K : PySem.W.Frag} (hK : X.K = K) {e : Expr} {ta : TA} {p pos tpos : Pos} {elts : List Expr} {kk : Nat} (hg : Gl X "enumerate") (hm : X.mg "enumerate" = none) (ha : PA X [e] ta) (hs : starEach [e] X.env = [(false, eval e X.env)] := by rfl) :
    PI X (.Tuple elts kk tpos) (.Call (.Name "enumerate" p) [e] [] pos) (iEnA K ta) := by
  subst hK
  constructor
  intro pins s σ H R I h
  have go : ∀ us s1, (∃ vs H1, Inv X pins σ H1 s1 ∧ Vals vs us ∧ dEA X.K R vs H1) → wpAny (model X.prog X.w) X.A (call (.type "enumerate") us) (fun v s2 => wpAny (model X.prog X.w) X.A (pyIter v) (PIE X pins σ (.Tuple elts kk tpos) R) X.xe s2) X.xe s1 := by
    rintro us s1 ⟨vs, H1, I1, r1, a, xs, rfl, q⟩
    cases r1 with
    | cons r rr =>
      cases rr
      cases r
      have new : ∀ b ∈ [s1.heap.objs.size + 1, s1.heap.objs.size], FpOk X pins H1 b := fun b hb => by
        have hle : s1.heap.objs.size ≤ b := by
          rcases List.mem_cons.mp hb with z | z
          · omega
          · rw [List.mem_singleton.mp z]; exact Nat.le_refl _
        exact I1.fpOk hle (I1.hok.fresh hle)
      rcases q with ⟨hq, q⟩ | ⟨hq, q⟩
      · obtain ⟨its, rv, p', hz⟩ := I1.list hq
        exact call_enumerate_list p'.isList fun h' he hit hsz hk => wpAny_pyIter_enum he ⟨s1.heap.objs.size + 1, _, _, _, H1, rfl, I1.kept (t' := s1.toks) hk, turn_enum a (s1.heap.objs.size + 1) s1.heap.objs.size, ⟨⟨.none, he⟩, hit, Nat.succ_ne_self _⟩, new, q⟩
      · obtain ⟨its, rv, p', hz⟩ := I1.tuple hq
        have hlt : a < s1.heap.objs.size := by obtain ⟨o, ho, _⟩ := (show s1.heap.IsTuple a its.toArray from p'); exact Heap.lt_size ho
        exact call_enumT (show s1.heap.IsTuple a its.toArray from p') fun h' he hit hk => wpAny_pyIter_enum he ⟨s1.heap.objs.size + 1, _, _, _, H1, rfl, I1.kept (t' := s1.toks) hk, turn_enumT a (s1.heap.objs.size + 1) s1.heap.objs.size, ⟨⟨.none, he⟩, hit, Nat.succ_ne_self _, Nat.ne_of_lt hlt, Nat.ne_of_lt (Nat.lt_succ_of_lt hlt)⟩, new, q⟩
  exact Call_ (ld_blt I hg hm boot_enumerate (PyProof.Rows.callWith_type1 (thn (ha.run pos pins s σ H _ I h) go) hs rfl))
section
variable {K : PySem.W.Frag} {σ : L2.St} {H H' : Hp} {a : Addr} {xs : List V} {R : It → Hp → Prop} {ta : TA}
theorem w_iEA (h : ta σ H (dEA K R)) : iEnA K ta σ H R := h
theorem i_EA (h : SqA K H a xs) (k : ∀ J, Src J (fun H' => SqA K H' a xs ∧ (SqL K H a xs → SqL K H' a xs) ∧ (SqT K H a xs → SqT K H' a xs)) xs.length (fun i x H'' => ∃ T y, x = .ref T ∧ At H'' T (.tup [.int (i : Nat), y]) ∧ xs[i]? = some y) → R J H) : dEA K R [.ref a] H := by
  refine ⟨a, xs, rfl, ?_⟩
  rcases h with h | h
  · refine .inl ⟨h, k _ ⟨fun i H' hp hi => ⟨xs, xs[i], hp.2.1 h, List.getElem?_eq_getElem hi⟩, fun H' hp => ⟨xs, hp.2.1 h, Nat.le_refl _⟩, fun i H' x H'' hp hi hy => ?_⟩⟩
    obtain ⟨T, y, e1, e2, e3, f⟩ := hy
    exact ⟨by rw [e3]; exact Ex.new e2, T, y, e1, by rw [e3]; exact upd_same, f xs (hp.2.1 h)⟩
  · refine .inr ⟨h, k _ ⟨fun i H' hp hi => ⟨xs, xs[i], hp.2.2 h, List.getElem?_eq_getElem hi⟩, fun H' hp => ⟨xs, hp.2.2 h, Nat.le_refl _⟩, fun i H' x H'' hp hi hy => ?_⟩⟩
    obtain ⟨T, y, e1, e2, e3, f⟩ := hy
    exact ⟨by rw [e3]; exact Ex.new e2, T, y, e1, by rw [e3]; exact upd_same, f xs (hp.2.2 h)⟩
/-- slices of lists of anything -/
theorem w_slLVt {Q : VK} {i : Int} (h : SqL K H a xs) (h0 : 0 ≤ i) (q : ∀ p H2, Fr H p → Ex H H2 → At H2 p (.lst (xs.take i.toNat)) → Q (.ref p) H2) : rSlL K (.ref a) none (some i) H Q := w_slL h fun p H2 a b c => q p H2 a b (by rw [cut_to h0] at c; exact c)
theorem w_slLVf {Q : VK} {i : Int} (h : SqL K H a xs) (h0 : 0 ≤ i) (q : ∀ p H2, Fr H p → Ex H H2 → At H2 p (.lst (xs.drop i.toNat)) → Q (.ref p) H2) : rSlL K (.ref a) (some i) none H Q := w_slL h fun p H2 a b c => q p H2 a b (by rw [cut_from h0] at c; exact c)
end
/-! ### isinstance of a tuple, a list, None or a text with an own class -/
def kitBo (t : String) (y : Str) (K : PySem.W.Frag) : Bool := decide (PySem.W.kitOne K (.type t) (.ref (He.ga K y)) = some false)
theorem kitBo_ok {K : PySem.W.Frag} {t : String} {y : Str} (h : kitBo t y K = true) : PySem.W.kitOne K (.type t) (.ref (He.ga K y)) = some false := of_decide_eq_true h
theorem w_isiTC {K : PySem.W.Frag} {H : Hp} {Q : VK} {a C : Addr} {xs : List V} (ha : At H a (.tup xs)) (h : PySem.W.kitOne K (.type "tuple") (.ref C) = some false) (q : Q (.bl false) H) : rIsi K [.ref a, .ref C] H Q := ⟨_, _, .type "tuple", .ref C, false, rfl, .own C, .base (.tup ha), h, q⟩
theorem w_isiLC {K : PySem.W.Frag} {H : Hp} {Q : VK} {a C : Addr} {xs : List V} (ha : At H a (.lst xs)) (h : PySem.W.kitOne K (.type "list") (.ref C) = some false) (q : Q (.bl false) H) : rIsi K [.ref a, .ref C] H Q := ⟨_, _, .type "list", .ref C, false, rfl, .own C, .base (.lst ha), h, q⟩
end Z
namespace Z
open PySem L2
/-! ### // of great ints -/
/-- the model reckons i // j -/
def CDivZ (i j : Int) : Prop := 0 < j ∧ Builtin.divisionGoesByPylong i j = false
theorem CDivZ.of {i j : Int} (h : CDivW i j) : CDivZ i j := ⟨h.1, PyProof.noPylong_of_log2 h.2⟩
theorem cdivz {i j : Int} (h : 0 < j) (hi : i.natAbs < 2 ^ 13400) : CDivZ i j := by
  refine ⟨h, ?_⟩
  have h1 : i.natAbs.log2 < 13400 := PySem.Flt.log2_lt_of (by decide) hi
  have h2 : (if i == 0 then 0 else i.natAbs.log2 / 30 + 1) ≤ 447 := by
    split <;> omega
  show (decide ((if j == 0 then 0 else j.natAbs.log2 / 30 + 1) > 300) && decide ((if i == 0 then 0 else i.natAbs.log2 / 30 + 1) > (if j == 0 then 0 else j.natAbs.log2 / 30 + 1) + 150)) = false
  by_cases hj : (if j == 0 then 0 else j.natAbs.log2 / 30 + 1) > 300
  · rw [decide_eq_false (p := (if i == 0 then 0 else i.natAbs.log2 / 30 + 1) > (if j == 0 then 0 else j.natAbs.log2 / 30 + 1) + 150) (by omega), Bool.and_false]
  · rw [decide_eq_false hj, Bool.false_and]
theorem op_fdivP {X : Cx} : OpR X (binaryOp .FloorDiv) (rI CDivZ fun i j => .int (i / j)) := opI fun i j _ _ _ _ _ hc q => by
  have h1 : (0 : Int) < j := hc.1
  exact PyProof.Rows.floordiv_int (by omega) (by rw [Int.fdiv_eq_ediv_of_nonneg i (by omega)]; exact q) (.inl hc.2)
/-! ### a < b < c -/
section
variable {σ : L2.St} {H : Hp} {Q : VK} {ta tb tc : TE} {r r' : R2}
theorem w_chain (h : ta σ H fun x H1 => tb σ H1 fun y H2 => r x y H2 fun z H3 => ∃ k, z = .bl k ∧ (if k = true then tc σ H3 fun w' H4 => r' y w' H4 Q else Q (.bl false) H3)) : tChain r r' ta tb tc σ H Q := h
end
end Z
namespace Z
open PySem L2 PySem.Spec PyProof.Rows
/-! ### zip of two tuples, of two lists -/
theorem pi_zipA {X : Cx} {K : PySem.W.Frag} (hK : X.K = K) {e e2 : Expr} {ta : TA} {p pos tpos : Pos} {elts : List Expr} {kk : Nat} (hg : Gl X "zip") (hm : X.mg "zip" = none) (ha : PA X [e, e2] ta)
    (hs : starEach [e, e2] X.env = (false, eval e X.env) :: starEach [e2] X.env := by rfl) (hpl : (backTo pos (starEach [e2] X.env)).any (·.1) = false := by rfl) :
    PI X (.Tuple elts kk tpos) (.Call (.Name "zip" p) [e, e2] [] pos) (RZ.iZipA K ta) := hK ▸ RZ.pi_zipA hg hm ha hs hpl
def dZA (K : PySem.W.Frag) (R : It → Hp → Prop) : List V → Hp → Prop := fun vs H1 => ∃ a b xs ys, vs = [.ref a, .ref b] ∧ ((SqL K H1 a xs ∧ SqL K H1 b ys ∧ R (Itz K a b) H1) ∨ (SqT K H1 a xs ∧ SqT K H1 b ys ∧ R (RZ.ItzT K a b) H1))
section
variable {K : PySem.W.Frag} {σ : L2.St} {H H' : Hp} {a b : Addr} {xs ys : List V} {R : It → Hp → Prop} {ta : TA}
theorem w_iZA (h : ta σ H (dZA K R)) : RZ.iZipA K ta σ H R := h
theorem i_ZT (hx : SqT K H a xs) (hy : SqT K H b ys) (hl : xs.length = ys.length) (k : ∀ J, Src J (fun H' => SqT K H' a xs ∧ SqT K H' b ys) xs.length (fun i x H'' => ∃ T y z, x = .ref T ∧ At H'' T (.tup [y, z]) ∧ xs[i]? = some y ∧ ys[i]? = some z) → R J H) : dZA K R [.ref a, .ref b] H := by
  refine ⟨a, b, xs, ys, rfl, .inr ⟨hx, hy, k _ ⟨fun i H' hp hi => ⟨xs, ys, xs[i], ys[i]'(by omega), hp.1, hp.2, List.getElem?_eq_getElem hi, List.getElem?_eq_getElem (by omega)⟩, fun H' hp => ⟨xs, ys, hp.1, hp.2, .inl (Nat.le_refl _)⟩, fun i H' x H'' hp hi hy => ?_⟩⟩⟩
  obtain ⟨T, y, z, e1, e2, e3, f1, f2⟩ := hy
  exact ⟨by rw [e3]; exact Ex.new e2, T, y, z, e1, by rw [e3]; exact upd_same, f1 xs hp.1, f2 ys hp.2⟩
end
end Z
namespace Z
open PySem L2 PySem.Spec PyProof.Rows
/-! ### sets of ints -/
theorem cr_set0 {X : Cx} {w : World} (hw : X.w = w) : CallR X (.type "set") (rSet0 w) := hw ▸ L2.cr_set0
theorem or_sin {X : Cx} {w : World} (hw : X.w = w) : OpR X (compareOp .In) (rSIn w) := hw ▸ L2.or_sin
theorem pe_sadd {X : Cx} {w : World} (hw : X.w = w) {o e : Expr} {es : List Expr} {to : TE} {t : TA} {apos cpos : Pos} (ho : PE X o to) (ha : PA X (e :: es) t)
    (hbase : attributeBase o "add" X.env (eval o X.env) = eval o X.env := by rfl)
    (hfew : ((backTo cpos (starEach (e :: es) X.env)).all (fun x => !x.1) && (backToKw cpos (keywordEach [] X.env)).all (fun x => x.1.isSome)
      && decide ((e :: es).length + ([] : List Keyword).length + (if ([] : List Keyword).isEmpty then 0 else 1) < 30)) = true := by rfl)
    (hline : (apos.endLine == cpos.line) = true := by rfl) (hs : starEach (e :: es) X.env = (false, eval e X.env) :: starEach es X.env := by rfl) (hplain : (backTo cpos (starEach es X.env)).any (·.1) = false := by rfl) :
    PE X (.Call (.Attribute o "add" apos) (e :: es) [] cpos) (tSAdd w to t) := hw ▸ L2.pe_sadd ho ha hbase hfew hline hs hplain
section
variable {K : PySem.W.Frag} {w : World} {σ : L2.St} {H H' : Hp} {Q : VK} {a : Addr} {S : Int → Bool} {n : Nat} {k : Int}
theorem w_set0 (q : ∀ p H2, Fr H p → Ex H H2 → At H2 p (SetO w p (fun _ => false) 0) → Q (.ref p) H2) : rSet0 w [] H Q := ⟨rfl, fun p hp => q p _ hp (Ex.new hp) upd_same⟩
theorem w_tSAdd {to : TE} {t : TA} (h : to σ H fun x H1 => (∃ a S n, x = V.ref a ∧ H1 a = some (SetO w a S n)) ∧ t σ H1 fun xs H2 => rSAdd w x xs H2 Q) : tSAdd w to t σ H Q := h
theorem w_tyS {A : Prop} (h : At H a (SetO w a S n)) (q : A) : (∃ a' S n, V.ref a = V.ref a' ∧ H a' = some (SetO w a' S n)) ∧ A := ⟨⟨a, S, n, rfl, h⟩, q⟩
theorem w_sadd (h : At H a (SetO w a S n)) (hr : n + 1 < scanBound) (q : ∀ H2, At H2 a (SetO w a (fun j => S j || decide (j = k)) (if S k = true then n else n + 1)) → (∀ H0, Ex H0 H → Fr H0 a → Ex H0 H2) → (∀ b o, b ≠ a → At H b o → At H2 b o) → Q .non H2) : rSAdd w (.ref a) [.int k] H Q :=
  ⟨a, k, S, n, rfl, rfl, h, hr, q _ upd_same (fun H0 e n => Ex.mut e n) (fun b o hb e => by unfold At; rw [upd_ne hb]; exact e)⟩
theorem w_sin (h : At H a (SetO w a S n)) (q : Q (.bl (S k)) H) : rSIn w (.int k) (.ref a) H Q := ⟨k, a, S, n, rfl, rfl, h, q⟩
end
/-! ### an instance is called -/
/-- instances of the class x are called by the def __call__ of the class y -/
def callB (x y : Str) (K : PySem.W.Frag) : Bool := He.eqO (PySem.W.findIn K (.ref (He.ga K x)) "__call__") (some (some (.ref (He.ma K (He.ga K y) "__call__")))) && (PySem.W.isFn K (.ref (He.ma K (He.ga K y) "__call__")) && PySem.W.fnIn K (He.ma K (He.ga K y) "__call__"))
theorem callB_ok {K : PySem.W.Frag} {x y : Str} (c : callB x y K = true) : StX.CallO K (He.ga K x) (He.ma K (He.ga K y) "__call__") := by
  obtain ⟨c1, c⟩ := He.ba c
  obtain ⟨c2, c3⟩ := He.ba c
  exact ⟨He.eqO_ok c1, c2, c3⟩
def dCO (C : Addr) (sp : Sp) (E : XK) (t : TA) (σ : L2.St) (Q : VK) : VK := fun y H1 => ∃ a, y = V.ref a ∧ t σ H1 fun vs H2 => (∃ dx fs, At H2 a (.ins C dx fs)) ∧ sp (V.ref a :: vs) H2 Q E
def tCO (C : Addr) (sp : Sp) (E : XK) (tf : TE) (t : TA) : TE := fun σ H Q => tf σ H (dCO C sp E t σ Q)
theorem pe_callO {X : Cx} {CX : CXT} {k : Nat} {C g : Addr} {sp : Sp} {E : XK} {fe e : Expr} {es : List Expr} {tf : TE} {t : TA} {pos : Pos} (hf : PE X fe tf) (c : StX.CallO X.K C g) (F : FnR X.prog X.w X.K X.mg X.base CX k g sp) (hr : Room k X.A) (hx : Passes CX X E) (ha : PA X (e :: es) t)
    (ht : eval (.Call fe (e :: es) [] pos) X.env = (do callWith pos (← eval fe X.env) [] (backTo pos (starEach (e :: es) X.env)) (backToKw pos (keywordEach [] X.env))) := by rfl)
    (he : starEach (e :: es) X.env = (false, eval e X.env) :: starEach es X.env := by rfl) (hpl : (backTo pos (starEach es X.env)).any (·.1) = false := by rfl) : PE X (.Call fe (e :: es) [] pos) (tCO C sp E tf t) := by
  refine ⟨fun pins s σ H Q I h => ?_⟩
  refine Call_ (thn (hf.run pins s σ H _ I h) fun u s1 ⟨y, H1, I1, ry, a, ey, q⟩ => ?_) ht
  subst ey
  obtain rfl : u = Value.ref a := ry
  refine StX.callO_with (thn (ha.run pos pins s1 σ H1 _ I1 q) fun us s2 ⟨vs, H2, I2, r, ⟨dx, fs, hi⟩, q2⟩ => ?_) he hpl
  have hI : StX.InsC X H2 a C := .inr ⟨dx, fs, hi⟩
  obtain ⟨ox, od, J, hd⟩ := StX.insC_at I2 hI
  exact ⟨⟨C, ox, od, J, hd⟩, StX.run_callO c F hr hx I2 hI r q2⟩
section
variable {σ : L2.St} {H : Hp} {Q : VK} {C a dx : Addr} {fs : List (Str × V)} {sp : Sp} {E : XK} {tf : TE} {t : TA}
theorem w_tCO (h : tf σ H (dCO C sp E t σ Q)) : tCO C sp E tf t σ H Q := h
theorem w_dCO (q : t σ H fun vs H2 => (∃ dx fs, At H2 a (.ins C dx fs)) ∧ sp (V.ref a :: vs) H2 Q E) : dCO C sp E t σ Q (.ref a) H := ⟨a, rfl, q⟩
theorem w_insC {A : Prop} (h : At H a (.ins C dx fs)) (q : A) : (∃ dx fs, At H a (.ins C dx fs)) ∧ A := ⟨⟨dx, fs, h⟩, q⟩
end
end Z
namespace Z
open PySem L2 PySem.Spec PyProof.Rows
/-! ### list * int, list.extend -/
section
variable {K : PySem.W.Frag} {H : Hp} {Q : VK} {a b : Addr} {xs ys : List V} {k : Int}
theorem w_rep (h : At H a (.lst xs)) (h1 : 0 ≤ k) (h2 : k ≤ 1000) (h3 : xs.length ≤ 1000) (q : ∀ p H2, Fr H p → Ex H H2 → At H2 p (.lst (List.replicate k.toNat xs).flatten) → Q (.ref p) H2) : rRep (.ref a) (.int k) H Q :=
  ⟨a, k, xs, rfl, rfl, h, by omega, by omega, by
    have := Nat.mul_le_mul h3 (show k.toNat ≤ 1000 by omega)
    show _ ≤ 16777216
    omega, fun p hp => q p _ hp (Ex.new hp) upd_same⟩
theorem w_ext (h : At H a (.lst xs)) (h2 : At H b (.lst ys)) (hz : xs.length + ys.length ≤ sizeLine) (q : ∀ H2, At H2 a (.lst (xs ++ ys)) → Nl H H2 → (∀ H0, Ex H0 H → Fr H0 a → Ex H0 H2) → (∀ b o, b ≠ a → At H b o → At H2 b o) → Q .non H2) : rExtend (.ref a) [.ref b] H Q :=
  ⟨a, b, xs, ys, rfl, rfl, h, h2, hz, q _ upd_same (Nl.upd h) (fun H0 e n => Ex.mut e n) (fun b o hb e => by unfold At; rw [upd_ne hb]; exact e)⟩
end
end Z
namespace Z
open PySem L2 PySem.Spec PyProof.Rows
/-! ### a def that captures the cell of its class and has cells of its own -/
theorem cells_app : ∀ (nms : List (Str × NameKind)) (n : Nat) (acc : List (Str × Addr)), cellsFrom n nms acc = cellsFrom n nms [] ++ acc
  | [], n, acc => rfl
  | (x, k) :: r, n, acc => by
    show (if k == .cell then cellsFrom (n + 1) r ((x, n) :: acc) else cellsFrom n r acc) = (if k == .cell then cellsFrom (n + 1) r [(x, n)] else cellsFrom n r []) ++ acc
    by_cases e : (k == .cell) = true
    · rw [if_pos e, if_pos e, cells_app r (n + 1) ((x, n) :: acc), cells_app r (n + 1) [(x, n)], List.append_assoc]
      rfl
    · rw [if_neg e, if_neg e]
      exact cells_app r n acc
theorem cells_mem : ∀ (nms : List (Str × NameKind)) (n : Nat) {y : Str} {c : Addr}, (cellsFrom n nms []).lookup y = some c → (y, NameKind.cell) ∈ nms
  | [], n, y, c, h => by cases h
  | (x, k) :: r, n, y, c, h => by
    have h : (if k == .cell then cellsFrom (n + 1) r [(x, n)] else cellsFrom n r []).lookup y = some c := h
    by_cases e : (k == .cell) = true
    · rw [if_pos e, cells_app, List.lookup_append] at h
      cases z : (cellsFrom (n + 1) r []).lookup y with
      | some d => exact List.mem_cons_of_mem _ (cells_mem r (n + 1) z)
      | none =>
        rw [z] at h
        simp only [Option.none_or, List.lookup] at h
        split at h
        · rename_i g
          have g : y = x := by simpa using g
          have e : k = .cell := by simpa using e
          rw [g, e]
          exact List.mem_cons_self
        · cases h
    · rw [if_neg e] at h
      exact List.mem_cons_of_mem _ (cells_mem r n h)
abbrev ownC (L : Addr) (sc : Scope) : List (Str × Addr) := cellsFrom (L + 1) sc.names []
section
variable {M : Model} {A : Around} {E : Value → Shared → Prop} {s₀ s : Shared} {m cm : Str → Option Value} {env : Env} {own : List (Str × Addr)}
theorem putL {n : Str} {v : Value} {Q : Unit → Shared → Prop} (x : InCallC s₀ env.locals m own cm s) (fk : env.scope.kind = .function) (kl : env.kindOf n = some .local)
    (q : ∀ s', InCallC s₀ env.locals (fun y => if y = n then some v else m y) own cm s' → Q () s') : wpAny M A (storeName env n v) Q E s := by
  obtain ⟨⟨⟨h1, tk, e1⟩, ns, kp, fr⟩, cl, ap, ab⟩ := x
  subst e1
  refine wpAny_storeName_local kl ns (fun h2 n2 b2 => q _ ⟨⟨⟨h2, _, rfl⟩, n2, fun b o e => ?_, fr⟩, fun k c z => ?_, ap, ab⟩) (by rw [fk]; rfl)
  · have lt := Nat.lt_of_lt_of_le (Heap.lt_size e) fr
    exact b2.extBut b o (Nat.ne_of_lt lt) (kp b o e)
  · have lt := ab k c (mem_of_lookup z)
    exact (cl k c z).sameBut b2 (Nat.ne_of_gt lt)
theorem putC {n : Str} {c : Addr} {v : Value} {Q : Unit → Shared → Prop} (x : InCallC s₀ env.locals m own cm s) (fk : env.scope.kind = .function) (kc : env.kindOf n = some .cell) (ho : own.lookup n = some c) (he : env.cells.lookup n = some c)
    (q : ∀ s', InCallC s₀ env.locals m own (fun y => if y = n then some v else cm y) s' → Q () s') : wpAny M A (storeName env n v) Q E s := by
  obtain ⟨⟨⟨h1, tk, e1⟩, ns, kp, fr⟩, cl, ap, ab⟩ := x
  subst e1
  have hc := mem_of_lookup ho
  have hL := ab n c hc
  refine wpAny_storeName_cell fk kc he (cl n c ho) fun h2 i2 b2 => q _ ⟨⟨⟨h2, _, rfl⟩, ns.sameBut b2 (Nat.ne_of_lt hL), fun b o e => ?_, fr⟩, fun k c' z => ?_, ap, ab⟩
  · have lt := Nat.lt_trans (Nat.lt_of_lt_of_le (Heap.lt_size e) fr) hL
    exact b2.extBut b o (Nat.ne_of_lt lt) (kp b o e)
  · by_cases g : k = n
    · subst g
      cases ho.symm.trans z
      rw [if_pos rfl]
      exact i2
    · rw [if_neg g]
      refine (cl k c' z).sameBut b2 fun w => g ?_
      subst w
      exact name_of_addr ap (mem_of_lookup z) hc
theorem putAll (f : Str × Value → PUnit → Sem (ForInStep PUnit)) (hf : ∀ n v u, f (n, v) u = (storeName env n v >>= fun _ => pure (.yield ⟨⟩))) (fk : env.scope.kind = .function) (hown : ∀ n c, own.lookup n = some c → env.cells.lookup n = some c) :
    ∀ (bs : List (Str × Value)) (m cm : Str → Option Value) (s : Shared) (Q : PUnit → Shared → Prop), InCallC s₀ env.locals m own cm s → (∀ y ∈ bs, env.kindOf y.1 = some .local ∨ (env.kindOf y.1 = some .cell ∧ (own.lookup y.1).isSome = true)) →
      (∀ s', InCallC s₀ env.locals (bindL env.kindOf bs m) own (bindC env.kindOf bs cm) s' → Q ⟨⟩ s') → wpAny M A (forIn bs ⟨⟩ f) Q E s
  | [], m, cm, s, Q, x, _, q => by
    rw [List.forIn_nil]
    exact wpAny_pure (q s x)
  | (n, v) :: r, m, cm, s, Q, x, hk, q => by
    rw [List.forIn_cons, hf]
    have kr := fun y hy => hk y (List.mem_cons_of_mem _ hy)
    unfold bindL bindC at q
    refine wpAny_bind (wpAny_bind ?_)
    rcases hk (n, v) List.mem_cons_self with kl | ⟨kc, hc⟩
    · rw [if_pos kl, if_pos kl] at q
      exact putL x fk kl fun s2 x2 => wpAny_pure (putAll f hf fk hown r _ _ s2 Q x2 kr q)
    · have nl : ¬ env.kindOf n = some .local := by rw [kc]; decide
      rw [if_neg nl, if_neg nl] at q
      obtain ⟨c, hc⟩ := Option.isSome_iff_exists.mp hc
      exact putC x fk kc hc (hown n c hc) fun s2 x2 => wpAny_pure (putAll f hf fk hown r _ _ s2 Q x2 kr q)
theorem newEnv_cl {sc : Scope} {gl : Addr} {cl : List (Str × Addr)} {bs : List (Str × Value)} {qual : Str} {fn : Option Addr} {cd : Value} {blt : Addr} {Q : Env → Shared → Prop} (fk : sc.kind = .function)
    (hk : ∀ y ∈ bs, sc.names.lookup y.1 = some .local ∨ (sc.names.lookup y.1 = some .cell ∧ ((ownC s.heap.objs.size sc).lookup y.1).isSome = true))
    (q : ∀ s', InCallC s s.heap.objs.size (bindL (newEnv sc s.heap.objs.size gl (ownC s.heap.objs.size sc ++ cl) qual fn cd none blt).kindOf bs fun _ => none) (ownC s.heap.objs.size sc) (bindC (newEnv sc s.heap.objs.size gl (ownC s.heap.objs.size sc ++ cl) qual fn cd none blt).kindOf bs fun _ => none) s' →
      Q (newEnv sc s.heap.objs.size gl (ownC s.heap.objs.size sc ++ cl) qual fn cd none blt) s') : wpAny M A (newFunctionEnv sc gl cl bs qual fn cd none blt) Q E s := by
  simp only [newFunctionEnv, Option.isSome_none, Bool.false_eq_true, if_false]
  refine wpAny_bind (wpAny_alloc (wpAny_bind (wpAny_layCells _ (fun x k cs => by cases e : k == NameKind.cell <;> simp [e]) _ _ _ _ ?_)))
  have ok := cellsFrom_ok sc.names (s.heap.push { cls := .type "frame", data := .dict #[] }) (s.heap.objs.size + 1) [] ⟨fun _ _ z => (nomatch z), List.Pairwise.nil⟩ (by rw [Heap.size_push]; exact Nat.le_refl _)
  have es : ({ s with heap := s.heap.push { cls := .type "frame", data := .dict #[] } } : Shared).heap.objs.size = s.heap.objs.size + 1 := Heap.size_push ..
  rw [Heap.size_push] at ok
  rw [es, cells_app]
  have kp := fun b o (e : s.heap.get? b = some o) => pushCells_keeps sc.names _ b o (Heap.get?_push_of_some { cls := .type "frame", data := .dict #[] } e)
  refine wpAny_bind (putAll (s₀ := s) (own := ownC s.heap.objs.size sc) (env := newEnv sc s.heap.objs.size gl (ownC s.heap.objs.size sc ++ cl) qual fn cd none blt) _ (fun _ _ _ => rfl) fk (fun n c e => ?_) bs (fun _ => none) (fun _ => none) _ _ ⟨⟨⟨_, _, rfl⟩, ?_, kp, Nat.le_refl _⟩, ?_, ok.apart, ?_⟩ hk fun s2 x => wpAny_pure (q s2 x))
  · show (ownC s.heap.objs.size sc ++ cl).lookup n = some c
    rw [List.lookup_append, e]
    rfl
  · exact (Heap.Ns.new s.heap (.type "frame")).keeps (pushCells_keeps _ _)
  · exact fun n c e => (ok.empty n c (mem_of_lookup e)).1
  · exact fun n c e => (ok.empty n c e).2
end
/-- its names: the parameters, the class's cell, its locals -/
structure SScope (N ps fr : List Str) (sc : Scope) : Prop where
  kind : sc.kind = .function
  co : sc.isCoroutine = false
  gen : sc.isGenerator = false
  nd : N.Nodup
  pre : N.take (ps.length + fr.length) = ps ++ fr
  par : ∀ x ∈ ps, sc.names.lookup x = some .local ∨ sc.names.lookup x = some .cell
  free : ∀ y ∈ sc.names, y.2 = .free → y.1 ∈ fr
  frk : ∀ x ∈ fr, sc.names.lookup x = some .free
  ncl : ∀ y ∈ sc.names, y.2 = .cell → y.1 ∉ fr
def sscB (N ps fr : List Str) (sc : Scope) : Bool :=
  decide (sc.kind = .function) && (!sc.isCoroutine && (!sc.isGenerator && (decide N.Nodup && (decide (N.take (ps.length + fr.length) = ps ++ fr) && (ps.all (fun x => decide (sc.names.lookup x = some .local ∨ sc.names.lookup x = some .cell)) && (sc.names.all (fun y => decide (y.2 = .free → y.1 ∈ fr)) && (fr.all (fun x => decide (sc.names.lookup x = some .free)) && sc.names.all (fun y => decide (y.2 = .cell → y.1 ∉ fr)))))))))
theorem sscope_by {N ps fr : List Str} {sc : Scope} (h : sscB N ps fr sc = true) : SScope N ps fr sc := by
  unfold sscB at h
  simp only [Bool.and_eq_true, Bool.not_eq_true', decide_eq_true_eq, List.all_eq_true] at h
  obtain ⟨h1, h2, h3, h4, h5, h6, h7, h8, h9⟩ := h
  exact ⟨h1, h2, h3, h4, h5, h6, h7, h8, h9⟩
/-- the context of such a body -/
def scx (CX : CXT) (P : Program) (w : World) (K : PySem.W.Frag) (mg : Str → Option Value) (base : Heap) (N : List Str) (F : NdefX.NF) (f : Addr) (A : Around) (outer : List Env) (s : Shared) (H : Hp) (E : XK) : Cx :=
  { NdefX.ncx CX P w K mg base N F f A outer s H E with fn := fun y => match F.scope.names.lookup y with | some .cell => true | _ => false }
theorem inv_scx {CX : CXT} {P : Program} {w : World} {K : PySem.W.Frag} {mg : Str → Option Value} {base : Heap} {N ps : List Str} {x0 qual : Str} {params : Arguments} {body : List Stmt} {scope : Scope} {cda cc f : Addr} {A : Around} {outer : List Env} {s s1 : Shared} {H : Hp} {E : XK} {us : List Value} {vs : List V}
    (S : SScope N ps ["__class__"] scope) (hd : A.handled = none) (e0 : Env0 P w K mg base A outer s H) (hl : vs.length = ps.length) (r : Vals vs us) (hcc : H cc = none) (hcv : ∃ v, s.heap.IsCell cc v)
    (x : InCallC s s.heap.objs.size (bindL (fun y => scope.names.lookup y) (ps.zip us) fun _ => none) (ownC s.heap.objs.size scope) (bindC (fun y => scope.names.lookup y) (ps.zip us) fun _ => none) s1) :
    Inv (scx CX P w K mg base N ⟨x0, qual, params, body, scope, ownC s.heap.objs.size scope ++ [(("__class__" : Str), cc)], cda⟩ f A outer s H E) [] (NdefX.startF N vs [none]) H s1 := by
  have hpl : ps.length + 1 ≤ N.length := by
    have z := congrArg List.length S.pre
    rw [List.length_take, List.length_append, List.length_singleton] at z
    omega
  obtain ⟨h1, tk, e1, kp⟩ := x.done
  subst e1
  have noA : ∀ (b : Addr) (z : b ∈ ([] : List Addr)), False := fun b z => by cases z
  obtain ⟨v0, hcv⟩ := hcv
  have hck : h1.IsCell cc v0 := hcv.keeps kp
  have lk : ∀ y c, (ownC s.heap.objs.size scope ++ [(("__class__" : Str), cc)]).lookup y = some c → (ownC s.heap.objs.size scope).lookup y = some c ∨ (y = "__class__" ∧ c = cc) := fun y c e => by
    rw [List.lookup_append] at e
    cases z : (ownC s.heap.objs.size scope).lookup y with
    | some d => rw [z] at e; cases e; exact .inl rfl
    | none =>
      rw [z] at e
      simp only [Option.none_or, List.lookup] at e
      split at e
      · rename_i g; exact .inr ⟨by simpa using g, (Option.some.inj e).symm⟩
      · cases e
  have ltc : cc < s.heap.objs.size := hcv.lt
  have gt : ∀ y c, (ownC s.heap.objs.size scope).lookup y = some c → s.heap.objs.size < c := fun y c e => x.above y c (PySem.mem_of_lookup e)
  have has : ∀ y, scope.names.lookup y = some .cell → ∃ c, (ownC s.heap.objs.size scope).lookup y = some c := fun y e => cell_has e
  have dom : ∀ y c, (ownC s.heap.objs.size scope ++ [(("__class__" : Str), cc)]).lookup y = some c → (∃ v, h1.IsCell c v) ∧ H c = none := fun y c e => by
    rcases lk y c e with z | ⟨_, rfl⟩
    · exact ⟨⟨_, x.cell y c z⟩, e0.hok.fresh (Nat.le_of_lt (gt y c z))⟩
    · exact ⟨⟨_, hck⟩, hcc⟩
  refine ⟨⟨e0.mod, S.kind, rfl, rfl, Nat.le_refl _, fun y z c g1 g2 => ?_, fun y hy => ?_, fun y c z g => ?_, fun _ => hd, Around.frames_deeper e0.frames, .inr ⟨rfl, rfl⟩, fun b z => (noA b z).elim, e0.bs, e0.bsz, fun b _ _ z => noA b z, fun b z => (noA b z).elim, e0.funs, e0.frf⟩,
    rfl, e0.bare, Un.kept kp, ⟨_, x.toInCall.ns, fun i y v g1 g2 g3 => ?_⟩, fun y c e => (dom y c e).1, e0.hok.fresh (Nat.le_refl _), fun y c e => (dom y c e).2, fun p hp => absurd (show p ∈ ([] : List (Addr × Obj)) ++ [] from hp) (by simp), e0.hok.kept kp, ?_⟩
  · rcases lk y c g1 with a1 | ⟨a1, b1⟩
    · rcases lk z c g2 with a2 | ⟨a2, b2⟩
      · exact name_of_addr x.apart (PySem.mem_of_lookup a1) (PySem.mem_of_lookup a2)
      · exact absurd (b2 ▸ gt y c a1) (Nat.not_lt.mpr (Nat.le_of_lt ltc))
    · rcases lk z c g2 with a2 | ⟨a2, b2⟩
      · exact absurd (b1 ▸ gt z c a2) (Nat.not_lt.mpr (Nat.le_of_lt ltc))
      · rw [a1, a2]
  · have hy : scope.names.lookup y = some .cell ∨ scope.names.lookup y = some .free := hy
    show ∃ c, (ownC s.heap.objs.size scope ++ [(("__class__" : Str), cc)]).lookup y = some c
    rw [List.lookup_append]
    rcases hy with hy | hy
    · obtain ⟨c, e⟩ := has y hy
      exact ⟨c, by rw [e]; rfl⟩
    · have hm := List.mem_singleton.mp (S.free _ (PySem.mem_of_lookup hy) rfl)
      have hm : y = "__class__" := hm
      subst hm
      cases (ownC s.heap.objs.size scope).lookup ("__class__" : Str) with
      | some c => exact ⟨c, rfl⟩
      | none => exact ⟨cc, by simp [List.lookup]⟩
  · have z : (match scope.names.lookup y with | some .cell => true | _ => false) = true := z
    have hy : scope.names.lookup y = some .cell := by
      split at z
      · assumption
      · cases z
    obtain ⟨d, e⟩ := has y hy
    have g : (ownC s.heap.objs.size scope ++ [(("__class__" : Str), cc)]).lookup y = some c := g
    rw [List.lookup_append, e] at g
    cases g
    exact Nat.le_of_lt (gt y _ e)
  · have g1 : N[i]? = some y := g1
    unfold NdefX.startF at g2
    by_cases hi : i < ps.length
    · have hq : (ps ++ [("__class__" : Str)])[i]? = some y := by
        rw [← S.pre, List.getElem?_take_of_lt (by rw [List.length_singleton]; omega)]
        exact g1
      rw [List.getElem?_append_left hi] at hq
      rw [List.getElem?_append_left (by rw [List.length_map]; omega), List.getElem?_map] at g2
      have ha : vs[i]? = some v := by
        cases e : vs[i]? with
        | none => rw [e] at g2; cases g2
        | some a => rw [e] at g2; cases g2; rfl
      obtain ⟨u, hu, rv⟩ := r.get ha
      have nd : ps.Nodup := by
        have z := S.nd.sublist (List.take_sublist (ps.length + [("__class__" : Str)].length) N)
        rw [S.pre] at z
        exact (List.nodup_append.mp z).1
      refine ⟨u, rv, ?_⟩
      rcases S.par y (List.mem_of_getElem? hq) with k | k
      · exact .inl ⟨k, bindL_get nd hq hu k⟩
      · obtain ⟨c, e⟩ := has y k
        have hc := x.cell y c e
        rw [bindC_get nd hq hu (by rw [k]; decide)] at hc
        refine .inr ⟨.inl k, c, ?_, hc⟩
        show (ownC s.heap.objs.size scope ++ [(("__class__" : Str), cc)]).lookup y = some c
        rw [List.lookup_append, e]
        rfl
    · rw [List.getElem?_append_right (by rw [List.length_map]; omega), List.length_map] at g2
      by_cases h2 : i - vs.length < 1
      · have e0 : i - vs.length = 0 := by omega
        rw [e0] at g2
        cases g2
      · rw [List.getElem?_append_right (by rw [List.length_singleton]; omega), List.getElem?_replicate] at g2
        split at g2 <;> cases g2
  · unfold NdefX.startF
    show _ = N.length
    rw [List.length_append, List.length_append, List.length_map, List.length_replicate, List.length_singleton]
    omega
/-- THE RULE for such a def; its first statement says super() -/
theorem FunS.okC {CX : CXT} {P : Program} {w : World} {K : PySem.W.Frag} {mg : Str → Option Value} {base : Heap} {x qual x0 : Str} {params : Arguments} {st : Stmt} {rest : List Stmt} {scope : Scope} {D f : Addr} {fd : FuncData} {N ps : List Str} {k : Nat} {sp : Sp} {ar : Arg}
    (F : FunS P K x qual params (st :: rest) scope D f fd) (S : SScope N ps ["__class__"] scope) (hs : scope.names.lookup ("super" : Str) = some .globalImplicit) (hp : (params.posonlyargs ++ params.args).head? = some ar) (har : ar.arg = x0) (hN : N[0]? = some x0) (hx : scope.names.lookup x0 = some .local ∨ scope.names.lookup x0 = some .cell) (hxd : (x0 == ("__classdict__" : Str)) = false)
    (top : (P.main.scope.names.lookup ("super" : Str)).isSome = false) (hm : mg "super" = none) (hD : ∃ cd, PySem.W.clsIn K D = some cd) (hnc : scope.names.lookup ("__class__" : Str) = some .free) (len : ∀ vs H Q E, sp vs H Q E → vs.length = ps.length)
    (hbody : ∀ (cc cda : Addr) (A : Around) (outer : List Env) (s : Shared) (H : Hp) (vs : List V) (Q : VK) (E : XK), Room k (A.deeper (PySem.W.envX qual scope s.heap.objs.size f (.ref cda) (ownC s.heap.objs.size scope ++ [(("__class__" : Str), cc)]))) → sp vs H Q E →
      SupX (scx CX P w K mg base N ⟨x, qual, params, st :: rest, scope, ownC s.heap.objs.size scope ++ [(("__class__" : Str), cc)], cda⟩ f A outer s H E) D f x0 →
      ∃ t1 t2, PSat (scx CX P w K mg base N ⟨x, qual, params, st :: rest, scope, ownC s.heap.objs.size scope ++ [(("__class__" : Str), cc)], cda⟩ f A outer s H E) (.func (st :: rest) (PySem.W.envX qual scope s.heap.objs.size f (.ref cda) (ownC s.heap.objs.size scope ++ [(("__class__" : Str), cc)]))) st t1 ∧
        PSs (scx CX P w K mg base N ⟨x, qual, params, st :: rest, scope, ownC s.heap.objs.size scope ++ [(("__class__" : Str), cc)], cda⟩ f A outer s H E) rest t2 ∧ tSeq t1 t2 { nx := fun _ H' => Q .non H', rt := Q } (NdefX.startF N vs [none]) H) : FnOk P w K mg base CX (k + 1) f fd ps sp := by
  obtain ⟨oc, od, doc, pm, an, cda, ct, osl, cc, rfl, lk, hcd, ⟨cl1, cd1, cs1, hcell⟩, cl2, cd2, vs2, cs2, file, tf, hcode, hvs2, hfile⟩ := F.ex
  refine ⟨len, fun A outer s H args us vs Q E hr e0 hb r hsp => ?_⟩
  have hl := len _ _ _ _ hsp
  have KX : K.In s.heap := e0.mod.kin.keeps fun b o e => (e0.bs b o e).1
  have lim : s.heap.NoLimit := e0.mod.nolimit.keeps fun b o e => (e0.bs b o e).1
  have hk : ∀ y ∈ ps.zip us, scope.names.lookup y.1 = some .local ∨ (scope.names.lookup y.1 = some .cell ∧ ((ownC s.heap.objs.size scope).lookup y.1).isSome = true) := fun y hy => by
    rcases S.par y.1 (List.of_mem_zip hy).1 with z | z
    · exact .inl z
    · obtain ⟨c, e⟩ := cell_has (n := s.heap.objs.size + 1) z
      exact .inr ⟨z, by show ((ownC s.heap.objs.size scope).lookup y.1).isSome = true; rw [e]; rfl⟩
  refine codeAny_call_function hr.depth (KX _ _ lk) rfl S.co S.gen rfl (PySem.W.codeRec_of KX hcd) (hb _ _ _ _ ?_)
  refine newEnv_cl S.kind hk fun s1 xx => ⟨lim.keeps xx.toInCall.keep, PySem.ks_codeAny_funcAt ?_⟩
  have zc := e0.mod.kin _ _ hcell
  have I := inv_scx (CX := CX) (E := E) (f := f) (x0 := x) (qual := qual) (params := params) (body := st :: rest) (cda := cda) S hr.hd e0 hl r (e0.bs _ _ zc).2 ⟨_, _, KX _ _ hcell, rfl⟩ xx
  have hcl : (ownC s.heap.objs.size scope ++ [(("__class__" : Str), cc)]).lookup ("__class__" : Str) = some cc := by
    rw [List.lookup_append]
    cases z : (ownC s.heap.objs.size scope).lookup ("__class__" : Str) with
    | none => simp [List.lookup]
    | some c => exact absurd (List.mem_singleton_self _) (S.ncl _ (cells_mem _ _ z) rfl)
  have SX : SupX (scx CX P w K mg base N ⟨x, qual, params, st :: rest, scope, ownC s.heap.objs.size scope ++ [(("__class__" : Str), cc)], cda⟩ f A outer s H E) D f x0 :=
    ⟨hs, hnc, rfl, ⟨_, _, _, _, ar, lk, hp, har⟩, ⟨cda, _, _, _, _, file, tf, rfl, hcode, hvs2, hfile⟩, top, hN, hx.elim .inl fun z => .inr (.inl z), hxd, ⟨cc, _, _, _, hcl, hcell⟩, hm, hD⟩
  obtain ⟨t1, t2, p1, p2, hq⟩ := hbody cc cda A outer s H vs Q E (hr.deeper _) hsp SX
  have fin : ∀ {σ' : L2.St} {H' : Hp} {v : V} {u : Value} {s' : Shared}, Inv (scx CX P w K mg base N ⟨x, qual, params, st :: rest, scope, ownC s.heap.objs.size scope ++ [(("__class__" : Str), cc)], cda⟩ f A outer s H E) [] σ' H' s' → RelV v u → Q v H' → CE outer P w H s Q u s' :=
    fun {σ' H' v u s'} J rv q => ⟨v, H', J.os, J.bare, J.base, J.hok, rv, q⟩
  refine PySem.ks_wpAt_execs_cons (PySem.ks_wpAt_mono (p1.run [] _ _ H _ I hq) (fun fl s' z => ?_) fun e s' z => z)
  cases fl with
  | brk => obtain ⟨_, _, _, q⟩ := z; exact q.elim
  | cont => obtain ⟨_, _, _, q⟩ := z; exact q.elim
  | ret u =>
    obtain ⟨v, σ', H', J, rv, q⟩ := z
    exact fin J rv q
  | next =>
    obtain ⟨σ', H', J, q⟩ := z
    refine wpAt_of_wpAny (wpAny_mono (p2.run [] s' σ' H' _ J q) (fun fl s2 z2 => ?_) fun e s2 z2 => z2)
    cases fl with
    | brk => obtain ⟨_, _, _, q⟩ := z2; exact q.elim
    | cont => obtain ⟨_, _, _, q⟩ := z2; exact q.elim
    | ret u =>
      obtain ⟨v, σ2, H2, J2, rv, q⟩ := z2
      exact fin J2 rv q
    | next =>
      obtain ⟨σ2, H2, J2, q⟩ := z2
      exact fin (v := V.non) (u := Value.none) J2 rfl q
end Z
namespace Z
open PySem L2 StX PySem.Spec PyProof.Rows
/-! ### a def with a star parameter whose second statement says super() -/
def StarSp (n : Nat) (sp : Sp) : Sp := fun vs H Q E => ∃ ws rest, vs = ws ++ rest ∧ ws.length = n ∧ rest.length ≤ sizeLine ∧ ∀ p, H p = Option.none → sp (ws ++ [V.ref p]) (upd H p (.tup rest)) Q E
def BindsS (fd : FuncData) (ps : List Str) (pv : Str) : Prop := ∀ us rest : List Value, us.length = ps.length → bindArgs fd ⟨us ++ rest, []⟩ = (newTuple rest >>= fun t => pure (ps.zip us ++ [(pv, t)]))
theorem FunS.bindsS {P : Program} {K : PySem.W.Frag} {x qual pv : Str} {params : Arguments} {body : List Stmt} {scope : Scope} {D f : Addr} {fd : FuncData} {ps : List Str} (F : FunS P K x qual params body scope D f fd)
    (h : ∀ (cl : List (Str × Addr)) (doc pm : Value) (an : Option Addr) (c1 c2 : Value) (us rest : List Value), us.length = ps.length → bindArgs (PySem.W.fnX x qual params body scope cl .none .none doc pm an c1 c2) ⟨us ++ rest, []⟩ = (newTuple rest >>= fun t => pure (ps.zip us ++ [(pv, t)]))) : BindsS fd ps pv := by
  obtain ⟨oc, od, doc, pm, an, cda, ct, osl, cc, rfl, _⟩ := F.ex
  exact fun us rest hl => h _ _ _ _ _ _ us rest hl
theorem FunS.okS {CX : CXT} {P : Program} {w : World} {K : PySem.W.Frag} {mg : Str → Option Value} {base : Heap} {x qual x0 pv : Str} {params : Arguments} {st0 st : Stmt} {rest : List Stmt} {scope : Scope} {D f : Addr} {fd : FuncData} {N ps : List Str} {k : Nat} {sp : Sp} {ar : Arg}
    (F : FunS P K x qual params (st0 :: st :: rest) scope D f fd) (S : SScope N (ps ++ [pv]) ["__class__"] scope) (hCX : CXUp CX) (hbs : BindsS fd ps pv) (hs : scope.names.lookup ("super" : Str) = some .globalImplicit) (hp : (params.posonlyargs ++ params.args).head? = some ar) (har : ar.arg = x0) (hN : N[0]? = some x0) (hx : scope.names.lookup x0 = some .local ∨ scope.names.lookup x0 = some .cell) (hxd : (x0 == ("__classdict__" : Str)) = false)
    (top : (P.main.scope.names.lookup ("super" : Str)).isSome = false) (hm : mg "super" = Option.none) (hD : ∃ cd, PySem.W.clsIn K D = some cd) (hnc : scope.names.lookup ("__class__" : Str) = some .free)
    (hbody : ∀ (cc cda : Addr) (A : Around) (outer : List Env) (s : Shared) (H : Hp) (vs : List V) (Q : VK) (E : XK), Room k (A.deeper (PySem.W.envX qual scope s.heap.objs.size f (.ref cda) (ownC s.heap.objs.size scope ++ [(("__class__" : Str), cc)]))) → sp vs H Q E →
      SupX (scx CX P w K mg base N ⟨x, qual, params, st0 :: st :: rest, scope, ownC s.heap.objs.size scope ++ [(("__class__" : Str), cc)], cda⟩ f A outer s H E) D f x0 →
      ∃ t0 t1 t2, PS (scx CX P w K mg base N ⟨x, qual, params, st0 :: st :: rest, scope, ownC s.heap.objs.size scope ++ [(("__class__" : Str), cc)], cda⟩ f A outer s H E) st0 t0 ∧
        PSat (scx CX P w K mg base N ⟨x, qual, params, st0 :: st :: rest, scope, ownC s.heap.objs.size scope ++ [(("__class__" : Str), cc)], cda⟩ f A outer s H E) (.func (st0 :: st :: rest) (PySem.W.envX qual scope s.heap.objs.size f (.ref cda) (ownC s.heap.objs.size scope ++ [(("__class__" : Str), cc)]))) st t1 ∧
        PSs (scx CX P w K mg base N ⟨x, qual, params, st0 :: st :: rest, scope, ownC s.heap.objs.size scope ++ [(("__class__" : Str), cc)], cda⟩ f A outer s H E) rest t2 ∧ tSeq t0 (tSeq t1 t2) { nx := fun _ H' => Q .non H', rt := Q } (NdefX.startF N vs [Option.none]) H) : FnR P w K mg base CX (k + 1) f (StarSp ps.length sp) := by
  obtain ⟨oc, od, doc, pm, an, cda, ct, osl, cc, rfl, lk, hcd, ⟨cl1, cd1, cs1, hcell⟩, cl2, cd2, vs2, cs2, file, tf, hcode, hvs2, hfile⟩ := F.ex
  intro A outer s H us vs Q E hr e0 r hsp
  obtain ⟨ws, rst, ev, hl, hz, hq0⟩ := hsp
  subst ev
  obtain ⟨u1, u2, eu, r1, r2⟩ := vals_split r
  subst eu
  have hn : H s.heap.objs.size = Option.none := e0.hok.fresh (Nat.le_refl _)
  have hl1 : u1.length = ps.length := by rw [← r1.length]; exact hl
  have hl2 : u2.length ≤ sizeLine := by rw [← r2.length]; exact hz
  have hbnd : Bnd CX P w K mg base (PySem.W.fnX x qual params (st0 :: st :: rest) scope [("__class__", cc)] .none .none doc pm an (.ref cda) ct) ⟨u1 ++ u2, []⟩ (ps ++ [pv]) A outer s H E (fun xs H2 => ∃ p, H p = Option.none ∧ xs = ws ++ [V.ref p] ∧ H2 = upd H p (.tup rst)) := fun A' Ex Q' h => by
    rw [hbs u1 u2 hl1]
    refine wpAny_bind (wpAny_newTuple (wpAny_pure ?_) hl2)
    have new : ObjOk P w (upd H s.heap.objs.size (.tup rst)) (s.heap.push ({ cls := .type "tuple", data := .seq u2.toArray } : Obj)) s.heap.objs.size (.tup rst) := ⟨hz, u2, r2, ⟨_, Heap.get?_push_size _ rfl, rfl, _, rfl⟩⟩
    have un := un_laid (fs := frs outer) (s := s) (o := ({ cls := .type "tuple", data := .seq u2.toArray } : Obj)) (u := .tup rst) hn
    have z := h _ _ (ws ++ [V.ref s.heap.objs.size]) (u1 ++ [Value.ref s.heap.objs.size]) (env0_laid e0 new) un rfl (fun e s' => hCX outer s H _ _ E e s' un (fun b o q => Heap.get?_push_of_some _ q) rfl) (r1.append (.cons rfl .nil))
      (by rw [List.length_append, List.length_append, hl] <;> rfl) ⟨_, hn, rfl, rfl⟩
    rw [List.zip_append hl1.symm] at z
    exact z
  have KX0 : K.In s.heap := e0.mod.kin.keeps fun b o e => (e0.bs b o e).1
  refine codeAny_call_function hr.depth (KX0 _ _ lk) rfl S.co S.gen rfl (PySem.W.codeRec_of KX0 hcd) (hbnd _ _ _ fun s2 H2 vs us e2 un ho hxe r hl2 g => ?_)
  obtain ⟨p, hpn, rfl, rfl⟩ := g
  have hsp := hq0 p hpn
  have KX : K.In s2.heap := e2.mod.kin.keeps fun b o e => (e2.bs b o e).1
  have lim : s2.heap.NoLimit := e2.mod.nolimit.keeps fun b o e => (e2.bs b o e).1
  have hk : ∀ y ∈ (ps ++ [pv]).zip us, scope.names.lookup y.1 = some .local ∨ (scope.names.lookup y.1 = some .cell ∧ ((ownC s2.heap.objs.size scope).lookup y.1).isSome = true) := fun y hy => by
    rcases S.par y.1 (List.of_mem_zip hy).1 with z | z
    · exact .inl z
    · obtain ⟨c, e⟩ := cell_has (n := s2.heap.objs.size + 1) z
      exact .inr ⟨z, by show ((ownC s2.heap.objs.size scope).lookup y.1).isSome = true; rw [e]; rfl⟩
  refine newEnv_cl S.kind hk fun s1 xx => ⟨lim.keeps xx.toInCall.keep, PySem.ks_codeAny_funcAt ?_⟩
  have zc := e2.mod.kin _ _ hcell
  have I := inv_scx (CX := CX) (E := E) (f := f) (x0 := x) (qual := qual) (params := params) (body := st0 :: st :: rest) (cda := cda) S hr.hd e2 hl2 r (e2.bs _ _ zc).2 ⟨_, _, KX _ _ hcell, rfl⟩ xx
  have hcl : (ownC s2.heap.objs.size scope ++ [(("__class__" : Str), cc)]).lookup ("__class__" : Str) = some cc := by
    rw [List.lookup_append]
    cases z : (ownC s2.heap.objs.size scope).lookup ("__class__" : Str) with
    | none => simp [List.lookup]
    | some c => exact absurd (List.mem_singleton_self _) (S.ncl _ (cells_mem _ _ z) rfl)
  have SX : SupX (scx CX P w K mg base N ⟨x, qual, params, st0 :: st :: rest, scope, ownC s2.heap.objs.size scope ++ [(("__class__" : Str), cc)], cda⟩ f A outer s2 (upd H p (.tup rst)) E) D f x0 :=
    ⟨hs, hnc, rfl, ⟨_, _, _, _, ar, lk, hp, har⟩, ⟨cda, _, _, _, _, file, tf, rfl, hcode, hvs2, hfile⟩, top, hN, hx.elim .inl fun z => .inr (.inl z), hxd, ⟨cc, _, _, _, hcl, hcell⟩, hm, hD⟩
  obtain ⟨t0, t1, t2, p0, p1, p2, hq⟩ := hbody cc cda A outer s2 _ _ Q E (hr.deeper _) hsp SX
  have fin : ∀ {σ' : L2.St} {H' : Hp} {v : V} {u : Value} {s' : Shared}, Inv (scx CX P w K mg base N ⟨x, qual, params, st0 :: st :: rest, scope, ownC s2.heap.objs.size scope ++ [(("__class__" : Str), cc)], cda⟩ f A outer s2 (upd H p (.tup rst)) E) [] σ' H' s' → RelV v u → Q v H' → CE outer P w H s Q u s' :=
    fun {σ' H' v u s'} J rv q => ⟨v, H', J.os.trans ho, J.bare, un.trans J.base, J.hok, rv, q⟩
  refine PySem.ks_wpAt_mono (PySem.ks_wpAt_execs_cons (wpAt_of_wpAny (wpAny_mono (p0.run [] _ _ _ _ I hq) (fun fl s' z => ?_) fun e s' z => z))) (fun fl s' z => z) (fun e s' hs => wpAny_mono hs (fun _ s'' z => hxe e s'' z) fun e' s'' z => hxe e' s'' z)
  cases fl with
  | brk => obtain ⟨_, _, _, q⟩ := z; exact q.elim
  | cont => obtain ⟨_, _, _, q⟩ := z; exact q.elim
  | ret u =>
    obtain ⟨v, σ', H', J, rv, q⟩ := z
    exact fin J rv q
  | next =>
    obtain ⟨σ0, H0, J0, q0⟩ := z
    refine PySem.ks_wpAt_execs_cons (PySem.ks_wpAt_mono (p1.run [] _ _ H0 _ J0 q0) (fun fl s' z => ?_) fun e s' z => z)
    cases fl with
    | brk => obtain ⟨_, _, _, q⟩ := z; exact q.elim
    | cont => obtain ⟨_, _, _, q⟩ := z; exact q.elim
    | ret u =>
      obtain ⟨v, σ', H', J, rv, q⟩ := z
      exact fin J rv q
    | next =>
      obtain ⟨σ', H', J, q⟩ := z
      refine wpAt_of_wpAny (wpAny_mono (p2.run [] s' σ' H' _ J q) (fun fl s2 z2 => ?_) fun e s2 z2 => z2)
      cases fl with
      | brk => obtain ⟨_, _, _, q⟩ := z2; exact q.elim
      | cont => obtain ⟨_, _, _, q⟩ := z2; exact q.elim
      | ret u =>
        obtain ⟨v, σ2, H2, J2, rv, q⟩ := z2
        exact fin J2 rv q
      | next =>
        obtain ⟨σ2, H2, J2, q⟩ := z2
        exact fin (v := V.non) (u := Value.none) J2 rfl q
/-! ### making an instance by a positional promise -/
theorem pe_imp {X : Cx} {e : Expr} {t u : TE} (h : PE X e t) (i : ∀ σ H Q, u σ H Q → t σ H Q) : PE X e u := ⟨fun pins s σ H Q I q => h.run pins s σ H Q I (i σ H Q q)⟩
section
variable {X : Cx} {CX : CXT} {k : Nat} {f C : Addr} {sp : Sp} {E : XK} {x : Str} {e : Expr} {es : List Expr} {t : TA} {p pos : Pos}
theorem pe_mkS (M : Mk X.K C f) (F : FnR X.prog X.w X.K X.mg X.base CX k f sp) (hr : Room (k + 1) X.A) (hg : Gl X x) (hm : X.mg x = some (.ref C)) (hx : Passes CX X E) (ha : PA X (e :: es) t) (hdb : (x == ("__debug__" : Str)) = false := by decide)
    (he : starEach (e :: es) X.env = (false, eval e X.env) :: starEach es X.env := by rfl) (hpl : (backTo pos (starEach es X.env)).any (·.1) = false := by rfl) : PE X (.Call (.Name x p) (e :: es) [] pos) (tMake C sp [] E t) := by
  refine pe_imp (pe_makeR M F hr hg hm hx ha hdb he hpl) fun σ H Q h => ?_
  unfold tMake at h
  simp only [List.append_nil] at h
  exact h
theorem pe_mkS0 (M : Mk X.K C f) (F : FnR X.prog X.w X.K X.mg X.base CX k f sp) (hr : Room (k + 1) X.A) (hg : Gl X x) (hm : X.mg x = some (.ref C)) (hx : Passes CX X E) (hdb : (x == ("__debug__" : Str)) = false := by decide) : PE X (.Call (.Name x p) [] [] pos) (tMake C sp [] E tNil) := by
  refine ⟨fun pins s σ H Q I h => ?_⟩
  refine wpAny_Call_Name_kw (ld_glob I hg hm ?_ hdb)
  exact PySem.W.callWith_K0 I.kIn M.kp (run_makeR (us := []) M F hr hx I .nil (by simpa only [tMake, tNil, List.append_nil] using h))
theorem run_makeRZ {pins : List (Addr × Obj)} {σ : L2.St} {H : Hp} {s : Shared} {Q : VK} {us : List Value} {vs : List V} {E : L2.St → XK} (M : Mk X.K C f) (F : FnR X.prog X.w X.K X.mg X.base CX k f sp) (hr : Room (k + 1) X.A) (hx : PassesAt CX X σ (E σ)) (I : Inv X pins σ H s) (r : Vals vs us)
    (h : ∀ x dx, H x = Option.none → H dx = Option.none → dx ≠ x → sp (V.ref x :: vs) (upd (upd H dx (.own x)) x (.ins C dx [])) (fun v H2 => v = .non ∧ Q (.ref x) H2) (E σ)) :
    wpAny (model X.prog X.w) X.A (call (.ref C) us) (EP X pins σ Q) X.xe s := by
  have hq := h (s.heap.objs.size + 1) s.heap.objs.size (I.hok.fresh (Nat.le_succ _)) (I.hok.fresh (Nat.le_refl _)) (Nat.ne_of_lt (Nat.lt_succ_self _))
  have J := Inv.made (C := C) I
  have w2 : Vals (V.ref (s.heap.objs.size + 1) :: vs) (Value.ref (s.heap.objs.size + 1) :: us) := .cons rfl r
  refine wpAny_call (make_map (f := f) I.kIn M.makes M.init (beq_iff_eq.mp M.fn) (codeAny_mono (F _ X.stack _ _ (Value.ref (s.heap.objs.size + 1) :: us) _ _ (E σ) (hr.make C us []) (J.env0.make C us []) w2 hq) fun r s' z => ?_))
  match r, z with
  | .error e, z => exact hx pins _ _ e s' J z
  | .ok (.ret u), z =>
    obtain ⟨v, H', I3, rv, ev, q3⟩ := J.after z
    subst ev
    exact ⟨rv, V.ref (s.heap.objs.size + 1), H', I3, rfl, q3⟩
  | .ok .next, z => exact z.elim
  | .ok .brk, z => exact z.elim
  | .ok .cont, z => exact z.elim
theorem pe_mkSZ {E : L2.St → XK} (M : Mk X.K C f) (F : FnR X.prog X.w X.K X.mg X.base CX k f sp) (hr : Room (k + 1) X.A) (hg : Gl X x) (hm : X.mg x = some (.ref C)) (hx : ∀ σ, PassesAt CX X σ (E σ)) (ha : PA X (e :: es) t) (hdb : (x == ("__debug__" : Str)) = false := by decide)
    (he : starEach (e :: es) X.env = (false, eval e X.env) :: starEach es X.env := by rfl) (hpl : (backTo pos (starEach es X.env)).any (·.1) = false := by rfl) : PE X (.Call (.Name x p) (e :: es) [] pos) (tMakeZ C sp [] E t) :=
  ⟨fun pins s σ G Q I h => wpAny_Call_Name_kw (ld_glob I hg hm (PySem.W.callWith_K (h₀ := X.base) I.ok.mod.kin M.kp (thn (ha.run pos pins s σ G _ I h) fun us s1 ⟨vs, H1, I1, r, q⟩ => ⟨I1.kIn, run_makeRZ M F hr (hx σ) I1 r (by simpa only [List.append_nil] using q)⟩) he hpl) hdb)⟩
theorem pe_mkSZ0 {E : L2.St → XK} (M : Mk X.K C f) (F : FnR X.prog X.w X.K X.mg X.base CX k f sp) (hr : Room (k + 1) X.A) (hg : Gl X x) (hm : X.mg x = some (.ref C)) (hx : ∀ σ, PassesAt CX X σ (E σ)) (hdb : (x == ("__debug__" : Str)) = false := by decide) : PE X (.Call (.Name x p) [] [] pos) (tMakeZ C sp [] E tNil) :=
  ⟨fun pins s σ G Q I h => wpAny_Call_Name_kw (ld_glob I hg hm (PySem.W.callWith_K0 I.kIn M.kp (run_makeRZ (us := []) M F hr (hx σ) I .nil (by simpa only [tMakeZ, tMake, tNil, List.append_nil] using h))) hdb)⟩
/-- a statement that is never reached -/
theorem ps_dead {st : Stmt} : PS X st (fun _ _ _ => False) := ⟨fun _ _ _ _ _ _ h => h.elim⟩
/-- one of two derivations -/
theorem pe_or {e : Expr} {t u : TE} (h : PE X e t) (g : PE X e u) : PE X e (fun σ H Q => t σ H Q ∨ u σ H Q) := ⟨fun pins s σ H Q I q => q.elim (h.run pins s σ H Q I) (g.run pins s σ H Q I)⟩
end
end Z
namespace Z
open PySem HandSHeadRun
/-! ### the head in parts: each runs the top anew, none looks at all -/
theorem opt_two {α β γ : Type} {R : Option α} {f : α → β} {g : α → γ} {b : β} {c : γ} (h1 : R.map f = some b) (h2 : R.map g = some c) : R.map (fun x => (f x, g x)) = some (b, c) := by
  cases R with
  | none => cases h1
  | some x =>
    cases h1
    cases h2
    rfl
abbrev KX (n : Nat) (s : PySem.W.SharedT) : PySem.W.Frag := He.frG (getT s) (PySem.cStatics :: He.asD (getT s) n)
theorem run_join {r : PySem.W.OpenRow} {q : Program} {n M : Nat} {fa fa1 fa2 : List (PySem.W.Frag → Bool)} {fn fs : List He.DefD} {loose : List Str} {w : World} (e : fa = fa1 ++ fa2)
    (h1 : (wholeF (fun p => stepQ (denQ tabQ) p w) fenceQ M r.prog).map (fun x => (looksF r.prog x.1.heap x.2.abs, seenQ q loose (importedModules r.prog.main.body) (fun s => PySem.W.xlAt q [] s && PySem.W.recOk r.toRowW.records s) x.2.abs)) = some (true, PySem.W.openGood q loose))
    (h2 : (wholeF (fun p => stepQ (denQ tabQ) p w) fenceQ M r.prog).map (fun x => fa1.all fun f => f (KX n x.2)) = some true)
    (h3 : (wholeF (fun p => stepQ (denQ tabQ) p w) fenceQ M r.prog).map (fun x => fa2.all fun f => f (KX n x.2)) = some true)
    (h4 : (wholeF (fun p => stepQ (denQ tabQ) p w) fenceQ M r.prog).map (fun x => (fn.all fun d => d.ok (KX n x.2), fn.map (fun d => He.fnW (KX n x.2) d.at_), fs.map fun d => fnWs (KX n x.2) d.at_)) = some (true, fn.map He.DefD.val, fs.map He.DefD.val)) :
    RunEqI r q (hookY n fa fn fs) (fun s => obsY n fa fn fs (getT s)) M loose w := by
  subst e
  unfold RunEqI
  generalize wholeF (fun p => stepQ (denQ tabQ) p w) fenceQ M r.prog = R at *
  cases R with
  | none => cases h1
  | some x =>
    have a1 := Option.some.inj h1
    have a2 : (fa1.all fun f => f (KX n x.2)) = true := Option.some.inj h2
    have a3 : (fa2.all fun f => f (KX n x.2)) = true := Option.some.inj h3
    have a4 := Option.some.inj h4
    obtain ⟨b1, b2⟩ := Prod.mk.inj a1
    obtain ⟨b3, b4⟩ := Prod.mk.inj a4
    obtain ⟨b4, b5⟩ := Prod.mk.inj b4
    refine congrArg some (Prod.ext b1 (Prod.ext b2 (Prod.ext ?_ ?_)))
    · show (((fa1 ++ fa2).all fun f => f (KX n x.2)) && fn.all fun d => d.ok (KX n x.2)) = true
      rw [List.all_append, a2, a3, b3]
      rfl
    · show (fn.map (fun d => He.fnW (KX n x.2) d.at_) ++ fs.map fun d => fnWs (KX n x.2) d.at_) = fn.map He.DefD.val ++ fs.map He.DefD.val
      rw [b4, b5]
end Z
namespace Z
open PySem L2 StX PySem.Spec PyProof.Rows
/-! ### f(.., **d), d a dict of at most one keyword -/
def kwD (es : Array DictEntry) (n : Nat) : Obj := { cls := .type "dict", data := .dict es n }
/-- the entries es stand for the keywords kv -/
def KwEs (es : Array DictEntry) (kv : List (Str × Value)) : Prop := (es = #[] ∧ kv = []) ∨ ∃ hsh k t u, es = #[⟨hsh, .str k t, u⟩] ∧ kv = [(k, u)]
/-- the dict at d holds the keywords kv -/
def KwAt (d : Addr) (kv : List (Str × V)) (h : Heap) : Prop := (d == sysModules) = false ∧ ∃ es n us, h.get? d = some (kwD es n) ∧ Vals (kv.map (·.2)) us ∧ KwEs es ((kv.map (·.1)).zip us)
def KwO (d : Addr) (kv : List (Str × V)) : HO := .ext (KwAt d kv)
theorem kwO_ok {P : Program} {w : World} {H : Hp} {h : Heap} {d : Addr} {kv : List (Str × V)} (x : KwAt d kv h) : ObjOk P w H h d (KwO d kv) :=
  ⟨x, let ⟨_, _, _, _, e, _⟩ := x; ⟨_, e⟩, fun h1 h2 ⟨a, es, n, us, e, r, k⟩ up => ⟨a, es, n, us, up _ e, r, k⟩⟩
section
variable {prog : Program} {w : World} {A : Around} {E : Value → Shared → Prop} {s : Shared}
theorem wp_merge {d a : Addr} {es : Array DictEntry} {n : Nat} {kv : List (Str × Value)} {Q : Unit → Shared → Prop} (hd : s.heap.get? d = some (kwD #[] 0)) (ha : s.heap.get? a = some (kwD es n)) (nm : (a == sysModules) = false) (hes : KwEs es kv) (ne : d ≠ a)
    (h : ∀ h' m, h'.get? d = some (kwD es m) → (∀ b o, b ≠ d → s.heap.get? b = some o → h'.get? b = some o) → Q () { s with heap := h' }) : wpAny (model prog w) A (mergeMapping d (.ref a) true) Q E s := by
  have hT : s.TypeIs (.ref a) "dict" := ⟨_, ha, rfl⟩
  unfold mergeMapping
  refine wpAny_bind (wpAny_isInstance hT isSubtype_dict_dict ?_)
  try simp only [if_true]
  refine wpAny_bind (wpAny_specialOf hT PySem.F.slot_dict_iter.lookup ?_)
  refine wpAny_bind (wpAny_pure ?_)
  simp only [beq_self_eq_true, nm, Bool.false_eq_true, if_false]
  refine wpAny_bind (wpAny_dictEntries hd rfl ?_)
  rw [show (#[] : Array DictEntry).isEmpty = true from rfl, if_pos rfl]
  refine wpAny_bind (wpAny_dictEntries ha rfl ?_)
  rcases hes with ⟨rfl, rfl⟩ | ⟨hsh, k, t, u, rfl, rfl⟩
  · refine wpAny_bind (wpAny_pure ?_)
    refine wpAny_bind (wpAny_dictEntries ha rfl (wpAny_bind (wpAny_dictEpoch ha rfl ?_)))
    refine wpAny_bind (wpAny_pure (wpAny_pure ?_))
    exact h _ 0 hd fun _ _ _ z => z
  · refine wpAny_bind ?_
    have e1 : (forIn (m := Sem) #[(⟨hsh, .str k t, u⟩ : DictEntry)] PUnit.unit fun e (_ : PUnit) => (pure (ForInStep.yield PUnit.unit) : Sem _)) = (pure PUnit.unit : Sem PUnit) := by rfl
    refine wpAny_pure ?_
    refine wpAny_bind (wpAny_dictEntries ha rfl (wpAny_bind (wpAny_dictEpoch ha rfl ?_)))
    refine wpAny_bind ?_
    show wpAny _ _ (forIn [0] _ _) _ _ _
    rw [List.forIn_cons]
    refine wpAny_bind ?_
    refine wpAny_bind (wpAny_dictEntries ha rfl ?_)
    show wpAny _ _ (holding _ _ >>= _) _ _ _
    refine wpAny_bind (wpAny_holding ?_)
    refine wpAny_bind ?_
    refine KTD.kt_dictFind_strs hd rfl (by simp) ?_
    rw [show (Array.findIdx? (fun e : DictEntry => e.key.isStr k) #[]) = none by simp]
    show wpAny _ _ (dictPut _ _ _ _) _ _ _
    unfold dictPut
    refine wpAny_bind (KTD.kt_dictFind_strs hd rfl (by simp) ?_)
    rw [show (Array.findIdx? (fun e : DictEntry => e.key.isStr k) #[]) = none by simp]
    show wpAny _ _ (updateDictKeys _ _) _ _ _
    refine wpAny_updateDictKeys hd rfl ?_ (by simp [sizeLine_eq]) (by simp)
    have g1 : (s.heap.update d (Obj.mapDictKeys fun x => x.push ⟨hsh, .str k t, u⟩)).get? d = some (Obj.mapDictKeys (fun x => x.push ⟨hsh, .str k t, u⟩) (kwD #[] 0)) := Heap.get?_update_self _ hd rfl
    have g2 : ∀ b o, b ≠ d → s.heap.get? b = some o → (s.heap.update d (Obj.mapDictKeys fun x => x.push ⟨hsh, .str k t, u⟩)).get? b = some o := fun b o hb e => by
      rw [Heap.get?_update_ne _ _ _ _ hb]
      exact e
    refine wpAny_bind (wpAny_dictEpoch (g2 _ _ (Ne.symm ne) ha) rfl ?_)
    rw [if_neg (by simp)]
    refine wpAny_pure (wpAny_pure (wpAny_pure ?_))
    exact h _ 1 g1 g2
theorem wp_kwIn {d : Addr} {f : Value} {es : Array DictEntry} {n : Nat} {kv : List (Str × Value)} {Q : List (Str × Value) → Shared → Prop} (hd : s.heap.get? d = some (kwD es n)) (hes : KwEs es kv) (h : Q kv s) : wpAny (model prog w) A (keywordsIn f d) Q E s := by
  unfold keywordsIn
  refine wpAny_bind (wpAny_dictEntries hd rfl ?_)
  rcases hes with ⟨rfl, rfl⟩ | ⟨hsh, k, t, u, rfl, rfl⟩
  · exact wpAny_bind (wpAny_pure (wpAny_pure h))
  · exact wpAny_bind (wpAny_pure (wpAny_pure h))
theorem wp_merged {f : Value} {a : Addr} {es : Array DictEntry} {n : Nat} {kv : List (Str × Value)} {x : Sem Value} {pos : Pos} {Q : Addr → Shared → Prop} (ha : s.heap.get? a = some (kwD es n)) (nm : (a == sysModules) = false) (hes : KwEs es kv)
    (hx : ∀ (s' : Shared) (R : Value → Shared → Prop), s' = { s with heap := s.heap.push (kwD #[] 0) } → R (.ref a) s' → wpAny (model prog w) A x R E s')
    (h : ∀ d h' m, h'.get? d = some (kwD es m) → (∀ b o, s.heap.get? b = some o → h'.get? b = some o) → Q d { s with heap := h' }) : wpAny (model prog w) A (mergedKeywords f [(none, (do let v ← x; standAt pos; pure v))]) Q E s := by
  unfold mergedKeywords
  refine wpAny_bind (wpAny_alloc ?_)
  refine wpAny_bind (wpAny_holding ?_)
  refine wpAny_bind ?_
  rw [List.forIn_cons]
  refine wpAny_bind ?_
  refine wpAny_bind (wpAny_pure ?_)
  refine wpAny_bind (wpAny_bind (wpAny_mono (hx _ (fun v s' => v = .ref a ∧ s' = { s with heap := s.heap.push (kwD #[] 0) }) rfl ⟨rfl, rfl⟩) (fun v s' z => ?_) fun _ _ z => z))
  obtain ⟨rfl, rfl⟩ := z
  refine wpAny_bind (wpAny_standAt (wpAny_pure ?_))
  refine wpAny_bind (wpAny_onRaise (wpAny_holding (wpAny_tryCatch (wpAny_onRaise ?_))))
  have ad : s.heap.objs.size ≠ a := fun e => absurd (Heap.lt_size ha) (by rw [← e]; exact Nat.lt_irrefl _)
  refine wp_merge (es := es) (n := n) (kv := kv) (Heap.get?_push_size _ rfl) (Heap.get?_push_of_some _ ha) nm hes ad fun h' m g1 g2 => ?_
  refine wpAny_pure ?_
  refine wpAny_pure (wpAny_pure (wpAny_pure ?_))
  exact h _ h' m g1 fun b o e => g2 b o (fun z => absurd (Heap.lt_size e) (by rw [z]; exact Nat.lt_irrefl _)) (Heap.get?_push_of_some _ e)
/-- the name x, in a state of which the heap holds what stood -/
theorem ld_at {X : Cx} {pins : List (Addr × Obj)} {σ : L2.St} {H : Hp} {s : Shared} {i : Nat} {y : Str} {v : V} {p : Pos} {Q : Value → Shared → Prop} {E : Value → Shared → Prop} (I : Inv X pins σ H s) (hN : X.N[i]? = some y) (h0 : σ[i]? = some (some v)) (hy : Vis X.env.scope y)
    (h : ∀ u, RelV v u → Q u s) (hd : (y == ("__debug__" : Str)) = false := by decide) (hc : (y == ("__classdict__" : Str)) = false := by decide) : wpAny (model X.prog X.w) X.A (eval (.Name y p) X.env) Q E s := by
  obtain ⟨ml, hn, hl⟩ := I.loc
  obtain ⟨u, r, l⟩ := hl i y v hN h0 hy
  refine wpAny_Name ?_ hd
  rcases l with ⟨hk, hm⟩ | ⟨hk, c, hc', hce⟩
  · exact wpAny_loadName_local I.ok.kind hk hn hm (h u r)
  · rcases hk with hk | hk
    · exact wpAny_loadName_cell I.ok.kind hk hc' hce (h u r)
    · exact wpAny_loadName_free I.ok.kind hk hc' hce (h u r) hc
theorem evalArgs_kwd {f : Value} {x0 x : Sem Value} {pos : Pos} {rest : List (Bool × Sem Value)} {Q : Args → Shared → Prop}
    (h : wpAny (model prog w) A (spliced ((false, x0) :: rest)) (fun vs s1 => ∃ (a : Addr) (es : Array DictEntry) (n : Nat) (kv : List (Str × Value)), s1.heap.get? a = some (kwD es n) ∧ (a == sysModules) = false ∧ KwEs es kv ∧
      (∀ (s' : Shared) (R : Value → Shared → Prop), s' = { s1 with heap := s1.heap.push (kwD #[] 0) } → R (.ref a) s' → wpAny (model prog w) A x R E s') ∧ ∀ h', (∀ b o, s1.heap.get? b = some o → h'.get? b = some o) → Q ⟨vs, kv⟩ { s1 with heap := h' }) E s) :
    wpAny (model prog w) A (evalArgs f true ((false, x0) :: rest) [(none, (do let v ← x; standAt pos; pure v))]) Q E s := by
  unfold evalArgs
  show wpAny _ A (spliced ((false, x0) :: rest) >>= _) Q E s
  refine wpAny_bind (wpAny_mono h (fun vs s1 h1 => ?_) fun _ _ x => x)
  obtain ⟨a, es, n, kv, ha, nm, hes, hx, hq⟩ := h1
  refine wpAny_holding ?_
  rw [if_neg (by simp)]
  refine wpAny_bind (wp_merged ha nm hes hx fun d h' m g1 g2 => ?_)
  refine wpAny_bind (wpAny_pure ?_)
  exact wpAny_bind (wpAny_holding (wp_kwIn g1 hes (wpAny_pure (hq h' g2))))
theorem callWith_kwd {f : Value} {first : List Value} {pos : Pos} {Q : Value → Shared → Prop} {P : Heap → Prop} {args : List (Bool × Sem Value)} {kws : List (Option Str × Sem Value)} (hst : (args.any (·.1) || kws.any (·.1.isNone)) = true)
    (hk : ∀ h, P h → ∃ k, (k = Keeper.frame ∨ k = Keeper.machine ∨ k = Keeper.boundFrame) ∧ PySem.W.Looks (model prog w) h (keeperOf f) k)
    (h : wpAny (model prog w) A (evalArgs f true args kws) (fun a s₁ => P s₁.heap ∧ wpAny (model prog w) A (call f (first ++ a.pos) a.kw) Q E s₁) E s) : wpAny (model prog w) A (callWith pos f first args kws) Q E s := by
  unfold callWith
  refine wpAny_bind (wpAny_holding (wpAny_mono h (fun a s₁ h₁ => wpAny_bind (wpAny_standAt ?_)) fun _ _ x => x))
  obtain ⟨k, hk', L⟩ := hk _ h₁.1
  simp only [hst]
  refine wpAny_bind (L.here ?_)
  have tail : ∀ {t : Sem Value}, wpAny (model prog w) A t Q E s₁ → wpAny (model prog w) A (t >>= fun r => holding [r] point >>= fun _ => pure r) Q E s₁ :=
    fun ht => wpAny_bind (wpAny_mono ht (fun r s₂ hr => wpAny_bind (wpAny_holding (wpAny_point (wpAny_pure hr)))) fun _ _ x => x)
  have marked (mk : Value) : wpAny (model prog w) A (callMarked mk f (first ++ a.pos) a.kw) Q E s₁ := by unfold callMarked; exact Calls.wpAny_keep h₁.2
  rcases hk' with rfl | rfl | rfl <;> dsimp only <;> first | exact tail (marked _) | exact tail (wpAny_operateT h₁.2)
end
/-! ### a promise that is called with keywords -/
def FnRK (P : Program) (w : World) (K : PySem.W.Frag) (mg : Str → Option Value) (base : Heap) (CX : CXT) (k : Nat) (f : Addr) (n : Nat) (ks : List Str) (sp : Sp) : Prop :=
  ∀ (A : Around) (outer : List Env) (s : Shared) (H : Hp) (us ws : List Value) (vs zs : List V) (Q : VK) (E : XK), Room k A → Env0 P w K mg base A outer s H → Vals vs us → Vals zs ws → vs.length = n → zs.length = ks.length → sp (vs ++ zs) H Q E →
    codeAny (model P w) A (.call (.ref f) ⟨us, ks.zip ws⟩) (CR CX outer P w H s Q E) s
section
variable {P : Program} {w : World} {K : PySem.W.Frag} {mg : Str → Option Value} {base : Heap} {CX : CXT} {j k n : Nat} {f : Addr} {ks : List Str} {sp sp' : Sp}
theorem FnRK.mono (F : FnRK P w K mg base CX j f n ks sp) (h : j ≤ k) : FnRK P w K mg base CX k f n ks sp := fun A outer s H us ws vs zs Q E hr => F A outer s H us ws vs zs Q E (hr.mono h)
theorem FnRK.imp (F : FnRK P w K mg base CX k f n ks sp) (h : ∀ vs H Q E, sp' vs H Q E → sp vs H Q E) : FnRK P w K mg base CX k f n ks sp' := fun A outer s H us ws vs zs Q E hr e0 r rz l1 l2 hs => F A outer s H us ws vs zs Q E hr e0 r rz l1 l2 (h _ _ _ _ hs)
theorem rk_of (F : FnR P w K mg base CX k f sp) : FnRK P w K mg base CX k f n [] sp := fun A outer s H us ws vs zs Q E hr e0 r rz l1 l2 hs => by
  obtain rfl : zs = [] := List.length_eq_zero_iff.mp l2
  rw [List.append_nil] at hs
  exact F A outer s H us vs Q E hr e0 r hs
end
section
variable {X : Cx} {CX : CXT} {k n i : Nat} {f g C D : Addr} {ks : List Str} {sp : Sp} {E : L2.St → XK} {x y m : Str} {p p0 p1 pos apos kp kpos : Pos} {e : Expr} {es : List Expr} {kws : List Keyword} {t tk : TA} {pl : Sem Bool} {body : List Stmt}
theorem runRK {pins : List (Addr × Obj)} {σ : L2.St} {G : Hp} {s : Shared} {Q : VK} {us ws : List Value} {vs zs : List V} (F : FnRK X.prog X.w X.K X.mg X.base CX k f n ks sp) (hr : Room k X.A) (hx : PassesAt CX X σ (E σ)) (I : Inv X pins σ G s) (r : Vals vs us) (rz : Vals zs ws) (l1 : vs.length = n) (l2 : zs.length = ks.length) (h : sp (vs ++ zs) G Q (E σ)) :
    codeAny (model X.prog X.w) X.A (.call (.ref f) ⟨us, ks.zip ws⟩) (fun r s' => match r with | .ok (.ret v) => EP X pins σ Q v s' | .ok _ => False | .error e => X.xe e s') s :=
  codeAny_mono (F X.A X.stack s G us ws vs zs Q (E σ) hr I.env0 r rz l1 l2 h) fun r s' hq => match r, hq with
    | .error e, hq => hx pins G s e s' I hq
    | .ok (.ret u), hq => I.after hq
    | .ok .next, hq => hq
    | .ok .brk, hq => hq
    | .ok .cont, hq => hq
theorem wpAt_methKw {M : Model} {A : Around} {c : Code} {E : Value → Shared → Prop} {s : Shared} {env : Env} {ex o : Expr} {name : Str} {apos pos : Pos} {args : List (Bool × Sem Value)} {kwt : List (Option Str × Sem Value)} {cal : Value → Sem (Value × List Value)} {Q : Value → Shared → Prop}
    (h : PySem.wpAt M A c (attributeBase o name env (eval o env)) (fun ov s₁ => wpAny M A (cal ov) (fun fx s₂ => wpAny M A (callWith pos fx.1 fx.2 args kwt) Q E s₂) E s₁) E s)
    (he : eval ex env = (do let ov ← attributeBase o name env (eval o env); standAt apos.atName; let (f, first) ← holding [ov] (cal ov); callWith pos f first args kwt)) : PySem.wpAt M A c (eval ex env) Q E s := by
  rw [he]
  refine PySem.wpAt_bind (PySem.wpAt_mono h (fun ov s₁ h₁ => wpAt_of_wpAny (wpAny_bind (wpAny_standAt (wpAny_bind (wpAny_holding (wpAny_mono h₁ (fun fx s₂ h₂ => ?_) fun _ _ x => x)))))) fun _ _ x => x)
  exact h₂
theorem getAttr_super {prog : Program} {w : World} {A : Around} {E : Value → Shared → Prop} {h : Heap} {g : Array GenState} {d : Drawn} {t : Nat} {os : OsState} {so D x C f : Addr} {of : Obj} {l₀ l : List Value} {K : PySem.W.Frag} {name : Str} {Q : Value → Shared → Prop}
    (hso : h.get? so = some { cls := .type "super", dict := none, data := .fields #[.ref D, .ref x, .ref C], slots := #[] }) (hno : PySem.W.Looks (model prog w) h (opaqueClassAbove (.ref C)) none)
    (hC : PySem.W.Looks (model prog w) h (mroOf (.ref C)) l₀) (hl : (l₀.dropWhile (· != .ref D)).drop 1 = l) (X : K.In h)
    (hf : PySem.W.alongIn K name l = some (some (.ref f))) (hfo : h.get? f = some of) (hfc : of.cls = .type "function") (hxC : x ≠ C) (hn : (name == ("__class__" : Str)) = false)
    (hq : Q (.ref h.objs.size) ⟨h.push { cls := .type "method", data := .fields #[.ref f, .ref x] }, g, d, t + 1, os⟩) :
    wpAny (model prog w) A (getAttr (.ref so) name true) Q E ⟨h, g, d, t, os⟩ := by
  have hlk := PySem.F.ks_slot_super_ga.lookup
  have hT : ∀ t', (⟨h, g, d, t', os⟩ : Shared).TypeIs (.ref so) "super" := fun _ => ⟨_, hso, rfl⟩
  unfold getAttr getAttrBy
  refine wpAny_bind (wpAny_mkText (wpAny_holding (wpAny_bind (wpAny_typeOf (hT _) (wpAny_bind (wpAny_of_eq hlk ?_))))))
  show wpAny _ _ (getAttrByItsOwn (.ref so) (.str name t) (.type "super") (.builtin "super.__getattribute__") _ _) _ _ _
  unfold getAttrByItsOwn hookBefore callGetattribute boundAndCalled
  refine wpAny_bind (wpAny_of_eq (show (if onTheHeap (.type "super") then typeLookup (.type "super") "__getattr__" else pure none) = pure none from rfl) ?_)
  refine wpAny_bind (wpAny_attempt (wpAny_holding ?_))
  show wpAny _ _ (bindSpecial (.builtin "super.__getattribute__") (.ref so) >>= _) _ _ _
  refine wpAny_bind (wpAny_of_eq (PySem.F.ks_slot_super_ga.bind _) ?_)
  refine wpAny_mono (Q := fun v s' => v = .ref h.objs.size ∧ s' = ⟨h.push { cls := .type "method", data := .fields #[.ref f, .ref x] }, g, d, t + 1, os⟩) (E := fun _ _ => False)
    (wpAny_call_entry PySem.F.ks_slot_super_ga (hT _) PySem.F.ks_entry_super_ga (PySem.ks_wpAny_super_ga hso hno hC hl X hf hfo hfc hxC hn ⟨_, rfl, rfl, rfl⟩) (PySem.F.ks_gaArgs_super _ _)) (fun v s' hv => ?_) fun _ _ z => z.elim
  obtain ⟨rfl, rfl⟩ := hv
  exact wpAny_pure hq
/-- the callee of super().m is bound -/
theorem sup_bound (few : Bool) {pins : List (Addr × Obj)} {σ : L2.St} {G : Hp} {s : Shared} {Q : VK} {a dx : Addr} {fs : List (Str × V)} {args : List (Bool × Sem Value)} {kwt : List (Option Str × Sem Value)} (S : SupX X D f x) (hsub : PySem.W.mroIn X.K C (.ref D) = some true) (ho : PySem.W.nsIn X.K PySem.cStatics "thirdparty.any" = some none)
    (hm : PySem.W.ks_superIn X.K C D m = some (some (.ref g))) (ht : PySem.W.typeIn X.K (.ref g) = some (.type "function")) (hat : (m == ("__class__" : Str)) = false) (I : Inv X pins σ G s) (h0 : σ[0]? = some (some (.ref a))) (hins : G a = some (.ins C dx fs))
    (hev : eval (.Call (.Attribute (.Call (.Name "super" p0) [] [] p1) m apos) (e :: es) kws pos) X.env = (do let ov ← attributeBase (.Call (.Name "super" p0) [] [] p1) m X.env (eval (.Call (.Name "super" p0) [] [] p1) X.env); standAt apos.atName; let (f, first) ← holding [ov] (if few then getMethod ov m pl else (do pure (← getAttr ov m true, []))); callWith pos f first args kwt))
    (h : ∀ q s1, Inv X ((q, PySem.W.methodObj (.ref g) (.ref a)) :: pins) σ G s1 → X.base.get? q = none → wpAny (model X.prog X.w) X.A (callWith pos (.ref q) [] args kwt) (EP X pins σ Q) X.xe s1) :
    PySem.wpAt (model X.prog X.w) X.A (.func body X.env) (eval (.Call (.Attribute (.Call (.Name "super" p0) [] [] p1) m apos) (e :: es) kws pos) X.env) (EP X pins σ Q) X.xe s := by
  obtain ⟨od, J⟩ := inst_of I hins
  refine wpAt_methKw (cal := fun ov => if few then getMethod ov m pl else (do pure (← getAttr ov m true, []))) (sup_base S I h0 J hsub hat fun so h' up hso => ?_) hev
  have I1 : Inv X pins σ G { s with heap := h' } := I.kept (t' := s.toks) up
  have KX : X.K.In h' := I1.kIn
  obtain ⟨cd, hcd⟩ : ∃ cd, PySem.W.clsIn X.K C = some cd := by
    cases hc : PySem.W.clsIn X.K C with
    | none => unfold PySem.W.ks_superIn at hm; rw [hc] at hm; cases hm
    | some cd => exact ⟨cd, rfl⟩
  have hal : PySem.W.alongIn X.K m ((cd.mro.dropWhile (· != .ref D)).drop 1) = some (some (.ref g)) := by
    unfold PySem.W.ks_superIn at hm
    rw [hcd] at hm
    exact hm
  obtain ⟨og, hog, hogc⟩ : ∃ og, h'.get? g = some og ∧ og.cls = .type "function" := by
    have ht' : (X.K.lookup g).map (·.cls) = some (.type "function") := ht
    cases z : X.K.lookup g with
    | none => rw [z] at ht'; cases ht'
    | some og => rw [z] at ht'; exact ⟨og, KX _ _ z, Option.some.inj ht'⟩
  obtain ⟨hh, gg, dd, tt, os⟩ := s
  cases few with
  | false =>
    refine wpAny_bind (getAttr_super hso (PySem.W.looks_opaque KX ho) (l₀ := cd.mro) (fun A Q E s k q => wpAny_bind ((PySem.W.looks_clsIn KX hcd) A _ E s k (wpAny_pure q))) rfl KX hal hog hogc (PySem.W.ks_ne I.kIn J hcd) hat (wpAny_pure ?_))
    exact h _ _ (ClX.met_new (g := g) (C := a) I1) (ClX.base_none I1 (Nat.le_refl _))
  | true =>
  refine PySem.ks_wpAny_getMethod_super hso (PySem.W.looks_opaque KX ho) (l₀ := cd.mro) (fun A Q E s k q => wpAny_bind ((PySem.W.looks_clsIn KX hcd) A _ E s k (wpAny_pure q))) rfl KX hal hog hogc (PySem.W.ks_ne I.kIn J hcd) hat ?_
  exact h _ _ (ClX.met_new (g := g) (C := a) I1) (ClX.base_none I1 (Nat.le_refl _))
/-- super().m(e, .., **y), y at slot i -/
def tSupD (C : Addr) (ks : List Str) (n i : Nat) (sp : Sp) (E : L2.St → XK) (t : TA) : TE := fun σ H Q => ∃ a dx fs, σ[0]? = some (some (.ref a)) ∧ H a = some (.ins C dx fs) ∧ t σ H fun vs H2 => ∃ b zs, σ[i]? = some (some (.ref b)) ∧ zs.length = ks.length ∧ H2 b = some (KwO b (ks.zip zs)) ∧ vs.length + 1 = n ∧ sp ((.ref a :: vs) ++ zs) H2 Q (E σ)
theorem pe_supD (S : SupX X D f x) (hsub : PySem.W.mroIn X.K C (.ref D) = some true) (ho : PySem.W.nsIn X.K PySem.cStatics "thirdparty.any" = some none)
    (hm : PySem.W.ks_superIn X.K C D m = some (some (.ref g))) (ht : PySem.W.typeIn X.K (.ref g) = some (.type "function")) (hfn : PySem.W.fnIn X.K g = true) (F : FnRK X.prog X.w X.K X.mg X.base CX k g n ks sp) (hr : Room k X.A) (hx : ∀ σ, PassesAt CX X σ (E σ)) (ha : PA X (e :: es) t)
    (hN : X.N[i]? = some y) (hy : Vis X.env.scope y) (hyd : (y == ("__debug__" : Str)) = false := by decide) (hyc : (y == ("__classdict__" : Str)) = false := by decide)
    (hat : (m == ("__class__" : Str)) = false := by decide +kernel) (hst : starEach (e :: es) X.env = (false, eval e X.env) :: starEach es X.env := by rfl) (hpl : (backTo pos (starEach es X.env)).any (·.1) = false := by rfl)
    (hev : eval (.Call (.Attribute (.Call (.Name "super" p0) [] [] p1) m apos) (e :: es) [⟨none, .Name y kp, kpos⟩] pos) X.env = (do let ov ← attributeBase (.Call (.Name "super" p0) [] [] p1) m X.env (eval (.Call (.Name "super" p0) [] [] p1) X.env); standAt apos.atName; let (f, first) ← holding [ov] (do pure (← getAttr ov m true, [])); callWith pos f first (backTo pos (starEach (e :: es) X.env)) (backToKw pos (keywordEach [⟨none, .Name y kp, kpos⟩] X.env))) := by rfl) :
    PEat X (.func body X.env) (.Call (.Attribute (.Call (.Name "super" p0) [] [] p1) m apos) (e :: es) [⟨none, .Name y kp, kpos⟩] pos) (tSupD C ks n i sp E t) := by
  refine ⟨fun pins s σ G Q I h => ?_⟩
  obtain ⟨a, dx, fs, h0, hins, q⟩ := h
  refine sup_bound (pl := pure false) false S hsub ho hm ht hat I h0 hins hev fun qd s1 I2 hb => ?_
  have hrun := ha.run pos _ _ σ G _ I2 q
  rw [hst] at hrun ⊢
  refine callWith_kwd (P := fun h => PySem.W.MethP X.K qd g (.ref a) h) (by show (_ || (true || _)) = true; rw [Bool.true_or, Bool.or_true]) (PySem.W.keeps_M hfn) (evalArgs_kwd (thn hrun fun us s2 ⟨vs, H2, I3, r, b, zs, hb0, hl, hbo, hn, q2⟩ => ?_))
  obtain ⟨nm, es', n', ws, hob, rw_, hes⟩ := (show KwAt b (ks.zip zs) s2.heap from (I3.hok _ _ hbo).1)
  have hk1 : (ks.zip zs).map (·.1) = ks := by rw [List.map_fst_zip (by omega)]
  have hk2 : (ks.zip zs).map (·.2) = zs := by rw [List.map_snd_zip (by omega)]
  rw [hk1] at hes
  rw [hk2] at rw_
  refine ⟨b, es', n', ks.zip ws, hob, nm, hes, fun s' R es R0 => ?_, fun h' up => ?_⟩
  · subst es
    have I4 := I3.kept (t' := s2.toks) (h' := s2.heap.push (kwD #[] 0)) fun _ _ z => Heap.get?_push_of_some _ z
    refine ld_at I4 hN hb0 hy (fun u ru => ?_) hyd hyc
    obtain rfl : u = Value.ref b := ru
    exact R0
  · have I4 := I3.kept (t' := s2.toks) up
    refine ⟨⟨ClX.pin_at I4, I4.kIn⟩, ?_⟩
    exact thn (wpAny_call (PySem.W.method_call (ClX.pin_at I4) (runRK (us := .ref a :: us) (vs := .ref a :: vs) F hr (hx σ) I4 (.cons rfl r) rw_ (by rw [List.length_cons, hn]) hl q2))) fun _ _ y => ClX.unpinE y
/-- super().m(e, .., k = v, ..) -/
def tSupK (C : Addr) (ks : List Str) (n : Nat) (sp : Sp) (E : L2.St → XK) (t tk : TA) : TE := fun σ H Q => ∃ a dx fs, σ[0]? = some (some (.ref a)) ∧ H a = some (.ins C dx fs) ∧ t σ H fun vs H1 => tk σ H1 fun zs H2 => zs.length = ks.length ∧ vs.length + 1 = n ∧ sp ((.ref a :: vs) ++ zs) H2 Q (E σ)
theorem pe_supK (S : SupX X D f x) (hsub : PySem.W.mroIn X.K C (.ref D) = some true) (ho : PySem.W.nsIn X.K PySem.cStatics "thirdparty.any" = some none)
    (hm : PySem.W.ks_superIn X.K C D m = some (some (.ref g))) (ht : PySem.W.typeIn X.K (.ref g) = some (.type "function")) (hfn : PySem.W.fnIn X.K g = true) (F : FnRK X.prog X.w X.K X.mg X.base CX k g n ks sp) (hr : Room k X.A) (hx : ∀ σ, PassesAt CX X σ (E σ)) (ha : PA X (e :: es) t) (hkw : PK X kws tk)
    (hall : (backToKw pos (keywordEach kws X.env)).all (·.1.isSome) = true := by rfl) (hks : (backToKw pos (keywordEach kws X.env)).filterMap (·.1) = ks := by rfl)
    (hat : (m == ("__class__" : Str)) = false := by decide +kernel) (hst : starEach (e :: es) X.env = (false, eval e X.env) :: starEach es X.env := by rfl) (hpl : ((backTo pos (starEach (e :: es) X.env)).any (·.1) || (backToKw pos (keywordEach kws X.env)).any (·.1.isNone)) = false := by rfl)
    (hev : eval (.Call (.Attribute (.Call (.Name "super" p0) [] [] p1) m apos) (e :: es) kws pos) X.env = (do let ov ← attributeBase (.Call (.Name "super" p0) [] [] p1) m X.env (eval (.Call (.Name "super" p0) [] [] p1) X.env); standAt apos.atName; let (f, first) ← holding [ov] (getMethod ov m pl); callWith pos f first (backTo pos (starEach (e :: es) X.env)) (backToKw pos (keywordEach kws X.env))) := by rfl) :
    PEat X (.func body X.env) (.Call (.Attribute (.Call (.Name "super" p0) [] [] p1) m apos) (e :: es) kws pos) (tSupK C ks n sp E t tk) := by
  refine ⟨fun pins s σ G Q I h => ?_⟩
  obtain ⟨a, dx, fs, h0, hins, q⟩ := h
  refine sup_bound true S hsub ho hm ht hat I h0 hins hev fun qd s1 I2 hb => ?_
  refine PySem.W.callWith_of (P := fun h => PySem.W.MethP X.K qd g (.ref a) h) hpl (PySem.W.keeps_M hfn) (evalArgs_kw2 hall (thn (ha.run pos _ _ σ G _ I2 q) fun us s2 ⟨vs, H2, I3, r, q2⟩ => thn (hkw.run pos _ s2 σ H2 _ I3 q2) fun ws s3 ⟨zs, H3, I4, rz, hl, hn, q3⟩ => ⟨⟨ClX.pin_at I4, I4.kIn⟩, ?_⟩) hst)
  rw [hks]
  exact thn (wpAny_call (PySem.W.method_call (ClX.pin_at I4) (runRK (us := .ref a :: us) (vs := .ref a :: vs) F hr (hx σ) I4 (.cons rfl r) rz (by rw [List.length_cons, hn]) hl q3))) fun _ _ y => ClX.unpinE y
/-! ### C(e, .., k = v, ..) by such a promise -/
theorem run_mkK {pins : List (Addr × Obj)} {σ : L2.St} {G : Hp} {s : Shared} {Q : VK} {us ws : List Value} {vs zs : List V} (M : Mk X.K C f) (F : FnRK X.prog X.w X.K X.mg X.base CX k f (n + 1) ks sp) (hr : Room (k + 1) X.A) (hx : PassesAt CX X σ (E σ)) (I : Inv X pins σ G s) (r : Vals vs us) (rz : Vals zs ws) (l1 : vs.length = n) (l2 : zs.length = ks.length)
    (h : ∀ x dx, G x = none → G dx = none → dx ≠ x → sp ((.ref x :: vs) ++ zs) (upd (upd G dx (.own x)) x (.ins C dx [])) (fun v H2 => v = .non ∧ Q (.ref x) H2) (E σ)) : wpAny (model X.prog X.w) X.A (call (.ref C) us (ks.zip ws)) (EP X pins σ Q) X.xe s := by
  have J := Inv.made (C := C) I
  have w2 : Vals (V.ref (s.heap.objs.size + 1) :: vs) (Value.ref (s.heap.objs.size + 1) :: us) := .cons rfl r
  have hq := h (s.heap.objs.size + 1) s.heap.objs.size (I.hok.fresh (Nat.le_succ _)) (I.hok.fresh (Nat.le_refl _)) (Nat.ne_of_lt (Nat.lt_succ_self _))
  refine wpAny_call (make_map (f := f) I.kIn M.makes M.init (beq_iff_eq.mp M.fn) (codeAny_mono (F _ X.stack _ _ (Value.ref (s.heap.objs.size + 1) :: us) ws _ _ _ (E σ) (hr.make C us (ks.zip ws)) (J.env0.make C us (ks.zip ws)) w2 rz (by rw [List.length_cons, l1]) l2 hq) fun r s' z => ?_))
  match r, z with
  | .error e, z => exact hx pins _ _ e s' J z
  | .ok (.ret u), z =>
    obtain ⟨v, H', I3, rv, ev, q3⟩ := J.after z
    subst ev
    exact ⟨rv, V.ref (s.heap.objs.size + 1), H', I3, rfl, q3⟩
  | .ok .next, z => exact z.elim
  | .ok .brk, z => exact z.elim
  | .ok .cont, z => exact z.elim
theorem pe_mkK (M : Mk X.K C f) (F : FnRK X.prog X.w X.K X.mg X.base CX k f (n + 1) ks sp) (hr : Room (k + 1) X.A) (hg : Gl X x) (hm : X.mg x = some (.ref C)) (hx : ∀ σ, PassesAt CX X σ (E σ)) (ha : PA X (e :: es) t) (hkw : PK X kws tk)
    (hall : (backToKw pos (keywordEach kws X.env)).all (·.1.isSome) = true := by rfl) (hks : (backToKw pos (keywordEach kws X.env)).filterMap (·.1) = ks := by rfl) (hdb : (x == ("__debug__" : Str)) = false := by decide)
    (he : starEach (e :: es) X.env = (false, eval e X.env) :: starEach es X.env := by rfl) (hpl : ((backTo pos (starEach (e :: es) X.env)).any (·.1) || (backToKw pos (keywordEach kws X.env)).any (·.1.isNone)) = false := by rfl) :
    PE X (.Call (.Name x p) (e :: es) kws pos) (tMakeKZ C n ks.length sp (fun vs zs => vs ++ zs) E t tk) := by
  constructor
  intro pins s σ G Q I h
  have go : ∀ us s1, (∃ vs H1, Inv X pins σ H1 s1 ∧ Vals vs us ∧ tk σ H1 fun zs H2 => vs.length = n ∧ zs.length = ks.length ∧ ∀ x dx, H2 x = none → H2 dx = none → dx ≠ x → sp ((.ref x :: vs) ++ zs) (upd (upd H2 dx (.own x)) x (.ins C dx [])) (fun v H3 => v = .non ∧ Q (.ref x) H3) (E σ)) →
      wpAny (model X.prog X.w) X.A (evalAll ((backToKw pos (keywordEach kws X.env)).map (·.2))) (fun ws s2 => X.K.In s2.heap ∧ wpAny (model X.prog X.w) X.A (call (.ref C) us (((backToKw pos (keywordEach kws X.env)).filterMap (·.1)).zip ws)) (EP X pins σ Q) X.xe s2) X.xe s1 := by
    rintro us s1 ⟨vs, H1, I1, r, q⟩
    refine thn (hkw.run pos pins s1 σ H1 _ I1 q) ?_
    rintro ws s2 ⟨zs, H2, I2, rz, l1, l2, q2⟩
    refine ⟨I2.kIn, ?_⟩
    rw [hks]
    exact run_mkK M F hr (hx σ) I2 r rz l1 l2 q2
  exact wpAny_Call_Name_kw (ld_glob I hg hm (PySem.W.callWith_KW (h₀ := X.base) I.ok.mod.kin M.kp hall (thn (ha.run pos pins s σ G _ I h) go) hpl he) hdb)
theorem pe_mkK0 {E : XK} (M : Mk X.K C f) (F : FnRK X.prog X.w X.K X.mg X.base CX k f (n + 1) ks sp) (hr : Room (k + 1) X.A) (hg : Gl X x) (hm : X.mg x = some (.ref C)) (hx : Passes CX X E) (ha : PA X (e :: es) t) (hkw : PK X kws tk)
    (hall : (backToKw pos (keywordEach kws X.env)).all (·.1.isSome) = true := by rfl) (hks : (backToKw pos (keywordEach kws X.env)).filterMap (·.1) = ks := by rfl) (hdb : (x == ("__debug__" : Str)) = false := by decide)
    (he : starEach (e :: es) X.env = (false, eval e X.env) :: starEach es X.env := by rfl) (hpl : ((backTo pos (starEach (e :: es) X.env)).any (·.1) || (backToKw pos (keywordEach kws X.env)).any (·.1.isNone)) = false := by rfl) :
    PE X (.Call (.Name x p) (e :: es) kws pos) (tMakeK C n ks.length sp (fun vs zs => vs ++ zs) E t tk) :=
  pe_mkK (E := fun _ => E) M F hr hg hm (fun σ pins G s e s' I z => hx pins σ G s e s' I z) ha hkw hall hks hdb he hpl
end
/-! ### a def with keyword-only parameters and **y whose first statement says super() -/
def kwSets (d : Addr) (l : List (Str × Value)) : Sem PUnit := forIn l PUnit.unit fun (p : Str × Value) (_ : PUnit) => (do nsSet d p.1 p.2; pure (ForInStep.yield PUnit.unit) : Sem _)
def BindsK (fd : FuncData) (n : Nat) (ps ks lk : List Str) (pd : Str) : Prop := ∀ us ws ls : List Value, us.length = n → ws.length + n = ps.length → ls.length = lk.length →
  bindArgs fd ⟨us, ks.zip (ws ++ ls)⟩ = ((alloc ({ cls := .type "dict", data := .dict #[] } : Obj) : Sem Addr) >>= fun d => kwSets d (lk.zip ls) >>= fun _ => pure (ps.zip (us ++ ws) ++ [(pd, Value.ref d)]))
def KwSp (n : Nat) (ps lk : List Str) (sp : Sp) : Sp := fun vs H Q E => ∃ as zs ls, vs = as ++ (zs ++ ls) ∧ as.length = n ∧ zs.length + n = ps.length ∧ ls.length = lk.length ∧ ∀ p, H p = Option.none → sp (as ++ zs ++ [V.ref p]) (upd H p (KwO p (lk.zip ls))) Q E
theorem FunS.bindsK {P : Program} {K : PySem.W.Frag} {x qual pd : Str} {params : Arguments} {body : List Stmt} {scope : Scope} {D f : Addr} {fd : FuncData} {n : Nat} {ps ks lk : List Str} (F : FunS P K x qual params body scope D f fd)
    (h : ∀ (cl : List (Str × Addr)) (doc pm : Value) (an : Option Addr) (c1 c2 : Value), BindsK (PySem.W.fnX x qual params body scope cl .none .none doc pm an c1 c2) n ps ks lk pd) : BindsK fd n ps ks lk pd := by
  obtain ⟨oc, od, doc, pm, an, cda, ct, osl, cc, rfl, _⟩ := F.ex
  exact h _ _ _ _ _ _
section
variable {P : Program} {w : World} {K : PySem.W.Frag} {mg : Str → Option Value} {base : Heap} {A : Around} {outer : List Env} {s : Shared} {H : Hp} {E : Value → Shared → Prop}
theorem env0_laidG {u : HO} {h' : Heap} {t' : Nat} (kp : ∀ b x, s.heap.get? b = some x → h'.get? b = some x) (hz : ∃ o, h'.get? s.heap.objs.size = some o) (e0 : Env0 P w K mg base A outer s H) (new : ObjOk P w (upd H s.heap.objs.size u) h' s.heap.objs.size u) :
    Env0 P w K mg base A outer { s with heap := h', toks := t' } (upd H s.heap.objs.size u) := by
  refine ⟨e0.frames, e0.mod, fun b x e => ⟨kp b x (e0.bs b x e).1, ?_⟩, ?_, Heap.FunFrames.of_keeps (fun b x e _ => ⟨x, kp b x e, rfl⟩) e0.funs, fun b hb => ?_, e0.hok.laid kp (Nat.le_refl _) new, e0.bare⟩
  · rw [upd_ne (Nat.ne_of_lt (Heap.lt_size (e0.bs b x e).1))]
    exact (e0.bs b x e).2
  · obtain ⟨o, ho⟩ := hz
    exact Nat.le_trans e0.bsz (Nat.le_of_lt (Heap.lt_size ho))
  · obtain ⟨_, x, hx, _⟩ := e0.funs.mem hb
    rw [upd_ne (Nat.ne_of_lt (Heap.lt_size hx))]
    exact e0.frf b hb
theorem wp_kwSets {l : List (Str × Value)} (hl : l.length ≤ 1) {Q : PUnit → Shared → Prop} (h : ∀ h' t' es m, (∀ b x, s.heap.get? b = some x → h'.get? b = some x) → h'.get? s.heap.objs.size = some (kwD es m) → KwEs es l → Q ⟨⟩ { s with heap := h', toks := t' }) :
    wpAny (model P w) A (kwSets s.heap.objs.size l) Q E { s with heap := s.heap.push (kwD #[] 0) } := by
  have D : (s.heap.push (kwD #[] 0)).get? s.heap.objs.size = some (kwD #[] 0) := Heap.get?_push_size _ rfl
  unfold kwSets
  match l, hl with
  | [], _ =>
    rw [List.forIn_nil]
    exact wpAny_pure (h _ s.toks _ 0 (fun _ _ e => Heap.get?_push_of_some _ e) D (.inl ⟨rfl, rfl⟩))
  | [(y, v)], _ =>
    rw [List.forIn_cons]
    refine wpAny_bind (wpAny_bind ?_)
    unfold nsSet
    refine wpAny_bind (wpAny_bind (wpAny_askSetting (wpAny_pure (wpAny_bind (wpAny_mkText (wpAny_bind (wpAny_loadPart D ?_)))))))
    simp only [kwD]
    rw [show aRefKeyMayBeTheName y #[] = false by rw [aRefKeyMayBeTheName_at]; simp]
    refine wpAny_updatePart D ?_
    refine wpAny_pure ?_
    refine wpAny_pure ?_
    have e : Obj.putName y (if y.cps.isEmpty = true then 0 else reduceHash ((model P w).w.params.strHash y.cps)) (.str y s.toks) v (kwD #[] 0) = kwD #[⟨if y.cps.isEmpty = true then 0 else reduceHash ((model P w).w.params.strHash y.cps), .str y s.toks, v⟩] 1 := by
      exact PySem.W.putName_dict y _ _ v [] 0
    refine h _ (s.toks + 1) #[⟨if y.cps.isEmpty = true then 0 else reduceHash ((model P w).w.params.strHash y.cps), .str y s.toks, v⟩] 1 (fun b o e2 => ?_) ?_ (.inr ⟨_, y, _, v, rfl, rfl⟩)
    · have nb : b ≠ s.heap.objs.size := fun z => absurd (Heap.lt_size e2) (by rw [z]; exact Nat.lt_irrefl _)
      show ((s.heap.push (kwD #[] 0)).update s.heap.objs.size _).get? b = some o
      rw [Heap.get?_update_ne _ _ _ _ nb]
      exact Heap.get?_push_of_some _ e2
    · rw [← e]
      exact Heap.get?_update_self _ D rfl
end
theorem FunS.okKw {CX : CXT} {P : Program} {w : World} {K : PySem.W.Frag} {mg : Str → Option Value} {base : Heap} {x qual x0 pd : Str} {params : Arguments} {st : Stmt} {rest : List Stmt} {scope : Scope} {D f : Addr} {fd : FuncData} {N ps ks lk : List Str} {k n : Nat} {sp : Sp} {ar : Arg}
    (F : FunS P K x qual params (st :: rest) scope D f fd) (S : SScope N (ps ++ [pd]) ["__class__"] scope) (hCX : CXUp CX) (hbs : BindsK fd n ps ks lk pd) (hlk : lk.length ≤ 1) (hks : ks.length = ps.length - n + lk.length) (hs : scope.names.lookup ("super" : Str) = some .globalImplicit) (hp : (params.posonlyargs ++ params.args).head? = some ar) (har : ar.arg = x0) (hN : N[0]? = some x0) (hx : scope.names.lookup x0 = some .local ∨ scope.names.lookup x0 = some .cell) (hxd : (x0 == ("__classdict__" : Str)) = false)
    (top : (P.main.scope.names.lookup ("super" : Str)).isSome = false) (hm : mg "super" = Option.none) (hD : ∃ cd, PySem.W.clsIn K D = some cd) (hnc : scope.names.lookup ("__class__" : Str) = some .free)
    (hbody : ∀ (cc cda : Addr) (A : Around) (outer : List Env) (s : Shared) (H : Hp) (vs : List V) (Q : VK) (E : XK), Room k (A.deeper (PySem.W.envX qual scope s.heap.objs.size f (.ref cda) (ownC s.heap.objs.size scope ++ [(("__class__" : Str), cc)]))) → sp vs H Q E →
      SupX (scx CX P w K mg base N ⟨x, qual, params, st :: rest, scope, ownC s.heap.objs.size scope ++ [(("__class__" : Str), cc)], cda⟩ f A outer s H E) D f x0 →
      ∃ t1 t2, PSat (scx CX P w K mg base N ⟨x, qual, params, st :: rest, scope, ownC s.heap.objs.size scope ++ [(("__class__" : Str), cc)], cda⟩ f A outer s H E) (.func (st :: rest) (PySem.W.envX qual scope s.heap.objs.size f (.ref cda) (ownC s.heap.objs.size scope ++ [(("__class__" : Str), cc)]))) st t1 ∧
        PSs (scx CX P w K mg base N ⟨x, qual, params, st :: rest, scope, ownC s.heap.objs.size scope ++ [(("__class__" : Str), cc)], cda⟩ f A outer s H E) rest t2 ∧ tSeq t1 t2 { nx := fun _ H' => Q .non H', rt := Q } (NdefX.startF N vs [Option.none]) H) : FnRK P w K mg base CX (k + 1) f n ks (KwSp n ps lk sp) := by
  obtain ⟨oc, od, doc, pm, an, cda, ct, osl, cc, rfl, lk0, hcd, ⟨cl1, cd1, cs1, hcell⟩, cl2, cd2, vs2, cs2, file, tf, hcode, hvs2, hfile⟩ := F.ex
  intro A outer s H us0 us1 vs0 vs1 Q E hr e0 r0 r1 l0 l1 hsp
  obtain ⟨as, zs, ls, ev, la, lz, ll, hq0⟩ := hsp
  obtain ⟨e1, e2⟩ := List.append_inj ev (by rw [l0, la])
  subst e1 e2
  obtain ⟨u1, u2, eu, ra, rb⟩ := vals_split r1
  subst eu
  have hn : H s.heap.objs.size = Option.none := e0.hok.fresh (Nat.le_refl _)
  have ll2 : u2.length = lk.length := by rw [← rb.length, ll]
  have hbnd : Bnd CX P w K mg base (PySem.W.fnX x qual params (st :: rest) scope [("__class__", cc)] .none .none doc pm an (.ref cda) ct) ⟨us0, ks.zip (u1 ++ u2)⟩ (ps ++ [pd]) A outer s H E (fun xs H2 => ∃ p, H p = Option.none ∧ xs = vs0 ++ zs ++ [V.ref p] ∧ H2 = upd H p (KwO p (lk.zip ls))) := fun A' Ex Q' h => by
    rw [hbs us0 u1 u2 (by rw [← r0.length, l0]) (by rw [← ra.length, lz]) ll2]
    refine wpAny_bind (wpAny_alloc (wpAny_bind (wp_kwSets (by rw [List.length_zip]; omega) fun h' t' es m kp hd hes => wpAny_pure ?_)))
    have hm1 : (lk.zip ls).map (·.1) = lk := by rw [List.map_fst_zip (by omega)]
    have hm2 : (lk.zip ls).map (·.2) = ls := by rw [List.map_snd_zip (by omega)]
    have new : ObjOk P w (upd H s.heap.objs.size (KwO s.heap.objs.size (lk.zip ls))) h' s.heap.objs.size (KwO s.heap.objs.size (lk.zip ls)) := kwO_ok ⟨by
      have z := env0_big e0
      exact beq_eq_false_iff_ne.mpr (fun e => by rw [e] at z; exact Nat.lt_irrefl _ z), es, m, u2, hd, by rw [hm2]; exact rb, by rw [hm1]; exact hes⟩
    have un : Un (frs outer) [] H (upd H s.heap.objs.size (KwO s.heap.objs.size (lk.zip ls))) s.heap h' := Un.laid kp (Nat.le_refl _) hn
    have z := h _ _ (vs0 ++ zs ++ [V.ref s.heap.objs.size]) (us0 ++ u1 ++ [Value.ref s.heap.objs.size]) (env0_laidG (t' := t') kp ⟨_, hd⟩ e0 new) un rfl (fun e s' => hCX outer s H _ _ E e s' un kp rfl) ((r0.append ra).append (.cons rfl .nil))
      (by rw [List.length_append, List.length_append, List.length_append, l0, List.length_singleton, List.length_singleton]; omega) ⟨_, hn, rfl, rfl⟩
    rw [List.zip_append (by rw [List.length_append, ← r0.length, ← ra.length, l0]; omega)] at z
    exact z
  have KX0 : K.In s.heap := e0.mod.kin.keeps fun b o e => (e0.bs b o e).1
  refine codeAny_call_function hr.depth (KX0 _ _ lk0) rfl S.co S.gen rfl (PySem.W.codeRec_of KX0 hcd) (hbnd _ _ _ fun s2 H2 vs us e2 un ho hxe r hl2 g => ?_)
  obtain ⟨p, hpn, rfl, rfl⟩ := g
  have hsp := hq0 p hpn
  have KX : K.In s2.heap := e2.mod.kin.keeps fun b o e => (e2.bs b o e).1
  have lim : s2.heap.NoLimit := e2.mod.nolimit.keeps fun b o e => (e2.bs b o e).1
  have hk : ∀ y ∈ (ps ++ [pd]).zip us, scope.names.lookup y.1 = some .local ∨ (scope.names.lookup y.1 = some .cell ∧ ((ownC s2.heap.objs.size scope).lookup y.1).isSome = true) := fun y hy => by
    rcases S.par y.1 (List.of_mem_zip hy).1 with z | z
    · exact .inl z
    · obtain ⟨c, e⟩ := cell_has (n := s2.heap.objs.size + 1) z
      exact .inr ⟨z, by show ((ownC s2.heap.objs.size scope).lookup y.1).isSome = true; rw [e]; rfl⟩
  refine newEnv_cl S.kind hk fun s1 xx => ⟨lim.keeps xx.toInCall.keep, PySem.ks_codeAny_funcAt ?_⟩
  have zc := e2.mod.kin _ _ hcell
  have I := inv_scx (CX := CX) (E := E) (f := f) (x0 := x) (qual := qual) (params := params) (body := st :: rest) (cda := cda) S hr.hd e2 hl2 r (e2.bs _ _ zc).2 ⟨_, _, KX _ _ hcell, rfl⟩ xx
  have hcl : (ownC s2.heap.objs.size scope ++ [(("__class__" : Str), cc)]).lookup ("__class__" : Str) = some cc := by
    rw [List.lookup_append]
    cases z : (ownC s2.heap.objs.size scope).lookup ("__class__" : Str) with
    | none => simp [List.lookup]
    | some c => exact absurd (List.mem_singleton_self _) (S.ncl _ (cells_mem _ _ z) rfl)
  have SX : SupX (scx CX P w K mg base N ⟨x, qual, params, st :: rest, scope, ownC s2.heap.objs.size scope ++ [(("__class__" : Str), cc)], cda⟩ f A outer s2 (upd H p (KwO p (lk.zip ls))) E) D f x0 :=
    ⟨hs, hnc, rfl, ⟨_, _, _, _, ar, lk0, hp, har⟩, ⟨cda, _, _, _, _, file, tf, rfl, hcode, hvs2, hfile⟩, top, hN, hx.elim .inl fun z => .inr (.inl z), hxd, ⟨cc, _, _, _, hcl, hcell⟩, hm, hD⟩
  obtain ⟨t1, t2, p1, p2, hq⟩ := hbody cc cda A outer s2 _ _ Q E (hr.deeper _) hsp SX
  have fin : ∀ {σ' : L2.St} {H' : Hp} {v : V} {u : Value} {s' : Shared}, Inv (scx CX P w K mg base N ⟨x, qual, params, st :: rest, scope, ownC s2.heap.objs.size scope ++ [(("__class__" : Str), cc)], cda⟩ f A outer s2 (upd H p (KwO p (lk.zip ls))) E) [] σ' H' s' → RelV v u → Q v H' → CE outer P w H s Q u s' :=
    fun {σ' H' v u s'} J rv q => ⟨v, H', J.os.trans ho, J.bare, un.trans J.base, J.hok, rv, q⟩
  refine PySem.ks_wpAt_mono (PySem.ks_wpAt_execs_cons (PySem.ks_wpAt_mono (p1.run [] _ _ _ _ I hq) (fun fl s' z => ?_) fun e s' z => z)) (fun fl s' z => z) (fun e s' hs => wpAny_mono hs (fun _ s'' z => hxe e s'' z) fun e' s'' z => hxe e' s'' z)
  cases fl with
  | brk => obtain ⟨_, _, _, q⟩ := z; exact q.elim
  | cont => obtain ⟨_, _, _, q⟩ := z; exact q.elim
  | ret u =>
    obtain ⟨v, σ', H', J, rv, q⟩ := z
    exact fin J rv q
  | next =>
    obtain ⟨σ', H', J, q⟩ := z
    refine wpAt_of_wpAny (wpAny_mono (p2.run [] s' σ' H' _ J q) (fun fl s2 z2 => ?_) fun e s2 z2 => z2)
    cases fl with
    | brk => obtain ⟨_, _, _, q⟩ := z2; exact q.elim
    | cont => obtain ⟨_, _, _, q⟩ := z2; exact q.elim
    | ret u =>
      obtain ⟨v, σ2, H2, J2, rv, q⟩ := z2
      exact fin J2 rv q
    | next =>
      obtain ⟨σ2, H2, J2, q⟩ := z2
      exact fin (v := V.non) (u := Value.none) J2 rfl q
end Z
namespace Z
open PySem L2 StX PySem.Spec PyProof.Rows
/-! ### super() anywhere in a def's own statements -/
section
variable {M : Model} {A : Around} {c : Code} {E : Value → Shared → Prop} {s : Shared} {env : Env}
theorem at_Return {e : Expr} {pos : Pos} {Q : Flow → Shared → Prop} (h : PySem.wpAt M A c (eval e env) (fun v => Q (.ret v)) E s) : PySem.wpAt M A c (exec (.Return (some e) pos) env) Q E s := fun Γ p hc hΓ => by
  simp only [exec_Return_some, Sem.wp_bind', Sem.wp_cmd_standAt, Sem.wp_pure']
  exact h Γ _ hc hΓ
theorem at_and {e₁ e₂ : Expr} {rest : List Expr} {pos : Pos} {Q : Value → Shared → Prop}
    (h : PySem.wpAt M A c (eval e₁ env) (fun v s₁ => wpAny M A (truthy v) (fun b s₂ => if b then wpAny M A (eval (.BoolOp .And (e₂ :: rest) pos) env) Q E s₂ else Q v s₂) E s₁) E s) : PySem.wpAt M A c (eval (.BoolOp .And (e₁ :: e₂ :: rest) pos) env) Q E s := by
  show PySem.wpAt M A c (do
    let v ← eval e₁ env
    standAt pos
    let c ← holding [v] (truthy v)
    match BoolOp.And, c with
    | .And, false | .Or, true => pure v
    | _, _ => boolOp pos .And (eval e₂ env :: evalEach rest env)) Q E s
  refine PySem.wpAt_bind (PySem.wpAt_mono h (fun v s₁ h₁ => wpAt_of_wpAny (wpAny_bind (wpAny_standAt (wpAny_bind (wpAny_holding (wpAny_mono h₁ (fun c s₂ h₂ => ?_) fun _ _ x => x)))))) fun _ _ x => x)
  cases c with
  | false => exact wpAny_pure h₂
  | true => exact h₂
theorem at_not {x : Expr} {pos : Pos} {whole : Sem Value} {Q : Bool → Shared → Prop} (h : PySem.wpAt M A c (isTrue x env (eval x env)) (fun b s' => Q (!b) s') E s) : PySem.wpAt M A c (isTrue (.UnaryOp .Not x pos) env whole) Q E s := by
  show PySem.wpAt M A c (do return !(← isTrue x env (eval x env))) Q E s
  exact PySem.wpAt_bind (PySem.wpAt_mono h (fun b s' h' => wpAt_of_wpAny (wpAny_pure h')) fun _ _ x => x)
theorem at_plain {e : Expr} {whole : Sem Value} {Q : Bool → Shared → Prop} (h : PySem.wpAt M A c whole (fun v s₁ => wpAny M A (truthy v) Q E s₁) E s) (he : isTrue e env whole = (do let v ← whole; standAt e.pos; holding [v] (truthy v)) := by rfl) : PySem.wpAt M A c (isTrue e env whole) Q E s := by
  rw [he]
  exact PySem.wpAt_bind (PySem.wpAt_mono h (fun v s₁ h₁ => wpAt_of_wpAny (wpAny_bind (wpAny_standAt (wpAny_holding h₁)))) fun _ _ x => x)
theorem at_For {target iter : Expr} {body orelse : List Stmt} {pos : Pos} {Q : Flow → Shared → Prop}
    (h : PySem.wpAt M A c (eval iter env) (fun x s₁ => wpAny M A (pyIter x) (fun it s₂ => codeAny M A (.forLoop target it body orelse env) (fun r s' => match r with | .ok f => Q f s' | .error e => cameBackBy M A env E e s') s₂) E s₁) E s)
    (hs : ∀ x, foldedSetIterable iter env x = pure x := by intro _; rfl) : PySem.wpAt M A c (exec (.For target iter body orelse pos) env) Q E s := by
  rw [exec_For]
  exact PySem.wpAt_bind (wpAt_of_wpAny (wpAny_standAt (PySem.wpAt_bind (PySem.wpAt_mono h (fun x s₁ h₁ => wpAt_of_wpAny (wpAny_bind (wpAny_of_eq (hs x) (wpAny_bind (wpAny_standAt (wpAny_bind (wpAny_holding
    (wpAny_mono h₁ (fun it s₂ h₂ => wpAny_runOwn h₂) fun _ _ h' => h')))))))) fun _ _ h' => h'))))
end
section
variable {X : Cx} {c : Code} {a b e : Expr} {rest : List Expr} {st : Stmt} {sts : List Stmt} {pos : Pos} {t u : TS} {ta tb te : TE}
structure PSsat (X : Cx) (c : Code) (sts : List Stmt) (t : TS) : Prop where
  run : ∀ (pins : List (Addr × Obj)) (s : Shared) (σ : L2.St) (G : Hp) (D : Ends), Inv X pins σ G s → t D σ G → PySem.wpAt (model X.prog X.w) X.A c (execs sts X.env) (SP X pins D) X.xe s
theorem psat_of (h : PS X st t) : PSat X c st t := ⟨fun pins s σ G D I q => wpAt_of_wpAny (h.run pins s σ G D I q)⟩
theorem pssat_of (h : PSs X sts t) : PSsat X c sts t := ⟨fun pins s σ G D I q => wpAt_of_wpAny (h.run pins s σ G D I q)⟩
theorem pssat_cons (h1 : PSat X c st t) (h2 : PSsat X c sts u) : PSsat X c (st :: sts) (tSeq t u) := by
  refine ⟨fun pins s σ H D I h => ?_⟩
  refine PySem.ks_wpAt_execs_cons (PySem.ks_wpAt_mono (h1.run pins s σ H { D with nx := u D } I h) (fun f s1 q => ?_) fun _ _ z => z)
  cases f with
  | next =>
    obtain ⟨σ', H', I', q⟩ := q
    exact h2.run pins s1 σ' H' D I' q
  | ret v => exact q
  | brk => exact q
  | cont => exact q
theorem pe_andAt (ha : PEat X c a ta) (hb : PE X (.BoolOp .And (b :: rest) pos) tb) : PEat X c (.BoolOp .And (a :: b :: rest) pos) (tAndV ta tb) := by
  refine ⟨fun pins s σ H Q I h => ?_⟩
  refine at_and (PySem.ks_wpAt_mono (ha.run pins s σ H _ I h) (fun v s1 ⟨x, H1, I1, r1, q1⟩ => ?_) fun _ _ z => z)
  obtain ⟨c, rfl, q1⟩ := q1
  cases r1
  refine wpAny_truthy_bool ?_
  cases c with
  | true => exact hb.run pins s1 σ H1 Q I1 q1
  | false => exact ⟨.bl false, H1, I1, rfl, q1⟩
theorem ps_supR (he : PEat X c e te) : PSat X c (.Return (some e) pos) (tRet te) :=
  ⟨fun pins s σ H D I h => at_Return (PySem.ks_wpAt_mono (he.run pins s σ H _ I h) (fun v s1 ⟨x, H1, I1, r1, q1⟩ => ⟨x, σ, H1, I1, r1, q1⟩) fun _ _ z => z)⟩
/-- if not e -/
theorem ps_supIfN {p : Pos} {ss us : List Stmt} (he : PEat X c e te) (hs : PSs X ss t) (hu : PSs X us u) (hw : ∀ whole, isTrue e X.env whole = (do let v ← whole; standAt e.pos; holding [v] (truthy v)) := by intro _; rfl) : PSat X c (.If (.UnaryOp .Not e p) ss us pos) (tIfS (tNot (tB te)) t u) := by
  refine ⟨fun pins s σ H D I h => ?_⟩
  refine PySem.ks_wpAt_If (at_not (at_plain (PySem.ks_wpAt_mono (he.run pins s σ H _ I h) (fun v s1 ⟨x, H1, I1, r1, q1⟩ => ?_) fun _ _ z => z) (hw _)))
  obtain ⟨d, rfl, q⟩ := q1
  cases r1
  refine wpAny_truthy_bool ?_
  cases d with
  | true => exact wpAt_of_wpAny (hu.run pins s1 σ H1 D I1 q)
  | false => exact wpAt_of_wpAny (hs.run pins s1 σ H1 D I1 q)
/-- for x in a tuple that super().m gives -/
theorem ps_forAt {tg iter : Expr} {body : List Stmt} {g : TG} {ts : TS} (hp : PassesOwn (model X.prog X.w) X.A X.env X.xe) (hc : X.calm = true) (hi : PEat X c iter te) (hg : PG X tg g) (hb : PSs X body ts)
    (hs : ∀ x, foldedSetIterable iter X.env x = pure x := by intro _; rfl) : PSat X c (.For tg iter body [] pos) (tFor (iTup X.K te) g ts) := by
  refine ⟨fun pins s σ H D I h => ?_⟩
  have ite : ∀ (R : It → Hp → Prop) (v : Value) (s1 : Shared), EP X pins σ (fun x H1 => ∃ a, x = .ref a ∧ (∃ xs, SqT X.K H1 a xs) ∧ R (Itt X.K a) H1) v s1 → wpAny (model X.prog X.w) X.A (pyIter v) (PIE X pins σ tg R) X.xe s1 := by
    rintro R v s1 ⟨x, H1, I1, r1, a, e, ⟨xs, hq⟩, q⟩
    subst e
    cases r1
    obtain ⟨its, rv, p, hz⟩ := I1.tuple hq
    refine wpAny_pyIter_tuple (show s1.heap.IsTuple a its.toArray from p) ?_
    refine ⟨s1.heap.objs.size, [s1.heap.objs.size], _, _, H1, rfl, I1.kept (t' := s1.toks) fun b o e => Heap.get?_push_of_some _ e, turn_tuple a _, ⟨_, Heap.get?_push_size _ rfl, rfl, rfl⟩, fun b hb => ?_, q⟩
    have e : b = s1.heap.objs.size := by simpa using hb
    subst e
    exact I1.fpOk (Nat.le_refl _) (I1.hok.fresh (Nat.le_refl _))
  refine at_For (PySem.ks_wpAt_mono (hi.run pins s σ H _ I h) (fun v s1 z => thn (ite (fun J H1 => ∃ W : Nat → Nat → L2.St → Hp → Prop, (∃ m, W 0 m σ H1) ∧ ∀ i m σ H, W i m σ H → (J.stop i H ∧ D.nx σ H) ∨ (J.go i H ∧ ∃ N : L2.St → Hp → Prop, (∀ σ' H', N σ' H' → ∃ m', m' < m ∧ W (i + 1) m' σ' H') ∧ ∀ x H', J.yld i H x H' → g x σ H' fun σ2 H2 => ts { D with nx := N, ct := N, bk := D.nx } σ2 H2)) v s1 z) fun itv s2 h2 => ?_) fun _ _ z => z) hs
  obtain ⟨it, fp, tn, J, H2, e, I2, T, st2, f2, W, ⟨m0, w0⟩, turn⟩ := h2
  subst e
  -- what stays true of the iterator's objects through the loop
  have stat : ∀ {H' : Hp}, (∀ b ∈ fp, H' b = none) → ∀ b ∈ fp, FpOk X pins H' b := fun hn b hb => ⟨hn b hb, (f2 b hb).2⟩
  refine codeAny_forLoop_any (fun n s' => ∃ i σ' H', Inv X pins σ' H' s' ∧ tn i s'.heap ∧ (∀ b ∈ fp, H' b = none) ∧ W i n σ' H') ?_ m0 ⟨0, σ, H2, I2, st2, fun b hb => (f2 b hb).1, w0⟩
  rintro n s3 ⟨i, σ3, H3, I3, st3, fr3, w3⟩
  rcases turn i n σ3 H3 w3 with ⟨stop, qn⟩ | ⟨go, N, hN, step⟩
  · refine wpAny_passesOwn hp (thn (T.done X rfl rfl rfl hc i pins s3 σ3 H3 X.xe I3 (stat fr3) st3 stop) fun r s4 ⟨hr, I4⟩ => ?_)
    subst hr
    exact wpAny_execs_nil ⟨σ3, H3, I4, qn⟩
  · refine wpAny_passesOwn hp (thn (T.item X rfl rfl rfl hc i pins s3 σ3 H3 X.xe I3 (stat fr3) st3 go) fun r s4 ⟨u, hr, h4⟩ => ?_)
    subst hr
    refine wpAny_passesOwn hp (thn h4 fun _ s5 ⟨x, H5, I5, r5, y5, st5, fr5⟩ => ?_)
    have I5' := I5.pinned (stat fr5) (T.obj _ _ st5)
    refine wpAny_passesOwn hp (thn (hg.run _ s5 σ3 H5 x u _ I5' r5 (step x H5 y5)) fun _ s6 ⟨σ6, H6, I6, q6⟩ => ?_)
    refine wpAny_passesOwn hp (thn (hb.run _ s6 σ6 H6 _ I6 q6) fun f s7 q7 => ?_)
    have again : ∀ {σ7 : L2.St} {H7 : Hp}, Inv X (pins ++ pinsAt fp s5.heap) σ7 H7 s7 → N σ7 H7 → ∃ m, m < n ∧ ∃ i σ' H', Inv X pins σ' H' s7 ∧ tn i s7.heap ∧ (∀ b ∈ fp, H' b = none) ∧ W i m σ' H' := fun {σ7 H7} I7 n7 => by
      obtain ⟨m', hm, w7⟩ := hN σ7 H7 n7
      refine ⟨m', hm, i + 1, σ7, H7, I7.unpinned, T.keep _ _ _ st5 fun b hb o e => (I7.pin (b, o) (List.mem_append_right _ (List.mem_append_right _ (mem_pinsAt hb e)))).1, fun b hb => ?_, w7⟩
      obtain ⟨o, e, d⟩ := T.obj _ _ st5 b hb
      exact (I7.pin (b, o) (List.mem_append_right _ (List.mem_append_right _ (mem_pinsAt hb e)))).2.1
    cases f with
    | next => obtain ⟨σ7, H7, I7, n7⟩ := q7; exact again I7 n7
    | cont => obtain ⟨σ7, H7, I7, n7⟩ := q7; exact again I7 n7
    | brk => obtain ⟨σ7, H7, I7, q7⟩ := q7; exact ⟨σ7, H7, I7.unpinned, q7⟩
    | ret v => obtain ⟨x7, σ7, H7, I7, r7, q7⟩ := q7; exact ⟨x7, σ7, H7, I7.unpinned, r7, q7⟩
end
theorem FunS.okP {CX : CXT} {P : Program} {w : World} {K : PySem.W.Frag} {mg : Str → Option Value} {base : Heap} {x qual x0 : Str} {params : Arguments} {body : List Stmt} {scope : Scope} {D f : Addr} {fd : FuncData} {N ps : List Str} {k : Nat} {sp : Sp} {ar : Arg}
    (F : FunS P K x qual params body scope D f fd) (S : SScope N ps ["__class__"] scope) (hs : scope.names.lookup ("super" : Str) = some .globalImplicit) (hp : (params.posonlyargs ++ params.args).head? = some ar) (har : ar.arg = x0) (hN : N[0]? = some x0) (hx : scope.names.lookup x0 = some .local ∨ scope.names.lookup x0 = some .cell) (hxd : (x0 == ("__classdict__" : Str)) = false)
    (top : (P.main.scope.names.lookup ("super" : Str)).isSome = false) (hm : mg "super" = none) (hD : ∃ cd, PySem.W.clsIn K D = some cd) (hnc : scope.names.lookup ("__class__" : Str) = some .free) (len : ∀ vs H Q E, sp vs H Q E → vs.length = ps.length)
    (hbody : ∀ (cc cda : Addr) (A : Around) (outer : List Env) (s : Shared) (H : Hp) (vs : List V) (Q : VK) (E : XK), Room k (A.deeper (PySem.W.envX qual scope s.heap.objs.size f (.ref cda) (ownC s.heap.objs.size scope ++ [(("__class__" : Str), cc)]))) → sp vs H Q E →
      SupX (scx CX P w K mg base N ⟨x, qual, params, body, scope, ownC s.heap.objs.size scope ++ [(("__class__" : Str), cc)], cda⟩ f A outer s H E) D f x0 →
      ∃ t, PSsat (scx CX P w K mg base N ⟨x, qual, params, body, scope, ownC s.heap.objs.size scope ++ [(("__class__" : Str), cc)], cda⟩ f A outer s H E) (.func body (PySem.W.envX qual scope s.heap.objs.size f (.ref cda) (ownC s.heap.objs.size scope ++ [(("__class__" : Str), cc)]))) body t ∧
        t { nx := fun _ H' => Q .non H', rt := Q } (NdefX.startF N vs [none]) H) : FnOk P w K mg base CX (k + 1) f fd ps sp := by
  obtain ⟨oc, od, doc, pm, an, cda, ct, osl, cc, rfl, lk, hcd, ⟨cl1, cd1, cs1, hcell⟩, cl2, cd2, vs2, cs2, file, tf, hcode, hvs2, hfile⟩ := F.ex
  refine ⟨len, fun A outer s H args us vs Q E hr e0 hb r hsp => ?_⟩
  have hl := len _ _ _ _ hsp
  have KX : K.In s.heap := e0.mod.kin.keeps fun b o e => (e0.bs b o e).1
  have lim : s.heap.NoLimit := e0.mod.nolimit.keeps fun b o e => (e0.bs b o e).1
  have hk : ∀ y ∈ ps.zip us, scope.names.lookup y.1 = some .local ∨ (scope.names.lookup y.1 = some .cell ∧ ((ownC s.heap.objs.size scope).lookup y.1).isSome = true) := fun y hy => by
    rcases S.par y.1 (List.of_mem_zip hy).1 with z | z
    · exact .inl z
    · obtain ⟨c, e⟩ := cell_has (n := s.heap.objs.size + 1) z
      exact .inr ⟨z, by show ((ownC s.heap.objs.size scope).lookup y.1).isSome = true; rw [e]; rfl⟩
  refine codeAny_call_function hr.depth (KX _ _ lk) rfl S.co S.gen rfl (PySem.W.codeRec_of KX hcd) (hb _ _ _ _ ?_)
  refine newEnv_cl S.kind hk fun s1 xx => ⟨lim.keeps xx.toInCall.keep, PySem.ks_codeAny_funcAt ?_⟩
  have zc := e0.mod.kin _ _ hcell
  have I := inv_scx (CX := CX) (E := E) (f := f) (x0 := x) (qual := qual) (params := params) (body := body) (cda := cda) S hr.hd e0 hl r (e0.bs _ _ zc).2 ⟨_, _, KX _ _ hcell, rfl⟩ xx
  have hcl : (ownC s.heap.objs.size scope ++ [(("__class__" : Str), cc)]).lookup ("__class__" : Str) = some cc := by
    rw [List.lookup_append]
    cases z : (ownC s.heap.objs.size scope).lookup ("__class__" : Str) with
    | none => simp [List.lookup]
    | some c => exact absurd (List.mem_singleton_self _) (S.ncl _ (cells_mem _ _ z) rfl)
  have SX : SupX (scx CX P w K mg base N ⟨x, qual, params, body, scope, ownC s.heap.objs.size scope ++ [(("__class__" : Str), cc)], cda⟩ f A outer s H E) D f x0 :=
    ⟨hs, hnc, rfl, ⟨_, _, _, _, ar, lk, hp, har⟩, ⟨cda, _, _, _, _, file, tf, rfl, hcode, hvs2, hfile⟩, top, hN, hx.elim .inl fun z => .inr (.inl z), hxd, ⟨cc, _, _, _, hcl, hcell⟩, hm, hD⟩
  obtain ⟨t1, p1, hq⟩ := hbody cc cda A outer s H vs Q E (hr.deeper _) hsp SX
  have fin : ∀ {σ' : L2.St} {H' : Hp} {v : V} {u : Value} {s' : Shared}, Inv (scx CX P w K mg base N ⟨x, qual, params, body, scope, ownC s.heap.objs.size scope ++ [(("__class__" : Str), cc)], cda⟩ f A outer s H E) [] σ' H' s' → RelV v u → Q v H' → CE outer P w H s Q u s' :=
    fun {σ' H' v u s'} J rv q => ⟨v, H', J.os, J.bare, J.base, J.hok, rv, q⟩
  refine PySem.ks_wpAt_mono (p1.run [] _ _ H _ I hq) (fun fl s' z => ?_) fun e s' z => z
  cases fl with
  | brk => obtain ⟨_, _, _, q⟩ := z; exact q.elim
  | cont => obtain ⟨_, _, _, q⟩ := z; exact q.elim
  | ret u =>
    obtain ⟨v, σ', H', J, rv, q⟩ := z
    exact fin J rv q
  | next =>
    obtain ⟨σ2, H2, J2, q⟩ := z
    exact fin (v := V.non) (u := Value.none) J2 rfl q
theorem FunS.kb {P : Program} {K : PySem.W.Frag} {x qual : Str} {params : Arguments} {body : List Stmt} {scope : Scope} {D f : Addr} {fd : FuncData} {n : Nat} {ps ks : List Str} (F : FunS P K x qual params body scope D f fd)
    (h : ∀ (cl : List (Str × Addr)) (doc pm : Value) (an : Option Addr) (c1 c2 : Value) (us ws : List Value), us.length = n → ws.length = ks.length → bindArgs (PySem.W.fnX x qual params body scope cl .none .none doc pm an c1 c2) ⟨us, ks.zip ws⟩ = pure (ps.zip (us ++ ws))) : KBn K fd ps n ks (fun us ws => us ++ ws) (fun vs zs => vs ++ zs) := by
  obtain ⟨oc, od, doc, pm, an, cda, ct, osl, cc, rfl, _⟩ := F.ex
  exact ⟨fun s us ws _ l1 l2 => .of_eq (h _ _ _ _ _ _ us ws l1 l2), fun r1 r2 => r1.append r2⟩
theorem rk_ok {P : Program} {w : World} {K : PySem.W.Frag} {mg : Str → Option Value} {base : Heap} {CX : CXT} {k n : Nat} {f : Addr} {fd : FuncData} {ps ks : List Str} {sp : Sp} (F : FnOk P w K mg base CX k f fd ps sp) (hb : KBn K fd ps n ks (fun us ws => us ++ ws) (fun vs zs => vs ++ zs)) : FnRK P w K mg base CX k f n ks sp := by
  intro A outer s H us ws vs zs Q E hr e0 r rz l1 l2 hs
  exact F.run A outer s H _ (us ++ ws) (vs ++ zs) Q E hr e0 (hb.to s us ws (e0.mod.kin.keeps fun b o e => (e0.bs b o e).1) (by rw [← r.length, l1]) (by rw [← rz.length, l2])) (r.append rz) hs
section
variable {σ : L2.St} {H : Hp} {Q : VK} {a C dx : Addr} {fs : List (Str × V)} {ks : List Str} {n i : Nat} {sp : Sp} {E : L2.St → XK} {t tk : TA}
theorem w_supD (h0 : σ[0]? = some (some (.ref a))) (ha : At H a (.ins C dx fs)) (q : t σ H fun vs H2 => ∃ b zs, σ[i]? = some (some (.ref b)) ∧ zs.length = ks.length ∧ H2 b = some (KwO b (ks.zip zs)) ∧ vs.length + 1 = n ∧ sp ((.ref a :: vs) ++ zs) H2 Q (E σ)) : tSupD C ks n i sp E t σ H Q := ⟨a, dx, fs, h0, ha, q⟩
theorem w_supK (h0 : σ[0]? = some (some (.ref a))) (ha : At H a (.ins C dx fs)) (q : t σ H fun vs H1 => tk σ H1 fun zs H2 => zs.length = ks.length ∧ vs.length + 1 = n ∧ sp ((.ref a :: vs) ++ zs) H2 Q (E σ)) : tSupK C ks n sp E t tk σ H Q := ⟨a, dx, fs, h0, ha, q⟩
end
end Z
namespace R
open PySem L2 Z
def top (i : Nat) : Stmt := PySem.Challenge.pw_dearestshelf_k35_closed_refusals.main.body.getD i (.Pass ⟨0, 0, 0, 0⟩)
abbrev s_Choice___init__ : Stmt := inClass (top 23) 0
theorem sc_Choice___init__ : FnScope ["self", "rule", "prices"] ["self", "rule", "prices"] (defScope s_Choice___init__) := ⟨rfl, rfl, rfl, by decide +kernel, rfl, by decide +kernel, by decide +kernel⟩
abbrev s_Choice_allowed : Stmt := inClass (top 23) 1
theorem sc_Choice_allowed : FnScope ["self", "lot"] ["self", "lot"] (defScope s_Choice_allowed) := ⟨rfl, rfl, rfl, by decide +kernel, rfl, by decide +kernel, by decide +kernel⟩
abbrev s_Ratio___lt__ : Stmt := inClass (top 21) 13
theorem sc_Ratio___lt__ : FnScope ["self", "other"] ["self", "other"] (defScope s_Ratio___lt__) := ⟨rfl, rfl, rfl, by decide +kernel, rfl, by decide +kernel, by decide +kernel⟩
abbrev s_Rule___init__ : Stmt := inClass (top 31) 2
theorem sc_Rule___init__ : FnScope ["self", "many"] ["self", "many"] (defScope s_Rule___init__) := ⟨rfl, rfl, rfl, by decide +kernel, rfl, by decide +kernel, by decide +kernel⟩
abbrev s__law_asked : Stmt := top 47
theorem sc__law_asked : FnScope ["_law_rule", "_law_prices", "_law_pairs_here", "e"] ["_law_rule", "_law_prices", "_law_pairs_here"] (defScope s__law_asked) := ⟨rfl, rfl, rfl, by decide +kernel, rfl, by decide +kernel, by decide +kernel⟩
abbrev s__law_cell : Stmt := top 36
theorem sc__law_cell : FnScope ["_law_script", "_law_place"] ["_law_script", "_law_place"] (defScope s__law_cell) := ⟨rfl, rfl, rfl, by decide +kernel, rfl, by decide +kernel, by decide +kernel⟩
abbrev s__law_classes : Stmt := top 48
theorem sc__law_classes : FnScope ["_law_rule", "_law_prices", "_law_pairs_here", "e", "_law_found"] ["_law_rule", "_law_prices", "_law_pairs_here"] (defScope s__law_classes) := ⟨rfl, rfl, rfl, by decide +kernel, rfl, by decide +kernel, by decide +kernel⟩
abbrev s__law_completed : Stmt := top 51
theorem sc__law_completed : FnScope ["_law_lot_here", "_law_pairs_here", "_law_many", "_law_held", "_law_k", "_law_pair", "_law_thing"] ["_law_lot_here", "_law_pairs_here", "_law_many"] (defScope s__law_completed) := ⟨rfl, rfl, rfl, by decide +kernel, rfl, by decide +kernel, by decide +kernel⟩
abbrev s__law_draws : Stmt := top 37
theorem sc__law_draws : FnScope ["_law_cell_here", "_law_sizes", "_law_left", "_law_found", "_law_size", "_law_k", "_law_low", "_law_high"] ["_law_cell_here", "_law_sizes"] (defScope s__law_draws) := ⟨rfl, rfl, rfl, by decide +kernel, rfl, by decide +kernel, by decide +kernel⟩
abbrev s__law_due : Stmt := top 46
theorem sc__law_due : FnScope ["_law_pairs_here", "_law_many", "_law_at", "_law_a", "_law_b"] ["_law_pairs_here", "_law_many"] (defScope s__law_due) := ⟨rfl, rfl, rfl, by decide +kernel, rfl, by decide +kernel, by decide +kernel⟩
abbrev s__law_holds : Stmt := top 50
theorem sc__law_holds : FnScope ["_law_lot_here", "_law_pairs_here", "_law_pair"] ["_law_lot_here", "_law_pairs_here"] (defScope s__law_holds) := ⟨rfl, rfl, rfl, by decide +kernel, rfl, by decide +kernel, by decide +kernel⟩
abbrev s__law_is_int : Stmt := top 42
theorem sc__law_is_int : FnScope ["_law_x"] ["_law_x"] (defScope s__law_is_int) := ⟨rfl, rfl, rfl, by decide +kernel, rfl, by decide +kernel, by decide +kernel⟩
abbrev s__law_looks : Stmt := top 52
theorem sc__law_looks : FnScope ["_law_choice", "_law_prices", "_law_pairs_here", "_law_lots", "_law_kept", "_law_k", "_law_lot_here", "_law_wrong_here"] ["_law_choice", "_law_prices", "_law_pairs_here", "_law_lots"] (defScope s__law_looks) := ⟨rfl, rfl, rfl, by decide +kernel, rfl, by decide +kernel, by decide +kernel⟩
abbrev s__law_lot : Stmt := top 40
theorem sc__law_lot : FnScope ["_law_bits", "_law_many", "_law_found", "_law_left", "_law_thing"] ["_law_bits", "_law_many"] (defScope s__law_lot) := ⟨rfl, rfl, rfl, by decide +kernel, rfl, by decide +kernel, by decide +kernel⟩
abbrev s__law_pairs : Stmt := top 44
theorem sc__law_pairs : FnScope ["_law_script", "_law_many", "_law_count", "_law_drawn", "_law_place", "_law_found", "_law_k", "_law_a"] ["_law_script", "_law_many", "_law_count"] (defScope s__law_pairs) := ⟨rfl, rfl, rfl, by decide +kernel, rfl, by decide +kernel, by decide +kernel⟩
abbrev s__law_power : Stmt := top 41
theorem sc__law_power : FnScope ["_law_many", "_law_power_here", "_law_k"] ["_law_many"] (defScope s__law_power) := ⟨rfl, rfl, rfl, by decide +kernel, rfl, by decide +kernel, by decide +kernel⟩
abbrev s__law_refuses : Stmt := top 49
theorem sc__law_refuses : FnScope ["_law_choice", "_law_lot_here"] ["_law_choice", "_law_lot_here"] (defScope s__law_refuses) := ⟨rfl, rfl, rfl, by decide +kernel, rfl, by decide +kernel, by decide +kernel⟩
abbrev s__law_row : Stmt := top 38
theorem sc__law_row : FnScope ["_law_cell_here", "_law_count", "_law_drawn", "_law_bound", "_law_k", "_law_value"] ["_law_cell_here", "_law_count"] (defScope s__law_row) := ⟨rfl, rfl, rfl, by decide +kernel, rfl, by decide +kernel, by decide +kernel⟩
abbrev s__law_same_lot : Stmt := top 43
theorem sc__law_same_lot : FnScope ["_law_x", "_law_due_here", "_law_k"] ["_law_x", "_law_due_here"] (defScope s__law_same_lot) := ⟨rfl, rfl, rfl, by decide +kernel, rfl, by decide +kernel, by decide +kernel⟩
abbrev s__law_ups : Stmt := top 39
theorem sc__law_ups : FnScope ["_law_row_here", "_law_number"] ["_law_row_here"] (defScope s__law_ups) := ⟨rfl, rfl, rfl, by decide +kernel, rfl, by decide +kernel, by decide +kernel⟩
abbrev s__law_wrong : Stmt := top 45
theorem sc__law_wrong : FnScope ["_law_fault", "_law_many", "_law_thing"] ["_law_fault", "_law_many"] (defScope s__law_wrong) := ⟨rfl, rfl, rfl, by decide +kernel, rfl, by decide +kernel, by decide +kernel⟩
abbrev s_check_lot : Stmt := top 13
theorem sc_check_lot : FnScope ["lot", "many", "before", "thing"] ["lot", "many"] (defScope s_check_lot) := ⟨rfl, rfl, rfl, by decide +kernel, rfl, by decide +kernel, by decide +kernel⟩
abbrev s_check_prices : Stmt := top 14
theorem sc_check_prices : FnScope ["prices", "many", "at", "price"] ["prices", "many"] (defScope s_check_prices) := ⟨rfl, rfl, rfl, by decide +kernel, rfl, by decide +kernel, by decide +kernel⟩
abbrev s_dearest_order : Stmt := top 17
theorem sc_dearest_order : FnScope ["prices", "order", "thing", "price", "place"] ["prices"] (defScope s_dearest_order) := ⟨rfl, rfl, rfl, by decide +kernel, rfl, by decide +kernel, by decide +kernel⟩
abbrev s_law : Stmt := top 53
theorem sc_law : FnScope ["_law_script", "_law_drawn", "_law_many", "_law_count", "_law_good", "_law_pairs_here", "_law_faults", "_law_k", "_law_fault", "_law_row_here", "_law_prices", "_law_rule", "_law_due_here", "_law_handed", "_law_told", "_law_classes_here", "_law_place", "_law_choice", "_law_lot_here", "_law_lots", "_law_thing", "_law_bits"] ["_law_script"] (defScope s_law) := ⟨rfl, rfl, rfl, by decide +kernel, rfl, by decide +kernel, by decide +kernel⟩
abbrev s_lot_at : Stmt := top 15
theorem sc_lot_at : FnScope ["number", "many", "thing"] ["number", "many"] (defScope s_lot_at) := ⟨rfl, rfl, rfl, by decide +kernel, rfl, by decide +kernel, by decide +kernel⟩
abbrev s_BadNeed___init__ : Stmt := inClass (top 11) 0
theorem sc_BadNeed___init__ : NdefX.NScope ["self", "at", "__class__"] ["self", "at"] ["__class__"] (defScope s_BadNeed___init__) := NdefX.nscope_by (by decide +kernel)
abbrev s_BadNumber___init__ : Stmt := inClass (top 7) 0
theorem sc_BadNumber___init__ : NdefX.NScope ["self", "what", "at", "__class__"] ["self", "what", "at"] ["__class__"] (defScope s_BadNumber___init__) := NdefX.nscope_by (by decide +kernel)
abbrev s_Closed___init__ : Stmt := inClass (top 29) 0
theorem sc_Closed___init__ : NdefX.NScope ["self", "rule", "prices", "needs", "__class__", "at", "a", "b"] ["self", "rule", "prices", "needs"] ["__class__"] (defScope s_Closed___init__) := NdefX.nscope_by (by decide +kernel)
abbrev s_Closed_allowed : Stmt := inClass (top 29) 1
theorem sc_Closed_allowed : Z.SScope ["self", "lot", "__class__", "a", "b"] ["self", "lot"] ["__class__"] (defScope s_Closed_allowed) := Z.sscope_by (by decide +kernel)
abbrev s_TooMany___init__ : Stmt := inClass (top 8) 0
theorem sc_TooMany___init__ : NdefX.NScope ["self", "many", "most", "__class__"] ["self", "many", "most"] ["__class__"] (defScope s_TooMany___init__) := NdefX.nscope_by (by decide +kernel)
abbrev s_Weighted___init__ : Stmt := inClass (top 33) 0
theorem sc_Weighted___init__ : NdefX.NScope ["self", "weights", "aside", "__class__", "at", "weight"] ["self", "weights", "aside"] ["__class__"] (defScope s_Weighted___init__) := NdefX.nscope_by (by decide +kernel)
structure Tx (P : Program) (K : PySem.W.Frag) (mg : Str → Option Value) : Prop where
  n_ValueError : mg "ValueError" = none
  n_all : mg "all" = none
  n_bool : mg "bool" = none
  n_enumerate : mg "enumerate" = none
  n_int : mg "int" = none
  n_isinstance : mg "isinstance" = none
  n_len : mg "len" = none
  n_list : mg "list" = none
  n_range : mg "range" = none
  n_super : mg "super" = none
  n_tuple : mg "tuple" = none
  g__law_asked : mg "_law_asked" = some (.ref (He.ga K "_law_asked"))
  g__law_cell : mg "_law_cell" = some (.ref (He.ga K "_law_cell"))
  g__law_classes : mg "_law_classes" = some (.ref (He.ga K "_law_classes"))
  g__law_completed : mg "_law_completed" = some (.ref (He.ga K "_law_completed"))
  g__law_draws : mg "_law_draws" = some (.ref (He.ga K "_law_draws"))
  g__law_due : mg "_law_due" = some (.ref (He.ga K "_law_due"))
  g__law_holds : mg "_law_holds" = some (.ref (He.ga K "_law_holds"))
  g__law_is_int : mg "_law_is_int" = some (.ref (He.ga K "_law_is_int"))
  g__law_looks : mg "_law_looks" = some (.ref (He.ga K "_law_looks"))
  g__law_lot : mg "_law_lot" = some (.ref (He.ga K "_law_lot"))
  g__law_pairs : mg "_law_pairs" = some (.ref (He.ga K "_law_pairs"))
  g__law_power : mg "_law_power" = some (.ref (He.ga K "_law_power"))
  g__law_refuses : mg "_law_refuses" = some (.ref (He.ga K "_law_refuses"))
  g__law_row : mg "_law_row" = some (.ref (He.ga K "_law_row"))
  g__law_same_lot : mg "_law_same_lot" = some (.ref (He.ga K "_law_same_lot"))
  g__law_ups : mg "_law_ups" = some (.ref (He.ga K "_law_ups"))
  g__law_wrong : mg "_law_wrong" = some (.ref (He.ga K "_law_wrong"))
  g_check_lot : mg "check_lot" = some (.ref (He.ga K "check_lot"))
  g_check_prices : mg "check_prices" = some (.ref (He.ga K "check_prices"))
  g_law : mg "law" = some (.ref (He.ga K "law"))
  g_ShelfError : mg "ShelfError" = some (.ref (He.ga K "ShelfError"))
  ec_ShelfError : ExcC K (He.ga K "ShelfError")
  exm_ShelfError_BadNeed : PySem.W.exmOne K (.ref (He.ga K "ShelfError")) (.ref (He.ga K "BadNeed")) = some false
  exm_ShelfError_BadNumber : PySem.W.exmOne K (.ref (He.ga K "ShelfError")) (.ref (He.ga K "BadNumber")) = some false
  exm_ShelfError_ShelfError : PySem.W.exmOne K (.ref (He.ga K "ShelfError")) (.ref (He.ga K "ShelfError")) = some true
  exm_ShelfError_BadLot : PySem.W.exmOne K (.ref (He.ga K "ShelfError")) (.ref (He.ga K "BadLot")) = some false
  ki_ShelfError_BadNeed : PySem.W.kitOne K (.ref (He.ga K "ShelfError")) (.ref (He.ga K "BadNeed")) = some false
  ki_ShelfError_BadNumber : PySem.W.kitOne K (.ref (He.ga K "ShelfError")) (.ref (He.ga K "BadNumber")) = some false
  ki_ShelfError_BadWish : PySem.W.kitOne K (.ref (He.ga K "ShelfError")) (.ref (He.ga K "BadWish")) = some false
  ki_ShelfError_BadTable : PySem.W.kitOne K (.ref (He.ga K "ShelfError")) (.ref (He.ga K "BadTable")) = some false
  ki_ShelfError_BadLot : PySem.W.kitOne K (.ref (He.ga K "ShelfError")) (.ref (He.ga K "BadLot")) = some false
  ki_ShelfError_ValueError : PySem.W.kitOne K (.ref (He.ga K "ShelfError")) (.type "ValueError") = some true
  ec_ZeroBottom : ExcC K (He.ga K "ZeroBottom")
  exm_ZeroBottom_BadNeed : PySem.W.exmOne K (.ref (He.ga K "ZeroBottom")) (.ref (He.ga K "BadNeed")) = some false
  exm_ZeroBottom_BadNumber : PySem.W.exmOne K (.ref (He.ga K "ZeroBottom")) (.ref (He.ga K "BadNumber")) = some false
  exm_ZeroBottom_ShelfError : PySem.W.exmOne K (.ref (He.ga K "ZeroBottom")) (.ref (He.ga K "ShelfError")) = some true
  exm_ZeroBottom_BadLot : PySem.W.exmOne K (.ref (He.ga K "ZeroBottom")) (.ref (He.ga K "BadLot")) = some false
  ki_ZeroBottom_BadNeed : PySem.W.kitOne K (.ref (He.ga K "ZeroBottom")) (.ref (He.ga K "BadNeed")) = some false
  ki_ZeroBottom_BadNumber : PySem.W.kitOne K (.ref (He.ga K "ZeroBottom")) (.ref (He.ga K "BadNumber")) = some false
  ki_ZeroBottom_BadWish : PySem.W.kitOne K (.ref (He.ga K "ZeroBottom")) (.ref (He.ga K "BadWish")) = some false
  ki_ZeroBottom_BadTable : PySem.W.kitOne K (.ref (He.ga K "ZeroBottom")) (.ref (He.ga K "BadTable")) = some false
  ki_ZeroBottom_BadLot : PySem.W.kitOne K (.ref (He.ga K "ZeroBottom")) (.ref (He.ga K "BadLot")) = some false
  ki_ZeroBottom_ValueError : PySem.W.kitOne K (.ref (He.ga K "ZeroBottom")) (.type "ValueError") = some true
  ec_BadText : ExcC K (He.ga K "BadText")
  exm_BadText_BadNeed : PySem.W.exmOne K (.ref (He.ga K "BadText")) (.ref (He.ga K "BadNeed")) = some false
  exm_BadText_BadNumber : PySem.W.exmOne K (.ref (He.ga K "BadText")) (.ref (He.ga K "BadNumber")) = some false
  exm_BadText_ShelfError : PySem.W.exmOne K (.ref (He.ga K "BadText")) (.ref (He.ga K "ShelfError")) = some true
  exm_BadText_BadLot : PySem.W.exmOne K (.ref (He.ga K "BadText")) (.ref (He.ga K "BadLot")) = some false
  ki_BadText_BadNeed : PySem.W.kitOne K (.ref (He.ga K "BadText")) (.ref (He.ga K "BadNeed")) = some false
  ki_BadText_BadNumber : PySem.W.kitOne K (.ref (He.ga K "BadText")) (.ref (He.ga K "BadNumber")) = some false
  ki_BadText_BadWish : PySem.W.kitOne K (.ref (He.ga K "BadText")) (.ref (He.ga K "BadWish")) = some false
  ki_BadText_BadTable : PySem.W.kitOne K (.ref (He.ga K "BadText")) (.ref (He.ga K "BadTable")) = some false
  ki_BadText_BadLot : PySem.W.kitOne K (.ref (He.ga K "BadText")) (.ref (He.ga K "BadLot")) = some false
  ki_BadText_ValueError : PySem.W.kitOne K (.ref (He.ga K "BadText")) (.type "ValueError") = some true
  g_BadLot : mg "BadLot" = some (.ref (He.ga K "BadLot"))
  ec_BadLot : ExcC K (He.ga K "BadLot")
  exm_BadLot_BadNeed : PySem.W.exmOne K (.ref (He.ga K "BadLot")) (.ref (He.ga K "BadNeed")) = some false
  exm_BadLot_BadNumber : PySem.W.exmOne K (.ref (He.ga K "BadLot")) (.ref (He.ga K "BadNumber")) = some false
  exm_BadLot_ShelfError : PySem.W.exmOne K (.ref (He.ga K "BadLot")) (.ref (He.ga K "ShelfError")) = some true
  exm_BadLot_BadLot : PySem.W.exmOne K (.ref (He.ga K "BadLot")) (.ref (He.ga K "BadLot")) = some true
  ki_BadLot_BadNeed : PySem.W.kitOne K (.ref (He.ga K "BadLot")) (.ref (He.ga K "BadNeed")) = some false
  ki_BadLot_BadNumber : PySem.W.kitOne K (.ref (He.ga K "BadLot")) (.ref (He.ga K "BadNumber")) = some false
  ki_BadLot_BadWish : PySem.W.kitOne K (.ref (He.ga K "BadLot")) (.ref (He.ga K "BadWish")) = some false
  ki_BadLot_BadTable : PySem.W.kitOne K (.ref (He.ga K "BadLot")) (.ref (He.ga K "BadTable")) = some false
  ki_BadLot_BadLot : PySem.W.kitOne K (.ref (He.ga K "BadLot")) (.ref (He.ga K "BadLot")) = some true
  ki_BadLot_ValueError : PySem.W.kitOne K (.ref (He.ga K "BadLot")) (.type "ValueError") = some true
  x_BadLot : PySem.W.excIn K (He.ga K "BadLot") He.veBase "ValueError.__new__" = true ∧ PySem.W.keepIn K (.ref (He.ga K "BadLot")) = true ∧ PySem.W.subIn K (.ref (He.ga K "BadLot")) (.type "BaseException") = some true ∧ PySem.W.typeIn K (.ref (He.ga K "BadLot")) = some (.type "type")
  g_BadNumber : mg "BadNumber" = some (.ref (He.ga K "BadNumber"))
  xf_BadNumber : XfC K (He.ga K "BadNumber")
  oe_BadNumber : OexC K (He.ga K "BadNumber")
  si_BadNumber : PySem.W.ks_superIn K (He.ga K "BadNumber") (He.ga K "BadNumber") "__init__" = some (some (.builtin "ValueError.__init__")) ∧ PySem.W.subIn K (.ref (He.ga K "BadNumber")) (.type "ValueError") = some true ∧ PySem.W.findIn K (.ref (He.ga K "BadNumber")) "__init__" = some (some (.ref (He.ma K (He.ga K "BadNumber") "__init__"))) ∧ PySem.W.typeIn K (.ref (He.ma K (He.ga K "BadNumber") "__init__")) = some (.type "function")
  nf_BadNumber_what : PySem.W.findIn K (.ref (He.ga K "BadNumber")) "what" = some none
  nf_BadNumber_at : PySem.W.findIn K (.ref (He.ga K "BadNumber")) "at" = some none
  ec_BadNumber : ExcC K (He.ga K "BadNumber")
  exm_BadNumber_BadNeed : PySem.W.exmOne K (.ref (He.ga K "BadNumber")) (.ref (He.ga K "BadNeed")) = some false
  exm_BadNumber_BadNumber : PySem.W.exmOne K (.ref (He.ga K "BadNumber")) (.ref (He.ga K "BadNumber")) = some true
  exm_BadNumber_ShelfError : PySem.W.exmOne K (.ref (He.ga K "BadNumber")) (.ref (He.ga K "ShelfError")) = some true
  exm_BadNumber_BadLot : PySem.W.exmOne K (.ref (He.ga K "BadNumber")) (.ref (He.ga K "BadLot")) = some false
  ki_BadNumber_BadNeed : PySem.W.kitOne K (.ref (He.ga K "BadNumber")) (.ref (He.ga K "BadNeed")) = some false
  ki_BadNumber_BadNumber : PySem.W.kitOne K (.ref (He.ga K "BadNumber")) (.ref (He.ga K "BadNumber")) = some true
  ki_BadNumber_BadWish : PySem.W.kitOne K (.ref (He.ga K "BadNumber")) (.ref (He.ga K "BadWish")) = some false
  ki_BadNumber_BadTable : PySem.W.kitOne K (.ref (He.ga K "BadNumber")) (.ref (He.ga K "BadTable")) = some false
  ki_BadNumber_BadLot : PySem.W.kitOne K (.ref (He.ga K "BadNumber")) (.ref (He.ga K "BadLot")) = some false
  ki_BadNumber_ValueError : PySem.W.kitOne K (.ref (He.ga K "BadNumber")) (.type "ValueError") = some true
  g_TooMany : mg "TooMany" = some (.ref (He.ga K "TooMany"))
  oe_TooMany : OexC K (He.ga K "TooMany")
  si_TooMany : PySem.W.ks_superIn K (He.ga K "TooMany") (He.ga K "TooMany") "__init__" = some (some (.builtin "ValueError.__init__")) ∧ PySem.W.subIn K (.ref (He.ga K "TooMany")) (.type "ValueError") = some true ∧ PySem.W.findIn K (.ref (He.ga K "TooMany")) "__init__" = some (some (.ref (He.ma K (He.ga K "TooMany") "__init__"))) ∧ PySem.W.typeIn K (.ref (He.ma K (He.ga K "TooMany") "__init__")) = some (.type "function")
  nf_TooMany_many : PySem.W.findIn K (.ref (He.ga K "TooMany")) "many" = some none
  nf_TooMany_most : PySem.W.findIn K (.ref (He.ga K "TooMany")) "most" = some none
  ec_TooMany : ExcC K (He.ga K "TooMany")
  exm_TooMany_BadNeed : PySem.W.exmOne K (.ref (He.ga K "TooMany")) (.ref (He.ga K "BadNeed")) = some false
  exm_TooMany_BadNumber : PySem.W.exmOne K (.ref (He.ga K "TooMany")) (.ref (He.ga K "BadNumber")) = some false
  exm_TooMany_ShelfError : PySem.W.exmOne K (.ref (He.ga K "TooMany")) (.ref (He.ga K "ShelfError")) = some true
  exm_TooMany_BadLot : PySem.W.exmOne K (.ref (He.ga K "TooMany")) (.ref (He.ga K "BadLot")) = some false
  ki_TooMany_BadNeed : PySem.W.kitOne K (.ref (He.ga K "TooMany")) (.ref (He.ga K "BadNeed")) = some false
  ki_TooMany_BadNumber : PySem.W.kitOne K (.ref (He.ga K "TooMany")) (.ref (He.ga K "BadNumber")) = some false
  ki_TooMany_BadWish : PySem.W.kitOne K (.ref (He.ga K "TooMany")) (.ref (He.ga K "BadWish")) = some false
  ki_TooMany_BadTable : PySem.W.kitOne K (.ref (He.ga K "TooMany")) (.ref (He.ga K "BadTable")) = some false
  ki_TooMany_BadLot : PySem.W.kitOne K (.ref (He.ga K "TooMany")) (.ref (He.ga K "BadLot")) = some false
  ki_TooMany_ValueError : PySem.W.kitOne K (.ref (He.ga K "TooMany")) (.type "ValueError") = some true
  g_BadWish : mg "BadWish" = some (.ref (He.ga K "BadWish"))
  ec_BadWish : ExcC K (He.ga K "BadWish")
  exm_BadWish_BadNeed : PySem.W.exmOne K (.ref (He.ga K "BadWish")) (.ref (He.ga K "BadNeed")) = some false
  exm_BadWish_BadNumber : PySem.W.exmOne K (.ref (He.ga K "BadWish")) (.ref (He.ga K "BadNumber")) = some false
  exm_BadWish_ShelfError : PySem.W.exmOne K (.ref (He.ga K "BadWish")) (.ref (He.ga K "ShelfError")) = some true
  exm_BadWish_BadLot : PySem.W.exmOne K (.ref (He.ga K "BadWish")) (.ref (He.ga K "BadLot")) = some false
  ki_BadWish_BadNeed : PySem.W.kitOne K (.ref (He.ga K "BadWish")) (.ref (He.ga K "BadNeed")) = some false
  ki_BadWish_BadNumber : PySem.W.kitOne K (.ref (He.ga K "BadWish")) (.ref (He.ga K "BadNumber")) = some false
  ki_BadWish_BadWish : PySem.W.kitOne K (.ref (He.ga K "BadWish")) (.ref (He.ga K "BadWish")) = some true
  ki_BadWish_BadTable : PySem.W.kitOne K (.ref (He.ga K "BadWish")) (.ref (He.ga K "BadTable")) = some false
  ki_BadWish_BadLot : PySem.W.kitOne K (.ref (He.ga K "BadWish")) (.ref (He.ga K "BadLot")) = some false
  ki_BadWish_ValueError : PySem.W.kitOne K (.ref (He.ga K "BadWish")) (.type "ValueError") = some true
  g_BadTable : mg "BadTable" = some (.ref (He.ga K "BadTable"))
  ec_BadTable : ExcC K (He.ga K "BadTable")
  exm_BadTable_BadNeed : PySem.W.exmOne K (.ref (He.ga K "BadTable")) (.ref (He.ga K "BadNeed")) = some false
  exm_BadTable_BadNumber : PySem.W.exmOne K (.ref (He.ga K "BadTable")) (.ref (He.ga K "BadNumber")) = some false
  exm_BadTable_ShelfError : PySem.W.exmOne K (.ref (He.ga K "BadTable")) (.ref (He.ga K "ShelfError")) = some true
  exm_BadTable_BadLot : PySem.W.exmOne K (.ref (He.ga K "BadTable")) (.ref (He.ga K "BadLot")) = some false
  ki_BadTable_BadNeed : PySem.W.kitOne K (.ref (He.ga K "BadTable")) (.ref (He.ga K "BadNeed")) = some false
  ki_BadTable_BadNumber : PySem.W.kitOne K (.ref (He.ga K "BadTable")) (.ref (He.ga K "BadNumber")) = some false
  ki_BadTable_BadWish : PySem.W.kitOne K (.ref (He.ga K "BadTable")) (.ref (He.ga K "BadWish")) = some false
  ki_BadTable_BadTable : PySem.W.kitOne K (.ref (He.ga K "BadTable")) (.ref (He.ga K "BadTable")) = some true
  ki_BadTable_BadLot : PySem.W.kitOne K (.ref (He.ga K "BadTable")) (.ref (He.ga K "BadLot")) = some false
  ki_BadTable_ValueError : PySem.W.kitOne K (.ref (He.ga K "BadTable")) (.type "ValueError") = some true
  g_BadNeed : mg "BadNeed" = some (.ref (He.ga K "BadNeed"))
  xf_BadNeed : XfC K (He.ga K "BadNeed")
  oe_BadNeed : OexC K (He.ga K "BadNeed")
  si_BadNeed : PySem.W.ks_superIn K (He.ga K "BadNeed") (He.ga K "BadNeed") "__init__" = some (some (.builtin "ValueError.__init__")) ∧ PySem.W.subIn K (.ref (He.ga K "BadNeed")) (.type "ValueError") = some true ∧ PySem.W.findIn K (.ref (He.ga K "BadNeed")) "__init__" = some (some (.ref (He.ma K (He.ga K "BadNeed") "__init__"))) ∧ PySem.W.typeIn K (.ref (He.ma K (He.ga K "BadNeed") "__init__")) = some (.type "function")
  nf_BadNeed_at : PySem.W.findIn K (.ref (He.ga K "BadNeed")) "at" = some none
  ec_BadNeed : ExcC K (He.ga K "BadNeed")
  exm_BadNeed_BadNeed : PySem.W.exmOne K (.ref (He.ga K "BadNeed")) (.ref (He.ga K "BadNeed")) = some true
  exm_BadNeed_BadNumber : PySem.W.exmOne K (.ref (He.ga K "BadNeed")) (.ref (He.ga K "BadNumber")) = some false
  exm_BadNeed_ShelfError : PySem.W.exmOne K (.ref (He.ga K "BadNeed")) (.ref (He.ga K "ShelfError")) = some true
  exm_BadNeed_BadLot : PySem.W.exmOne K (.ref (He.ga K "BadNeed")) (.ref (He.ga K "BadLot")) = some false
  ki_BadNeed_BadNeed : PySem.W.kitOne K (.ref (He.ga K "BadNeed")) (.ref (He.ga K "BadNeed")) = some true
  ki_BadNeed_BadNumber : PySem.W.kitOne K (.ref (He.ga K "BadNeed")) (.ref (He.ga K "BadNumber")) = some false
  ki_BadNeed_BadWish : PySem.W.kitOne K (.ref (He.ga K "BadNeed")) (.ref (He.ga K "BadWish")) = some false
  ki_BadNeed_BadTable : PySem.W.kitOne K (.ref (He.ga K "BadNeed")) (.ref (He.ga K "BadTable")) = some false
  ki_BadNeed_BadLot : PySem.W.kitOne K (.ref (He.ga K "BadNeed")) (.ref (He.ga K "BadLot")) = some false
  ki_BadNeed_ValueError : PySem.W.kitOne K (.ref (He.ga K "BadNeed")) (.type "ValueError") = some true
  g_Ratio : mg "Ratio" = some (.ref (He.ga K "Ratio"))
  o_Ratio : Z.OwnC K (He.ga K "Ratio")
  ki_Ratio_Choice : PySem.W.kitOne K (.ref (He.ga K "Ratio")) (.ref (He.ga K "Choice")) = some false
  na_Ratio_top : NoAttr K (He.ga K "Ratio") "top"
  na_Ratio_bottom : NoAttr K (He.ga K "Ratio") "bottom"
  me_Ratio___lt__ : Meth K (He.ga K "Ratio") "__lt__" (He.ma K (He.ga K "Ratio") "__lt__")
  g_Choice : mg "Choice" = some (.ref (He.ga K "Choice"))
  o_Choice : Z.OwnC K (He.ga K "Choice")
  g_Closed : mg "Closed" = some (.ref (He.ga K "Closed"))
  o_Closed : Z.OwnC K (He.ga K "Closed")
  mk_Closed : Mk K (He.ga K "Closed") (He.ma K (He.ga K "Closed") "__init__")
  ki_Closed_Choice : PySem.W.kitOne K (.ref (He.ga K "Closed")) (.ref (He.ga K "Choice")) = some true
  na_Closed_needs : NoAttr K (He.ga K "Closed") "needs"
  na_Closed_rule : NoAttr K (He.ga K "Closed") "rule"
  na_Closed_prices : NoAttr K (He.ga K "Closed") "prices"
  me_Closed_allowed : Meth K (He.ga K "Closed") "allowed" (He.ma K (He.ga K "Closed") "allowed")
  o_Rule : Z.OwnC K (He.ga K "Rule")
  ki_Rule_Choice : PySem.W.kitOne K (.ref (He.ga K "Rule")) (.ref (He.ga K "Choice")) = some false
  g_Weighted : mg "Weighted" = some (.ref (He.ga K "Weighted"))
  o_Weighted : Z.OwnC K (He.ga K "Weighted")
  mk_Weighted : Mk K (He.ga K "Weighted") (He.ma K (He.ga K "Weighted") "__init__")
  k_Weighted_MOST : ∃ u, Con K (He.ga K "Weighted") "MOST" (.int 24) u
  ki_Weighted_Choice : PySem.W.kitOne K (.ref (He.ga K "Weighted")) (.ref (He.ga K "Choice")) = some false
  na_Weighted_weights : NoAttr K (He.ga K "Weighted") "weights"
  na_Weighted_aside : NoAttr K (He.ga K "Weighted") "aside"
  na_Weighted_many : NoAttr K (He.ga K "Weighted") "many"
  third : PySem.W.nsIn K PySem.cStatics "thirdparty.any" = some none
  c_BadNumber : ∃ cd, PySem.W.clsIn K (He.ga K "BadNumber") = some cd
  mro_BadNumber_BadNumber : PySem.W.mroIn K (He.ga K "BadNumber") (.ref (He.ga K "BadNumber")) = some true
  c_TooMany : ∃ cd, PySem.W.clsIn K (He.ga K "TooMany") = some cd
  mro_TooMany_TooMany : PySem.W.mroIn K (He.ga K "TooMany") (.ref (He.ga K "TooMany")) = some true
  c_BadNeed : ∃ cd, PySem.W.clsIn K (He.ga K "BadNeed") = some cd
  mro_BadNeed_BadNeed : PySem.W.mroIn K (He.ga K "BadNeed") (.ref (He.ga K "BadNeed")) = some true
  c_Closed : ∃ cd, PySem.W.clsIn K (He.ga K "Closed") = some cd
  mro_Closed_Closed : PySem.W.mroIn K (He.ga K "Closed") (.ref (He.ga K "Closed")) = some true
  c_Weighted : ∃ cd, PySem.W.clsIn K (He.ga K "Weighted") = some cd
  mro_Weighted_Weighted : PySem.W.mroIn K (He.ga K "Weighted") (.ref (He.ga K "Weighted")) = some true
  sm_Closed_Closed___init__ : PySem.W.ks_superIn K (He.ga K "Closed") (He.ga K "Closed") "__init__" = some (some (.ref (He.ma K (He.ga K "Choice") "__init__"))) ∧ PySem.W.typeIn K (.ref (He.ma K (He.ga K "Choice") "__init__")) = some (.type "function") ∧ PySem.W.fnIn K (He.ma K (He.ga K "Choice") "__init__") = true
  sm_Closed_Closed_allowed : PySem.W.ks_superIn K (He.ga K "Closed") (He.ga K "Closed") "allowed" = some (some (.ref (He.ma K (He.ga K "Choice") "allowed"))) ∧ PySem.W.typeIn K (.ref (He.ma K (He.ga K "Choice") "allowed")) = some (.type "function") ∧ PySem.W.fnIn K (He.ma K (He.ga K "Choice") "allowed") = true
  sm_Weighted_Weighted___init__ : PySem.W.ks_superIn K (He.ga K "Weighted") (He.ga K "Weighted") "__init__" = some (some (.ref (He.ma K (He.ga K "Rule") "__init__"))) ∧ PySem.W.typeIn K (.ref (He.ma K (He.ga K "Rule") "__init__")) = some (.type "function") ∧ PySem.W.fnIn K (He.ma K (He.ga K "Rule") "__init__") = true
  F_Choice___init__ : FunD K "__init__" "Choice.__init__" (defArgs s_Choice___init__) (defBody s_Choice___init__) (defScope s_Choice___init__) [] [] (He.ma K (He.ga K "Choice") "__init__") (Z.fdOf K (He.ma K (He.ga K "Choice") "__init__"))
  b_Choice___init__ : Binds K (Z.fdOf K (He.ma K (He.ga K "Choice") "__init__")) ["self", "rule", "prices"] []
  F_Choice_allowed : FunD K "allowed" "Choice.allowed" (defArgs s_Choice_allowed) (defBody s_Choice_allowed) (defScope s_Choice_allowed) [] [] (He.ma K (He.ga K "Choice") "allowed") (Z.fdOf K (He.ma K (He.ga K "Choice") "allowed"))
  b_Choice_allowed : Binds K (Z.fdOf K (He.ma K (He.ga K "Choice") "allowed")) ["self", "lot"] []
  F_Ratio___lt__ : FunD K "__lt__" "Ratio.__lt__" (defArgs s_Ratio___lt__) (defBody s_Ratio___lt__) (defScope s_Ratio___lt__) [] [] (He.ma K (He.ga K "Ratio") "__lt__") (Z.fdOf K (He.ma K (He.ga K "Ratio") "__lt__"))
  b_Ratio___lt__ : Binds K (Z.fdOf K (He.ma K (He.ga K "Ratio") "__lt__")) ["self", "other"] []
  F_Rule___init__ : FunD K "__init__" "Rule.__init__" (defArgs s_Rule___init__) (defBody s_Rule___init__) (defScope s_Rule___init__) [] [] (He.ma K (He.ga K "Rule") "__init__") (Z.fdOf K (He.ma K (He.ga K "Rule") "__init__"))
  b_Rule___init__ : Binds K (Z.fdOf K (He.ma K (He.ga K "Rule") "__init__")) ["self", "many"] []
  F__law_asked : FunD K "_law_asked" "_law_asked" (defArgs s__law_asked) (defBody s__law_asked) (defScope s__law_asked) [] [] (He.ga K "_law_asked") (Z.fdOf K (He.ga K "_law_asked"))
  b__law_asked : Binds K (Z.fdOf K (He.ga K "_law_asked")) ["_law_rule", "_law_prices", "_law_pairs_here"] []
  F__law_cell : FunD K "_law_cell" "_law_cell" (defArgs s__law_cell) (defBody s__law_cell) (defScope s__law_cell) [] [] (He.ga K "_law_cell") (Z.fdOf K (He.ga K "_law_cell"))
  b__law_cell : Binds K (Z.fdOf K (He.ga K "_law_cell")) ["_law_script", "_law_place"] []
  F__law_classes : FunD K "_law_classes" "_law_classes" (defArgs s__law_classes) (defBody s__law_classes) (defScope s__law_classes) [] [] (He.ga K "_law_classes") (Z.fdOf K (He.ga K "_law_classes"))
  b__law_classes : Binds K (Z.fdOf K (He.ga K "_law_classes")) ["_law_rule", "_law_prices", "_law_pairs_here"] []
  F__law_completed : FunD K "_law_completed" "_law_completed" (defArgs s__law_completed) (defBody s__law_completed) (defScope s__law_completed) [] [] (He.ga K "_law_completed") (Z.fdOf K (He.ga K "_law_completed"))
  b__law_completed : Binds K (Z.fdOf K (He.ga K "_law_completed")) ["_law_lot_here", "_law_pairs_here", "_law_many"] []
  F__law_draws : FunD K "_law_draws" "_law_draws" (defArgs s__law_draws) (defBody s__law_draws) (defScope s__law_draws) [] [] (He.ga K "_law_draws") (Z.fdOf K (He.ga K "_law_draws"))
  b__law_draws : Binds K (Z.fdOf K (He.ga K "_law_draws")) ["_law_cell_here", "_law_sizes"] []
  F__law_due : FunD K "_law_due" "_law_due" (defArgs s__law_due) (defBody s__law_due) (defScope s__law_due) [] [] (He.ga K "_law_due") (Z.fdOf K (He.ga K "_law_due"))
  b__law_due : Binds K (Z.fdOf K (He.ga K "_law_due")) ["_law_pairs_here", "_law_many"] []
  F__law_holds : FunD K "_law_holds" "_law_holds" (defArgs s__law_holds) (defBody s__law_holds) (defScope s__law_holds) [] [] (He.ga K "_law_holds") (Z.fdOf K (He.ga K "_law_holds"))
  b__law_holds : Binds K (Z.fdOf K (He.ga K "_law_holds")) ["_law_lot_here", "_law_pairs_here"] []
  F__law_is_int : FunD K "_law_is_int" "_law_is_int" (defArgs s__law_is_int) (defBody s__law_is_int) (defScope s__law_is_int) [] [] (He.ga K "_law_is_int") (Z.fdOf K (He.ga K "_law_is_int"))
  b__law_is_int : Binds K (Z.fdOf K (He.ga K "_law_is_int")) ["_law_x"] []
  F__law_looks : FunD K "_law_looks" "_law_looks" (defArgs s__law_looks) (defBody s__law_looks) (defScope s__law_looks) [] [] (He.ga K "_law_looks") (Z.fdOf K (He.ga K "_law_looks"))
  b__law_looks : Binds K (Z.fdOf K (He.ga K "_law_looks")) ["_law_choice", "_law_prices", "_law_pairs_here", "_law_lots"] []
  F__law_lot : FunD K "_law_lot" "_law_lot" (defArgs s__law_lot) (defBody s__law_lot) (defScope s__law_lot) [] [] (He.ga K "_law_lot") (Z.fdOf K (He.ga K "_law_lot"))
  b__law_lot : Binds K (Z.fdOf K (He.ga K "_law_lot")) ["_law_bits", "_law_many"] []
  F__law_pairs : FunD K "_law_pairs" "_law_pairs" (defArgs s__law_pairs) (defBody s__law_pairs) (defScope s__law_pairs) [] [] (He.ga K "_law_pairs") (Z.fdOf K (He.ga K "_law_pairs"))
  b__law_pairs : Binds K (Z.fdOf K (He.ga K "_law_pairs")) ["_law_script", "_law_many", "_law_count"] []
  F__law_power : FunD K "_law_power" "_law_power" (defArgs s__law_power) (defBody s__law_power) (defScope s__law_power) [] [] (He.ga K "_law_power") (Z.fdOf K (He.ga K "_law_power"))
  b__law_power : Binds K (Z.fdOf K (He.ga K "_law_power")) ["_law_many"] []
  F__law_refuses : FunD K "_law_refuses" "_law_refuses" (defArgs s__law_refuses) (defBody s__law_refuses) (defScope s__law_refuses) [] [] (He.ga K "_law_refuses") (Z.fdOf K (He.ga K "_law_refuses"))
  b__law_refuses : Binds K (Z.fdOf K (He.ga K "_law_refuses")) ["_law_choice", "_law_lot_here"] []
  F__law_row : FunD K "_law_row" "_law_row" (defArgs s__law_row) (defBody s__law_row) (defScope s__law_row) [] [] (He.ga K "_law_row") (Z.fdOf K (He.ga K "_law_row"))
  b__law_row : Binds K (Z.fdOf K (He.ga K "_law_row")) ["_law_cell_here", "_law_count"] []
  F__law_same_lot : FunD K "_law_same_lot" "_law_same_lot" (defArgs s__law_same_lot) (defBody s__law_same_lot) (defScope s__law_same_lot) [] [] (He.ga K "_law_same_lot") (Z.fdOf K (He.ga K "_law_same_lot"))
  b__law_same_lot : Binds K (Z.fdOf K (He.ga K "_law_same_lot")) ["_law_x", "_law_due_here"] []
  F__law_ups : FunD K "_law_ups" "_law_ups" (defArgs s__law_ups) (defBody s__law_ups) (defScope s__law_ups) [] [] (He.ga K "_law_ups") (Z.fdOf K (He.ga K "_law_ups"))
  b__law_ups : Binds K (Z.fdOf K (He.ga K "_law_ups")) ["_law_row_here"] []
  F__law_wrong : FunD K "_law_wrong" "_law_wrong" (defArgs s__law_wrong) (defBody s__law_wrong) (defScope s__law_wrong) [] [] (He.ga K "_law_wrong") (Z.fdOf K (He.ga K "_law_wrong"))
  b__law_wrong : Binds K (Z.fdOf K (He.ga K "_law_wrong")) ["_law_fault", "_law_many"] []
  F_check_lot : FunD K "check_lot" "check_lot" (defArgs s_check_lot) (defBody s_check_lot) (defScope s_check_lot) [] [] (He.ga K "check_lot") (Z.fdOf K (He.ga K "check_lot"))
  b_check_lot : Binds K (Z.fdOf K (He.ga K "check_lot")) ["lot", "many"] []
  F_check_prices : FunD K "check_prices" "check_prices" (defArgs s_check_prices) (defBody s_check_prices) (defScope s_check_prices) [] [] (He.ga K "check_prices") (Z.fdOf K (He.ga K "check_prices"))
  b_check_prices : Binds K (Z.fdOf K (He.ga K "check_prices")) ["prices", "many"] []
  F_dearest_order : FunD K "dearest_order" "dearest_order" (defArgs s_dearest_order) (defBody s_dearest_order) (defScope s_dearest_order) [] [] (He.ga K "dearest_order") (Z.fdOf K (He.ga K "dearest_order"))
  b_dearest_order : Binds K (Z.fdOf K (He.ga K "dearest_order")) ["prices"] []
  F_law : FunD K "law" "law" (defArgs s_law) (defBody s_law) (defScope s_law) [] [] (He.ga K "law") (Z.fdOf K (He.ga K "law"))
  b_law : Binds K (Z.fdOf K (He.ga K "law")) ["_law_script"] []
  F_lot_at : FunD K "lot_at" "lot_at" (defArgs s_lot_at) (defBody s_lot_at) (defScope s_lot_at) [] [] (He.ga K "lot_at") (Z.fdOf K (He.ga K "lot_at"))
  b_lot_at : Binds K (Z.fdOf K (He.ga K "lot_at")) ["number", "many"] []
  F_BadNeed___init__ : Z.FunS P K "__init__" "BadNeed.__init__" (defArgs s_BadNeed___init__) (defBody s_BadNeed___init__) (defScope s_BadNeed___init__) (He.ga K "BadNeed") (He.ma K (He.ga K "BadNeed") "__init__") (Z.fdOf K (He.ma K (He.ga K "BadNeed") "__init__"))
  b_BadNeed___init__ : Binds K (Z.fdOf K (He.ma K (He.ga K "BadNeed") "__init__")) ["self", "at"] []
  F_BadNumber___init__ : Z.FunS P K "__init__" "BadNumber.__init__" (defArgs s_BadNumber___init__) (defBody s_BadNumber___init__) (defScope s_BadNumber___init__) (He.ga K "BadNumber") (He.ma K (He.ga K "BadNumber") "__init__") (Z.fdOf K (He.ma K (He.ga K "BadNumber") "__init__"))
  b_BadNumber___init__ : Binds K (Z.fdOf K (He.ma K (He.ga K "BadNumber") "__init__")) ["self", "what", "at"] []
  F_Closed___init__ : Z.FunS P K "__init__" "Closed.__init__" (defArgs s_Closed___init__) (defBody s_Closed___init__) (defScope s_Closed___init__) (He.ga K "Closed") (He.ma K (He.ga K "Closed") "__init__") (Z.fdOf K (He.ma K (He.ga K "Closed") "__init__"))
  kb_Closed___init__ : KBn K (Z.fdOf K (He.ma K (He.ga K "Closed") "__init__")) ["self", "rule", "prices", "needs"] 3 ["needs"] (fun us ws => us ++ ws) (fun vs zs => vs ++ zs)
  F_Closed_allowed : Z.FunS P K "allowed" "Closed.allowed" (defArgs s_Closed_allowed) (defBody s_Closed_allowed) (defScope s_Closed_allowed) (He.ga K "Closed") (He.ma K (He.ga K "Closed") "allowed") (Z.fdOf K (He.ma K (He.ga K "Closed") "allowed"))
  b_Closed_allowed : Binds K (Z.fdOf K (He.ma K (He.ga K "Closed") "allowed")) ["self", "lot"] []
  F_TooMany___init__ : Z.FunS P K "__init__" "TooMany.__init__" (defArgs s_TooMany___init__) (defBody s_TooMany___init__) (defScope s_TooMany___init__) (He.ga K "TooMany") (He.ma K (He.ga K "TooMany") "__init__") (Z.fdOf K (He.ma K (He.ga K "TooMany") "__init__"))
  b_TooMany___init__ : Binds K (Z.fdOf K (He.ma K (He.ga K "TooMany") "__init__")) ["self", "many", "most"] []
  F_Weighted___init__ : Z.FunS P K "__init__" "Weighted.__init__" (defArgs s_Weighted___init__) (defBody s_Weighted___init__) (defScope s_Weighted___init__) (He.ga K "Weighted") (He.ma K (He.ga K "Weighted") "__init__") (Z.fdOf K (He.ma K (He.ga K "Weighted") "__init__"))
  b_Weighted___init__ : Binds K (Z.fdOf K (He.ma K (He.ga K "Weighted") "__init__")) ["self", "weights", "aside"] []
  p_top : (P.main.scope.names.lookup ("super" : Str)).isSome = false
variable {P : Program} {w : World} {K : PySem.W.Frag} {mg : Str → Option Value} {base : Heap}
def d_Choice___init__ : He.DefD := ⟨("Choice", some "__init__"), "__init__", "Choice.__init__", defArgs s_Choice___init__, defBody s_Choice___init__, defScope s_Choice___init__, [], []⟩
def d_Choice_allowed : He.DefD := ⟨("Choice", some "allowed"), "allowed", "Choice.allowed", defArgs s_Choice_allowed, defBody s_Choice_allowed, defScope s_Choice_allowed, [], []⟩
def d_Ratio___lt__ : He.DefD := ⟨("Ratio", some "__lt__"), "__lt__", "Ratio.__lt__", defArgs s_Ratio___lt__, defBody s_Ratio___lt__, defScope s_Ratio___lt__, [], []⟩
def d_Rule___init__ : He.DefD := ⟨("Rule", some "__init__"), "__init__", "Rule.__init__", defArgs s_Rule___init__, defBody s_Rule___init__, defScope s_Rule___init__, [], []⟩
def d__law_asked : He.DefD := ⟨("_law_asked", none), "_law_asked", "_law_asked", defArgs s__law_asked, defBody s__law_asked, defScope s__law_asked, [], []⟩
def d__law_cell : He.DefD := ⟨("_law_cell", none), "_law_cell", "_law_cell", defArgs s__law_cell, defBody s__law_cell, defScope s__law_cell, [], []⟩
def d__law_classes : He.DefD := ⟨("_law_classes", none), "_law_classes", "_law_classes", defArgs s__law_classes, defBody s__law_classes, defScope s__law_classes, [], []⟩
def d__law_completed : He.DefD := ⟨("_law_completed", none), "_law_completed", "_law_completed", defArgs s__law_completed, defBody s__law_completed, defScope s__law_completed, [], []⟩
def d__law_draws : He.DefD := ⟨("_law_draws", none), "_law_draws", "_law_draws", defArgs s__law_draws, defBody s__law_draws, defScope s__law_draws, [], []⟩
def d__law_due : He.DefD := ⟨("_law_due", none), "_law_due", "_law_due", defArgs s__law_due, defBody s__law_due, defScope s__law_due, [], []⟩
def d__law_holds : He.DefD := ⟨("_law_holds", none), "_law_holds", "_law_holds", defArgs s__law_holds, defBody s__law_holds, defScope s__law_holds, [], []⟩
def d__law_is_int : He.DefD := ⟨("_law_is_int", none), "_law_is_int", "_law_is_int", defArgs s__law_is_int, defBody s__law_is_int, defScope s__law_is_int, [], []⟩
def d__law_looks : He.DefD := ⟨("_law_looks", none), "_law_looks", "_law_looks", defArgs s__law_looks, defBody s__law_looks, defScope s__law_looks, [], []⟩
def d__law_lot : He.DefD := ⟨("_law_lot", none), "_law_lot", "_law_lot", defArgs s__law_lot, defBody s__law_lot, defScope s__law_lot, [], []⟩
def d__law_pairs : He.DefD := ⟨("_law_pairs", none), "_law_pairs", "_law_pairs", defArgs s__law_pairs, defBody s__law_pairs, defScope s__law_pairs, [], []⟩
def d__law_power : He.DefD := ⟨("_law_power", none), "_law_power", "_law_power", defArgs s__law_power, defBody s__law_power, defScope s__law_power, [], []⟩
def d__law_refuses : He.DefD := ⟨("_law_refuses", none), "_law_refuses", "_law_refuses", defArgs s__law_refuses, defBody s__law_refuses, defScope s__law_refuses, [], []⟩
def d__law_row : He.DefD := ⟨("_law_row", none), "_law_row", "_law_row", defArgs s__law_row, defBody s__law_row, defScope s__law_row, [], []⟩
def d__law_same_lot : He.DefD := ⟨("_law_same_lot", none), "_law_same_lot", "_law_same_lot", defArgs s__law_same_lot, defBody s__law_same_lot, defScope s__law_same_lot, [], []⟩
def d__law_ups : He.DefD := ⟨("_law_ups", none), "_law_ups", "_law_ups", defArgs s__law_ups, defBody s__law_ups, defScope s__law_ups, [], []⟩
def d__law_wrong : He.DefD := ⟨("_law_wrong", none), "_law_wrong", "_law_wrong", defArgs s__law_wrong, defBody s__law_wrong, defScope s__law_wrong, [], []⟩
def d_check_lot : He.DefD := ⟨("check_lot", none), "check_lot", "check_lot", defArgs s_check_lot, defBody s_check_lot, defScope s_check_lot, [], []⟩
def d_check_prices : He.DefD := ⟨("check_prices", none), "check_prices", "check_prices", defArgs s_check_prices, defBody s_check_prices, defScope s_check_prices, [], []⟩
def d_dearest_order : He.DefD := ⟨("dearest_order", none), "dearest_order", "dearest_order", defArgs s_dearest_order, defBody s_dearest_order, defScope s_dearest_order, [], []⟩
def d_law : He.DefD := ⟨("law", none), "law", "law", defArgs s_law, defBody s_law, defScope s_law, [], []⟩
def d_lot_at : He.DefD := ⟨("lot_at", none), "lot_at", "lot_at", defArgs s_lot_at, defBody s_lot_at, defScope s_lot_at, [], []⟩
def d_BadNeed___init__ : He.DefD := ⟨("BadNeed", some "__init__"), "__init__", "BadNeed.__init__", defArgs s_BadNeed___init__, defBody s_BadNeed___init__, defScope s_BadNeed___init__, [], []⟩
def d_BadNumber___init__ : He.DefD := ⟨("BadNumber", some "__init__"), "__init__", "BadNumber.__init__", defArgs s_BadNumber___init__, defBody s_BadNumber___init__, defScope s_BadNumber___init__, [], []⟩
def d_Closed___init__ : He.DefD := ⟨("Closed", some "__init__"), "__init__", "Closed.__init__", defArgs s_Closed___init__, defBody s_Closed___init__, defScope s_Closed___init__, [], []⟩
def d_Closed_allowed : He.DefD := ⟨("Closed", some "allowed"), "allowed", "Closed.allowed", defArgs s_Closed_allowed, defBody s_Closed_allowed, defScope s_Closed_allowed, [], []⟩
def d_TooMany___init__ : He.DefD := ⟨("TooMany", some "__init__"), "__init__", "TooMany.__init__", defArgs s_TooMany___init__, defBody s_TooMany___init__, defScope s_TooMany___init__, [], []⟩
def d_Weighted___init__ : He.DefD := ⟨("Weighted", some "__init__"), "__init__", "Weighted.__init__", defArgs s_Weighted___init__, defBody s_Weighted___init__, defScope s_Weighted___init__, [], []⟩
def fs : List He.DefD := [d_BadNeed___init__, d_BadNumber___init__, d_Closed___init__, d_Closed_allowed, d_TooMany___init__, d_Weighted___init__]
def fn : List He.DefD := [d_Choice___init__, d_Choice_allowed, d_Ratio___lt__, d_Rule___init__, d__law_asked, d__law_cell, d__law_classes, d__law_completed, d__law_draws, d__law_due, d__law_holds, d__law_is_int, d__law_looks, d__law_lot, d__law_pairs, d__law_power, d__law_refuses, d__law_row, d__law_same_lot, d__law_ups, d__law_wrong, d_check_lot, d_check_prices, d_dearest_order, d_law, d_lot_at]
def fa : List (PySem.W.Frag → Bool) := [(He.Fa.free "ValueError").ok,
  (He.Fa.free "all").ok,
  (He.Fa.free "bool").ok,
  (He.Fa.free "enumerate").ok,
  (He.Fa.free "int").ok,
  (He.Fa.free "isinstance").ok,
  (He.Fa.free "len").ok,
  (He.Fa.free "list").ok,
  (He.Fa.free "range").ok,
  (He.Fa.free "super").ok,
  (He.Fa.free "tuple").ok,
  (He.Fa.glo "_law_asked").ok,
  (He.Fa.glo "_law_cell").ok,
  (He.Fa.glo "_law_classes").ok,
  (He.Fa.glo "_law_completed").ok,
  (He.Fa.glo "_law_draws").ok,
  (He.Fa.glo "_law_due").ok,
  (He.Fa.glo "_law_holds").ok,
  (He.Fa.glo "_law_is_int").ok,
  (He.Fa.glo "_law_looks").ok,
  (He.Fa.glo "_law_lot").ok,
  (He.Fa.glo "_law_pairs").ok,
  (He.Fa.glo "_law_power").ok,
  (He.Fa.glo "_law_refuses").ok,
  (He.Fa.glo "_law_row").ok,
  (He.Fa.glo "_law_same_lot").ok,
  (He.Fa.glo "_law_ups").ok,
  (He.Fa.glo "_law_wrong").ok,
  (He.Fa.glo "check_lot").ok,
  (He.Fa.glo "check_prices").ok,
  (He.Fa.glo "law").ok,
  (He.Fa.glo "ShelfError").ok,
  Z.excB "ShelfError",
  Z.exmB "ShelfError" "BadNeed" false,
  Z.exmB "ShelfError" "BadNumber" false,
  Z.exmB "ShelfError" "ShelfError" true,
  Z.exmB "ShelfError" "BadLot" false,
  Z.kitB2 "ShelfError" "BadNeed" false,
  Z.kitB2 "ShelfError" "BadNumber" false,
  Z.kitB2 "ShelfError" "BadWish" false,
  Z.kitB2 "ShelfError" "BadTable" false,
  Z.kitB2 "ShelfError" "BadLot" false,
  Z.kitBt "ShelfError" "ValueError" true,
  Z.excB "ZeroBottom",
  Z.exmB "ZeroBottom" "BadNeed" false,
  Z.exmB "ZeroBottom" "BadNumber" false,
  Z.exmB "ZeroBottom" "ShelfError" true,
  Z.exmB "ZeroBottom" "BadLot" false,
  Z.kitB2 "ZeroBottom" "BadNeed" false,
  Z.kitB2 "ZeroBottom" "BadNumber" false,
  Z.kitB2 "ZeroBottom" "BadWish" false,
  Z.kitB2 "ZeroBottom" "BadTable" false,
  Z.kitB2 "ZeroBottom" "BadLot" false,
  Z.kitBt "ZeroBottom" "ValueError" true,
  Z.excB "BadText",
  Z.exmB "BadText" "BadNeed" false,
  Z.exmB "BadText" "BadNumber" false,
  Z.exmB "BadText" "ShelfError" true,
  Z.exmB "BadText" "BadLot" false,
  Z.kitB2 "BadText" "BadNeed" false,
  Z.kitB2 "BadText" "BadNumber" false,
  Z.kitB2 "BadText" "BadWish" false,
  Z.kitB2 "BadText" "BadTable" false,
  Z.kitB2 "BadText" "BadLot" false,
  Z.kitBt "BadText" "ValueError" true,
  (He.Fa.glo "BadLot").ok,
  Z.excB "BadLot",
  Z.exmB "BadLot" "BadNeed" false,
  Z.exmB "BadLot" "BadNumber" false,
  Z.exmB "BadLot" "ShelfError" true,
  Z.exmB "BadLot" "BadLot" true,
  Z.kitB2 "BadLot" "BadNeed" false,
  Z.kitB2 "BadLot" "BadNumber" false,
  Z.kitB2 "BadLot" "BadWish" false,
  Z.kitB2 "BadLot" "BadTable" false,
  Z.kitB2 "BadLot" "BadLot" true,
  Z.kitBt "BadLot" "ValueError" true,
  (He.Fa.exc "BadLot").ok,
  (He.Fa.glo "BadNumber").ok,
  Z.xfcB "BadNumber",
  Z.oexB "BadNumber",
  Z.supiB "BadNumber",
  Z.nometB "BadNumber" "what",
  Z.nometB "BadNumber" "at",
  Z.excB "BadNumber",
  Z.exmB "BadNumber" "BadNeed" false,
  Z.exmB "BadNumber" "BadNumber" true,
  Z.exmB "BadNumber" "ShelfError" true,
  Z.exmB "BadNumber" "BadLot" false,
  Z.kitB2 "BadNumber" "BadNeed" false,
  Z.kitB2 "BadNumber" "BadNumber" true,
  Z.kitB2 "BadNumber" "BadWish" false,
  Z.kitB2 "BadNumber" "BadTable" false,
  Z.kitB2 "BadNumber" "BadLot" false,
  Z.kitBt "BadNumber" "ValueError" true,
  (He.Fa.glo "TooMany").ok,
  Z.oexB "TooMany",
  Z.supiB "TooMany",
  Z.nometB "TooMany" "many",
  Z.nometB "TooMany" "most",
  Z.excB "TooMany",
  Z.exmB "TooMany" "BadNeed" false,
  Z.exmB "TooMany" "BadNumber" false,
  Z.exmB "TooMany" "ShelfError" true,
  Z.exmB "TooMany" "BadLot" false,
  Z.kitB2 "TooMany" "BadNeed" false,
  Z.kitB2 "TooMany" "BadNumber" false,
  Z.kitB2 "TooMany" "BadWish" false,
  Z.kitB2 "TooMany" "BadTable" false,
  Z.kitB2 "TooMany" "BadLot" false,
  Z.kitBt "TooMany" "ValueError" true,
  (He.Fa.glo "BadWish").ok,
  Z.excB "BadWish",
  Z.exmB "BadWish" "BadNeed" false,
  Z.exmB "BadWish" "BadNumber" false,
  Z.exmB "BadWish" "ShelfError" true,
  Z.exmB "BadWish" "BadLot" false,
  Z.kitB2 "BadWish" "BadNeed" false,
  Z.kitB2 "BadWish" "BadNumber" false,
  Z.kitB2 "BadWish" "BadWish" true,
  Z.kitB2 "BadWish" "BadTable" false,
  Z.kitB2 "BadWish" "BadLot" false,
  Z.kitBt "BadWish" "ValueError" true,
  (He.Fa.glo "BadTable").ok,
  Z.excB "BadTable",
  Z.exmB "BadTable" "BadNeed" false,
  Z.exmB "BadTable" "BadNumber" false,
  Z.exmB "BadTable" "ShelfError" true,
  Z.exmB "BadTable" "BadLot" false,
  Z.kitB2 "BadTable" "BadNeed" false,
  Z.kitB2 "BadTable" "BadNumber" false,
  Z.kitB2 "BadTable" "BadWish" false,
  Z.kitB2 "BadTable" "BadTable" true,
  Z.kitB2 "BadTable" "BadLot" false,
  Z.kitBt "BadTable" "ValueError" true,
  (He.Fa.glo "BadNeed").ok,
  Z.xfcB "BadNeed",
  Z.oexB "BadNeed",
  Z.supiB "BadNeed",
  Z.nometB "BadNeed" "at",
  Z.excB "BadNeed",
  Z.exmB "BadNeed" "BadNeed" true,
  Z.exmB "BadNeed" "BadNumber" false,
  Z.exmB "BadNeed" "ShelfError" true,
  Z.exmB "BadNeed" "BadLot" false,
  Z.kitB2 "BadNeed" "BadNeed" true,
  Z.kitB2 "BadNeed" "BadNumber" false,
  Z.kitB2 "BadNeed" "BadWish" false,
  Z.kitB2 "BadNeed" "BadTable" false,
  Z.kitB2 "BadNeed" "BadLot" false,
  Z.kitBt "BadNeed" "ValueError" true,
  (He.Fa.glo "Ratio").ok,
  (fun K => Z.ownB K "Ratio"),
  Z.kitB2 "Ratio" "Choice" false,
  (He.Fa.noat "Ratio" "top").ok,
  (He.Fa.noat "Ratio" "bottom").ok,
  Z.methB "Ratio" "__lt__" "Ratio",
  (He.Fa.glo "Choice").ok,
  (fun K => Z.ownB K "Choice"),
  (He.Fa.glo "Closed").ok,
  (fun K => Z.ownB K "Closed"),
  Z.mkrB "Closed" "Closed",
  Z.kitB2 "Closed" "Choice" true,
  (He.Fa.noat "Closed" "needs").ok,
  (He.Fa.noat "Closed" "rule").ok,
  (He.Fa.noat "Closed" "prices").ok,
  Z.methB "Closed" "allowed" "Closed",
  (fun K => Z.ownB K "Rule"),
  Z.kitB2 "Rule" "Choice" false,
  (He.Fa.glo "Weighted").ok,
  (fun K => Z.ownB K "Weighted"),
  Z.mkrB "Weighted" "Weighted",
  Z.conIB "Weighted" "MOST" 24,
  Z.kitB2 "Weighted" "Choice" false,
  (He.Fa.noat "Weighted" "weights").ok,
  (He.Fa.noat "Weighted" "aside").ok,
  (He.Fa.noat "Weighted" "many").ok,
  Z.thirdB,
  Z.clsB "BadNumber",
  Z.mroB "BadNumber" "BadNumber",
  Z.clsB "TooMany",
  Z.mroB "TooMany" "TooMany",
  Z.clsB "BadNeed",
  Z.mroB "BadNeed" "BadNeed",
  Z.clsB "Closed",
  Z.mroB "Closed" "Closed",
  Z.clsB "Weighted",
  Z.mroB "Weighted" "Weighted",
  Z.supmB "Closed" "Closed" "__init__" "Choice",
  Z.supmB "Closed" "Closed" "allowed" "Choice",
  Z.supmB "Weighted" "Weighted" "__init__" "Rule",
  Z.supB d_BadNeed___init__ "BadNeed" PySem.Challenge.pw_dearestshelf_k35_closed_refusals.main.file,
  Z.supB d_BadNumber___init__ "BadNumber" PySem.Challenge.pw_dearestshelf_k35_closed_refusals.main.file,
  Z.supB d_Closed___init__ "Closed" PySem.Challenge.pw_dearestshelf_k35_closed_refusals.main.file,
  Z.supB d_Closed_allowed "Closed" PySem.Challenge.pw_dearestshelf_k35_closed_refusals.main.file,
  Z.supB d_TooMany___init__ "TooMany" PySem.Challenge.pw_dearestshelf_k35_closed_refusals.main.file,
  Z.supB d_Weighted___init__ "Weighted" PySem.Challenge.pw_dearestshelf_k35_closed_refusals.main.file]
abbrev Rw : PySem.W.OpenRow := PySem.W.OpenLaw.row PySem.Challenge.rw_dearestshelf_k35_closed_refusals
abbrev hk : PySem.W.Hook := Z.hookY 5 fa fn fs
def ob (s : PySem.W.SharedT) : He.AlD := Z.obsY 5 fa fn fs (HandSHeadRun.getT s)
theorem ob_eq (s : PySem.W.SharedT) : ob s = hk.obs s.abs := Z.obsY_eq (HandSHeadRun.getT_eq s)
def fa1 : List (PySem.W.Frag → Bool) := [(He.Fa.free "ValueError").ok,
  (He.Fa.free "all").ok,
  (He.Fa.free "bool").ok,
  (He.Fa.free "enumerate").ok,
  (He.Fa.free "int").ok,
  (He.Fa.free "isinstance").ok,
  (He.Fa.free "len").ok,
  (He.Fa.free "list").ok,
  (He.Fa.free "range").ok,
  (He.Fa.free "super").ok,
  (He.Fa.free "tuple").ok,
  (He.Fa.glo "_law_asked").ok,
  (He.Fa.glo "_law_cell").ok,
  (He.Fa.glo "_law_classes").ok,
  (He.Fa.glo "_law_completed").ok,
  (He.Fa.glo "_law_draws").ok,
  (He.Fa.glo "_law_due").ok,
  (He.Fa.glo "_law_holds").ok,
  (He.Fa.glo "_law_is_int").ok,
  (He.Fa.glo "_law_looks").ok,
  (He.Fa.glo "_law_lot").ok,
  (He.Fa.glo "_law_pairs").ok,
  (He.Fa.glo "_law_power").ok,
  (He.Fa.glo "_law_refuses").ok,
  (He.Fa.glo "_law_row").ok,
  (He.Fa.glo "_law_same_lot").ok,
  (He.Fa.glo "_law_ups").ok,
  (He.Fa.glo "_law_wrong").ok,
  (He.Fa.glo "check_lot").ok,
  (He.Fa.glo "check_prices").ok,
  (He.Fa.glo "law").ok,
  (He.Fa.glo "ShelfError").ok,
  Z.excB "ShelfError",
  Z.exmB "ShelfError" "BadNeed" false,
  Z.exmB "ShelfError" "BadNumber" false,
  Z.exmB "ShelfError" "ShelfError" true,
  Z.exmB "ShelfError" "BadLot" false,
  Z.kitB2 "ShelfError" "BadNeed" false,
  Z.kitB2 "ShelfError" "BadNumber" false,
  Z.kitB2 "ShelfError" "BadWish" false,
  Z.kitB2 "ShelfError" "BadTable" false,
  Z.kitB2 "ShelfError" "BadLot" false,
  Z.kitBt "ShelfError" "ValueError" true,
  Z.excB "ZeroBottom",
  Z.exmB "ZeroBottom" "BadNeed" false,
  Z.exmB "ZeroBottom" "BadNumber" false,
  Z.exmB "ZeroBottom" "ShelfError" true,
  Z.exmB "ZeroBottom" "BadLot" false,
  Z.kitB2 "ZeroBottom" "BadNeed" false,
  Z.kitB2 "ZeroBottom" "BadNumber" false,
  Z.kitB2 "ZeroBottom" "BadWish" false,
  Z.kitB2 "ZeroBottom" "BadTable" false,
  Z.kitB2 "ZeroBottom" "BadLot" false,
  Z.kitBt "ZeroBottom" "ValueError" true,
  Z.excB "BadText",
  Z.exmB "BadText" "BadNeed" false,
  Z.exmB "BadText" "BadNumber" false,
  Z.exmB "BadText" "ShelfError" true,
  Z.exmB "BadText" "BadLot" false,
  Z.kitB2 "BadText" "BadNeed" false,
  Z.kitB2 "BadText" "BadNumber" false,
  Z.kitB2 "BadText" "BadWish" false,
  Z.kitB2 "BadText" "BadTable" false,
  Z.kitB2 "BadText" "BadLot" false,
  Z.kitBt "BadText" "ValueError" true,
  (He.Fa.glo "BadLot").ok,
  Z.excB "BadLot",
  Z.exmB "BadLot" "BadNeed" false,
  Z.exmB "BadLot" "BadNumber" false,
  Z.exmB "BadLot" "ShelfError" true,
  Z.exmB "BadLot" "BadLot" true,
  Z.kitB2 "BadLot" "BadNeed" false,
  Z.kitB2 "BadLot" "BadNumber" false,
  Z.kitB2 "BadLot" "BadWish" false,
  Z.kitB2 "BadLot" "BadTable" false,
  Z.kitB2 "BadLot" "BadLot" true,
  Z.kitBt "BadLot" "ValueError" true,
  (He.Fa.exc "BadLot").ok,
  (He.Fa.glo "BadNumber").ok,
  Z.xfcB "BadNumber",
  Z.oexB "BadNumber",
  Z.supiB "BadNumber",
  Z.nometB "BadNumber" "what",
  Z.nometB "BadNumber" "at",
  Z.excB "BadNumber",
  Z.exmB "BadNumber" "BadNeed" false,
  Z.exmB "BadNumber" "BadNumber" true,
  Z.exmB "BadNumber" "ShelfError" true,
  Z.exmB "BadNumber" "BadLot" false,
  Z.kitB2 "BadNumber" "BadNeed" false,
  Z.kitB2 "BadNumber" "BadNumber" true,
  Z.kitB2 "BadNumber" "BadWish" false,
  Z.kitB2 "BadNumber" "BadTable" false,
  Z.kitB2 "BadNumber" "BadLot" false,
  Z.kitBt "BadNumber" "ValueError" true,
  (He.Fa.glo "TooMany").ok,
  Z.oexB "TooMany",
  Z.supiB "TooMany"]
def fa2 : List (PySem.W.Frag → Bool) := [Z.nometB "TooMany" "many",
  Z.nometB "TooMany" "most",
  Z.excB "TooMany",
  Z.exmB "TooMany" "BadNeed" false,
  Z.exmB "TooMany" "BadNumber" false,
  Z.exmB "TooMany" "ShelfError" true,
  Z.exmB "TooMany" "BadLot" false,
  Z.kitB2 "TooMany" "BadNeed" false,
  Z.kitB2 "TooMany" "BadNumber" false,
  Z.kitB2 "TooMany" "BadWish" false,
  Z.kitB2 "TooMany" "BadTable" false,
  Z.kitB2 "TooMany" "BadLot" false,
  Z.kitBt "TooMany" "ValueError" true,
  (He.Fa.glo "BadWish").ok,
  Z.excB "BadWish",
  Z.exmB "BadWish" "BadNeed" false,
  Z.exmB "BadWish" "BadNumber" false,
  Z.exmB "BadWish" "ShelfError" true,
  Z.exmB "BadWish" "BadLot" false,
  Z.kitB2 "BadWish" "BadNeed" false,
  Z.kitB2 "BadWish" "BadNumber" false,
  Z.kitB2 "BadWish" "BadWish" true,
  Z.kitB2 "BadWish" "BadTable" false,
  Z.kitB2 "BadWish" "BadLot" false,
  Z.kitBt "BadWish" "ValueError" true,
  (He.Fa.glo "BadTable").ok,
  Z.excB "BadTable",
  Z.exmB "BadTable" "BadNeed" false,
  Z.exmB "BadTable" "BadNumber" false,
  Z.exmB "BadTable" "ShelfError" true,
  Z.exmB "BadTable" "BadLot" false,
  Z.kitB2 "BadTable" "BadNeed" false,
  Z.kitB2 "BadTable" "BadNumber" false,
  Z.kitB2 "BadTable" "BadWish" false,
  Z.kitB2 "BadTable" "BadTable" true,
  Z.kitB2 "BadTable" "BadLot" false,
  Z.kitBt "BadTable" "ValueError" true,
  (He.Fa.glo "BadNeed").ok,
  Z.xfcB "BadNeed",
  Z.oexB "BadNeed",
  Z.supiB "BadNeed",
  Z.nometB "BadNeed" "at",
  Z.excB "BadNeed",
  Z.exmB "BadNeed" "BadNeed" true,
  Z.exmB "BadNeed" "BadNumber" false,
  Z.exmB "BadNeed" "ShelfError" true,
  Z.exmB "BadNeed" "BadLot" false,
  Z.kitB2 "BadNeed" "BadNeed" true,
  Z.kitB2 "BadNeed" "BadNumber" false,
  Z.kitB2 "BadNeed" "BadWish" false,
  Z.kitB2 "BadNeed" "BadTable" false,
  Z.kitB2 "BadNeed" "BadLot" false,
  Z.kitBt "BadNeed" "ValueError" true,
  (He.Fa.glo "Ratio").ok,
  (fun K => Z.ownB K "Ratio"),
  Z.kitB2 "Ratio" "Choice" false,
  (He.Fa.noat "Ratio" "top").ok,
  (He.Fa.noat "Ratio" "bottom").ok,
  Z.methB "Ratio" "__lt__" "Ratio",
  (He.Fa.glo "Choice").ok,
  (fun K => Z.ownB K "Choice"),
  (He.Fa.glo "Closed").ok,
  (fun K => Z.ownB K "Closed"),
  Z.mkrB "Closed" "Closed",
  Z.kitB2 "Closed" "Choice" true,
  (He.Fa.noat "Closed" "needs").ok,
  (He.Fa.noat "Closed" "rule").ok,
  (He.Fa.noat "Closed" "prices").ok,
  Z.methB "Closed" "allowed" "Closed",
  (fun K => Z.ownB K "Rule"),
  Z.kitB2 "Rule" "Choice" false,
  (He.Fa.glo "Weighted").ok,
  (fun K => Z.ownB K "Weighted"),
  Z.mkrB "Weighted" "Weighted",
  Z.conIB "Weighted" "MOST" 24,
  Z.kitB2 "Weighted" "Choice" false,
  (He.Fa.noat "Weighted" "weights").ok,
  (He.Fa.noat "Weighted" "aside").ok,
  (He.Fa.noat "Weighted" "many").ok,
  Z.thirdB,
  Z.clsB "BadNumber",
  Z.mroB "BadNumber" "BadNumber",
  Z.clsB "TooMany",
  Z.mroB "TooMany" "TooMany",
  Z.clsB "BadNeed",
  Z.mroB "BadNeed" "BadNeed",
  Z.clsB "Closed",
  Z.mroB "Closed" "Closed",
  Z.clsB "Weighted",
  Z.mroB "Weighted" "Weighted",
  Z.supmB "Closed" "Closed" "__init__" "Choice",
  Z.supmB "Closed" "Closed" "allowed" "Choice",
  Z.supmB "Weighted" "Weighted" "__init__" "Rule",
  Z.supB d_BadNeed___init__ "BadNeed" PySem.Challenge.pw_dearestshelf_k35_closed_refusals.main.file,
  Z.supB d_BadNumber___init__ "BadNumber" PySem.Challenge.pw_dearestshelf_k35_closed_refusals.main.file,
  Z.supB d_Closed___init__ "Closed" PySem.Challenge.pw_dearestshelf_k35_closed_refusals.main.file,
  Z.supB d_Closed_allowed "Closed" PySem.Challenge.pw_dearestshelf_k35_closed_refusals.main.file,
  Z.supB d_TooMany___init__ "TooMany" PySem.Challenge.pw_dearestshelf_k35_closed_refusals.main.file,
  Z.supB d_Weighted___init__ "Weighted" PySem.Challenge.pw_dearestshelf_k35_closed_refusals.main.file]
theorem run1 (w : World) : (HandSHeadRun.wholeF (fun p => HandSHeadRun.stepQ (HandSHeadRun.denQ HandSHeadRun.tabQ) p w) HandSHeadRun.fenceQ 20000 Rw.prog).map (fun x => (HandSHeadRun.looksF Rw.prog x.1.heap x.2.abs, HandSHeadRun.seenQ (PySem.W.view Rw.prog [0, 53]) ((["_wall", "ShelfError", "ZeroBottom", "BadText", "BadLot", "BadNumber", "TooMany", "BadWish", "BadTable", "BadNeed", "check_lot", "check_prices", "lot_at", "lots", "dearest_order", "DIGITS", "read_whole", "Ratio", "Choice", "reached_from", "path_edges", "max_flow", "Closed", "Rule", "Weighted"] : List Str) ++ (["dearer_than_worth", "_law_cell", "_law_draws", "_law_row", "_law_ups", "_law_lot", "_law_power", "_law_is_int", "_law_same_lot", "_law_pairs", "_law_wrong", "_law_due", "_law_asked", "_law_classes", "_law_refuses", "_law_holds", "_law_completed", "_law_looks"] : List Str)) (importedModules Rw.prog.main.body) (fun s => PySem.W.xlAt (PySem.W.view Rw.prog [0, 53]) [] s && PySem.W.recOk Rw.toRowW.records s) x.2.abs)) = some (true, PySem.W.openGood (PySem.W.view Rw.prog [0, 53]) ((["_wall", "ShelfError", "ZeroBottom", "BadText", "BadLot", "BadNumber", "TooMany", "BadWish", "BadTable", "BadNeed", "check_lot", "check_prices", "lot_at", "lots", "dearest_order", "DIGITS", "read_whole", "Ratio", "Choice", "reached_from", "path_edges", "max_flow", "Closed", "Rule", "Weighted"] : List Str) ++ (["dearer_than_worth", "_law_cell", "_law_draws", "_law_row", "_law_ups", "_law_lot", "_law_power", "_law_is_int", "_law_same_lot", "_law_pairs", "_law_wrong", "_law_due", "_law_asked", "_law_classes", "_law_refuses", "_law_holds", "_law_completed", "_law_looks"] : List Str))) := by
  kernel_rfl
theorem run2 (w : World) : (HandSHeadRun.wholeF (fun p => HandSHeadRun.stepQ (HandSHeadRun.denQ HandSHeadRun.tabQ) p w) HandSHeadRun.fenceQ 20000 Rw.prog).map (fun x => fa1.all fun f => f (Z.KX 5 x.2)) = some true := by
  kernel_rfl
theorem run3 (w : World) : (HandSHeadRun.wholeF (fun p => HandSHeadRun.stepQ (HandSHeadRun.denQ HandSHeadRun.tabQ) p w) HandSHeadRun.fenceQ 20000 Rw.prog).map (fun x => fa2.all fun f => f (Z.KX 5 x.2)) = some true := by
  kernel_rfl
theorem run4 (w : World) : (HandSHeadRun.wholeF (fun p => HandSHeadRun.stepQ (HandSHeadRun.denQ HandSHeadRun.tabQ) p w) HandSHeadRun.fenceQ 20000 Rw.prog).map (fun x => (fn.all fun d => d.ok (Z.KX 5 x.2), fn.map (fun d => He.fnW (Z.KX 5 x.2) d.at_), fs.map fun d => Z.fnWs (Z.KX 5 x.2) d.at_)) = some (true, fn.map He.DefD.val, fs.map He.DefD.val) := by
  kernel_rfl
theorem run (w : World) : HandSHeadRun.RunEqI Rw (PySem.W.view Rw.prog [0, 53]) hk ob 20000 ((["_wall", "ShelfError", "ZeroBottom", "BadText", "BadLot", "BadNumber", "TooMany", "BadWish", "BadTable", "BadNeed", "check_lot", "check_prices", "lot_at", "lots", "dearest_order", "DIGITS", "read_whole", "Ratio", "Choice", "reached_from", "path_edges", "max_flow", "Closed", "Rule", "Weighted"] : List Str) ++ (["dearer_than_worth", "_law_cell", "_law_draws", "_law_row", "_law_ups", "_law_lot", "_law_power", "_law_is_int", "_law_same_lot", "_law_pairs", "_law_wrong", "_law_due", "_law_asked", "_law_classes", "_law_refuses", "_law_holds", "_law_completed", "_law_looks"] : List Str)) w := Z.run_join (fa1 := fa1) (fa2 := fa2) rfl (run1 w) (run2 w) (run3 w) (run4 w)
theorem tx {K : PySem.W.Frag} {h : Heap} {mg : Str → Option Value} (X : K.In h) (G : h.Ns mainGlobals mg) (c : Z.SaysY fa fn fs K) : Tx PySem.Challenge.pw_dearestshelf_k35_closed_refusals K mg := by
  have F_Choice___init__ := Z.fd_of (c.d.def_ 0 (d := d_Choice___init__) rfl)
  have F_Choice_allowed := Z.fd_of (c.d.def_ 1 (d := d_Choice_allowed) rfl)
  have F_Ratio___lt__ := Z.fd_of (c.d.def_ 2 (d := d_Ratio___lt__) rfl)
  have F_Rule___init__ := Z.fd_of (c.d.def_ 3 (d := d_Rule___init__) rfl)
  have F__law_asked := Z.fd_of (c.d.def_ 4 (d := d__law_asked) rfl)
  have F__law_cell := Z.fd_of (c.d.def_ 5 (d := d__law_cell) rfl)
  have F__law_classes := Z.fd_of (c.d.def_ 6 (d := d__law_classes) rfl)
  have F__law_completed := Z.fd_of (c.d.def_ 7 (d := d__law_completed) rfl)
  have F__law_draws := Z.fd_of (c.d.def_ 8 (d := d__law_draws) rfl)
  have F__law_due := Z.fd_of (c.d.def_ 9 (d := d__law_due) rfl)
  have F__law_holds := Z.fd_of (c.d.def_ 10 (d := d__law_holds) rfl)
  have F__law_is_int := Z.fd_of (c.d.def_ 11 (d := d__law_is_int) rfl)
  have F__law_looks := Z.fd_of (c.d.def_ 12 (d := d__law_looks) rfl)
  have F__law_lot := Z.fd_of (c.d.def_ 13 (d := d__law_lot) rfl)
  have F__law_pairs := Z.fd_of (c.d.def_ 14 (d := d__law_pairs) rfl)
  have F__law_power := Z.fd_of (c.d.def_ 15 (d := d__law_power) rfl)
  have F__law_refuses := Z.fd_of (c.d.def_ 16 (d := d__law_refuses) rfl)
  have F__law_row := Z.fd_of (c.d.def_ 17 (d := d__law_row) rfl)
  have F__law_same_lot := Z.fd_of (c.d.def_ 18 (d := d__law_same_lot) rfl)
  have F__law_ups := Z.fd_of (c.d.def_ 19 (d := d__law_ups) rfl)
  have F__law_wrong := Z.fd_of (c.d.def_ 20 (d := d__law_wrong) rfl)
  have F_check_lot := Z.fd_of (c.d.def_ 21 (d := d_check_lot) rfl)
  have F_check_prices := Z.fd_of (c.d.def_ 22 (d := d_check_prices) rfl)
  have F_dearest_order := Z.fd_of (c.d.def_ 23 (d := d_dearest_order) rfl)
  have F_law := Z.fd_of (c.d.def_ 24 (d := d_law) rfl)
  have F_lot_at := Z.fd_of (c.d.def_ 25 (d := d_lot_at) rfl)
  have F_BadNeed___init__ := Z.fdOf_S (P := PySem.Challenge.pw_dearestshelf_k35_closed_refusals) (Z.supB_ok (c.sup 0 rfl) (c.fact 191 rfl))
  have F_BadNumber___init__ := Z.fdOf_S (P := PySem.Challenge.pw_dearestshelf_k35_closed_refusals) (Z.supB_ok (c.sup 1 rfl) (c.fact 192 rfl))
  have F_Closed___init__ := Z.fdOf_S (P := PySem.Challenge.pw_dearestshelf_k35_closed_refusals) (Z.supB_ok (c.sup 2 rfl) (c.fact 193 rfl))
  have F_Closed_allowed := Z.fdOf_S (P := PySem.Challenge.pw_dearestshelf_k35_closed_refusals) (Z.supB_ok (c.sup 3 rfl) (c.fact 194 rfl))
  have F_TooMany___init__ := Z.fdOf_S (P := PySem.Challenge.pw_dearestshelf_k35_closed_refusals) (Z.supB_ok (c.sup 4 rfl) (c.fact 195 rfl))
  have F_Weighted___init__ := Z.fdOf_S (P := PySem.Challenge.pw_dearestshelf_k35_closed_refusals) (Z.supB_ok (c.sup 5 rfl) (c.fact 196 rfl))
  exact {
    n_ValueError := He.free_ok X G (c.fact 0 rfl)
    n_all := He.free_ok X G (c.fact 1 rfl)
    n_bool := He.free_ok X G (c.fact 2 rfl)
    n_enumerate := He.free_ok X G (c.fact 3 rfl)
    n_int := He.free_ok X G (c.fact 4 rfl)
    n_isinstance := He.free_ok X G (c.fact 5 rfl)
    n_len := He.free_ok X G (c.fact 6 rfl)
    n_list := He.free_ok X G (c.fact 7 rfl)
    n_range := He.free_ok X G (c.fact 8 rfl)
    n_super := He.free_ok X G (c.fact 9 rfl)
    n_tuple := He.free_ok X G (c.fact 10 rfl)
    g__law_asked := He.glo_ok X G (c.fact 11 rfl)
    g__law_cell := He.glo_ok X G (c.fact 12 rfl)
    g__law_classes := He.glo_ok X G (c.fact 13 rfl)
    g__law_completed := He.glo_ok X G (c.fact 14 rfl)
    g__law_draws := He.glo_ok X G (c.fact 15 rfl)
    g__law_due := He.glo_ok X G (c.fact 16 rfl)
    g__law_holds := He.glo_ok X G (c.fact 17 rfl)
    g__law_is_int := He.glo_ok X G (c.fact 18 rfl)
    g__law_looks := He.glo_ok X G (c.fact 19 rfl)
    g__law_lot := He.glo_ok X G (c.fact 20 rfl)
    g__law_pairs := He.glo_ok X G (c.fact 21 rfl)
    g__law_power := He.glo_ok X G (c.fact 22 rfl)
    g__law_refuses := He.glo_ok X G (c.fact 23 rfl)
    g__law_row := He.glo_ok X G (c.fact 24 rfl)
    g__law_same_lot := He.glo_ok X G (c.fact 25 rfl)
    g__law_ups := He.glo_ok X G (c.fact 26 rfl)
    g__law_wrong := He.glo_ok X G (c.fact 27 rfl)
    g_check_lot := He.glo_ok X G (c.fact 28 rfl)
    g_check_prices := He.glo_ok X G (c.fact 29 rfl)
    g_law := He.glo_ok X G (c.fact 30 rfl)
    g_ShelfError := He.glo_ok X G (c.fact 31 rfl)
    ec_ShelfError := Z.excB_ok (c.fact 32 rfl)
    exm_ShelfError_BadNeed := Z.exmB_ok (c.fact 33 rfl)
    exm_ShelfError_BadNumber := Z.exmB_ok (c.fact 34 rfl)
    exm_ShelfError_ShelfError := Z.exmB_ok (c.fact 35 rfl)
    exm_ShelfError_BadLot := Z.exmB_ok (c.fact 36 rfl)
    ki_ShelfError_BadNeed := Z.kitB2_ok (c.fact 37 rfl)
    ki_ShelfError_BadNumber := Z.kitB2_ok (c.fact 38 rfl)
    ki_ShelfError_BadWish := Z.kitB2_ok (c.fact 39 rfl)
    ki_ShelfError_BadTable := Z.kitB2_ok (c.fact 40 rfl)
    ki_ShelfError_BadLot := Z.kitB2_ok (c.fact 41 rfl)
    ki_ShelfError_ValueError := Z.kitBt_ok (c.fact 42 rfl)
    ec_ZeroBottom := Z.excB_ok (c.fact 43 rfl)
    exm_ZeroBottom_BadNeed := Z.exmB_ok (c.fact 44 rfl)
    exm_ZeroBottom_BadNumber := Z.exmB_ok (c.fact 45 rfl)
    exm_ZeroBottom_ShelfError := Z.exmB_ok (c.fact 46 rfl)
    exm_ZeroBottom_BadLot := Z.exmB_ok (c.fact 47 rfl)
    ki_ZeroBottom_BadNeed := Z.kitB2_ok (c.fact 48 rfl)
    ki_ZeroBottom_BadNumber := Z.kitB2_ok (c.fact 49 rfl)
    ki_ZeroBottom_BadWish := Z.kitB2_ok (c.fact 50 rfl)
    ki_ZeroBottom_BadTable := Z.kitB2_ok (c.fact 51 rfl)
    ki_ZeroBottom_BadLot := Z.kitB2_ok (c.fact 52 rfl)
    ki_ZeroBottom_ValueError := Z.kitBt_ok (c.fact 53 rfl)
    ec_BadText := Z.excB_ok (c.fact 54 rfl)
    exm_BadText_BadNeed := Z.exmB_ok (c.fact 55 rfl)
    exm_BadText_BadNumber := Z.exmB_ok (c.fact 56 rfl)
    exm_BadText_ShelfError := Z.exmB_ok (c.fact 57 rfl)
    exm_BadText_BadLot := Z.exmB_ok (c.fact 58 rfl)
    ki_BadText_BadNeed := Z.kitB2_ok (c.fact 59 rfl)
    ki_BadText_BadNumber := Z.kitB2_ok (c.fact 60 rfl)
    ki_BadText_BadWish := Z.kitB2_ok (c.fact 61 rfl)
    ki_BadText_BadTable := Z.kitB2_ok (c.fact 62 rfl)
    ki_BadText_BadLot := Z.kitB2_ok (c.fact 63 rfl)
    ki_BadText_ValueError := Z.kitBt_ok (c.fact 64 rfl)
    g_BadLot := He.glo_ok X G (c.fact 65 rfl)
    ec_BadLot := Z.excB_ok (c.fact 66 rfl)
    exm_BadLot_BadNeed := Z.exmB_ok (c.fact 67 rfl)
    exm_BadLot_BadNumber := Z.exmB_ok (c.fact 68 rfl)
    exm_BadLot_ShelfError := Z.exmB_ok (c.fact 69 rfl)
    exm_BadLot_BadLot := Z.exmB_ok (c.fact 70 rfl)
    ki_BadLot_BadNeed := Z.kitB2_ok (c.fact 71 rfl)
    ki_BadLot_BadNumber := Z.kitB2_ok (c.fact 72 rfl)
    ki_BadLot_BadWish := Z.kitB2_ok (c.fact 73 rfl)
    ki_BadLot_BadTable := Z.kitB2_ok (c.fact 74 rfl)
    ki_BadLot_BadLot := Z.kitB2_ok (c.fact 75 rfl)
    ki_BadLot_ValueError := Z.kitBt_ok (c.fact 76 rfl)
    x_BadLot := He.exc_ok (c.fact 77 rfl)
    g_BadNumber := He.glo_ok X G (c.fact 78 rfl)
    xf_BadNumber := Z.xfcB_ok (c.fact 79 rfl)
    oe_BadNumber := Z.oexB_ok (c.fact 80 rfl)
    si_BadNumber := Z.supiB_ok (c.fact 81 rfl)
    nf_BadNumber_what := Z.nomet_ok (c.fact 82 rfl)
    nf_BadNumber_at := Z.nomet_ok (c.fact 83 rfl)
    ec_BadNumber := Z.excB_ok (c.fact 84 rfl)
    exm_BadNumber_BadNeed := Z.exmB_ok (c.fact 85 rfl)
    exm_BadNumber_BadNumber := Z.exmB_ok (c.fact 86 rfl)
    exm_BadNumber_ShelfError := Z.exmB_ok (c.fact 87 rfl)
    exm_BadNumber_BadLot := Z.exmB_ok (c.fact 88 rfl)
    ki_BadNumber_BadNeed := Z.kitB2_ok (c.fact 89 rfl)
    ki_BadNumber_BadNumber := Z.kitB2_ok (c.fact 90 rfl)
    ki_BadNumber_BadWish := Z.kitB2_ok (c.fact 91 rfl)
    ki_BadNumber_BadTable := Z.kitB2_ok (c.fact 92 rfl)
    ki_BadNumber_BadLot := Z.kitB2_ok (c.fact 93 rfl)
    ki_BadNumber_ValueError := Z.kitBt_ok (c.fact 94 rfl)
    g_TooMany := He.glo_ok X G (c.fact 95 rfl)
    oe_TooMany := Z.oexB_ok (c.fact 96 rfl)
    si_TooMany := Z.supiB_ok (c.fact 97 rfl)
    nf_TooMany_many := Z.nomet_ok (c.fact 98 rfl)
    nf_TooMany_most := Z.nomet_ok (c.fact 99 rfl)
    ec_TooMany := Z.excB_ok (c.fact 100 rfl)
    exm_TooMany_BadNeed := Z.exmB_ok (c.fact 101 rfl)
    exm_TooMany_BadNumber := Z.exmB_ok (c.fact 102 rfl)
    exm_TooMany_ShelfError := Z.exmB_ok (c.fact 103 rfl)
    exm_TooMany_BadLot := Z.exmB_ok (c.fact 104 rfl)
    ki_TooMany_BadNeed := Z.kitB2_ok (c.fact 105 rfl)
    ki_TooMany_BadNumber := Z.kitB2_ok (c.fact 106 rfl)
    ki_TooMany_BadWish := Z.kitB2_ok (c.fact 107 rfl)
    ki_TooMany_BadTable := Z.kitB2_ok (c.fact 108 rfl)
    ki_TooMany_BadLot := Z.kitB2_ok (c.fact 109 rfl)
    ki_TooMany_ValueError := Z.kitBt_ok (c.fact 110 rfl)
    g_BadWish := He.glo_ok X G (c.fact 111 rfl)
    ec_BadWish := Z.excB_ok (c.fact 112 rfl)
    exm_BadWish_BadNeed := Z.exmB_ok (c.fact 113 rfl)
    exm_BadWish_BadNumber := Z.exmB_ok (c.fact 114 rfl)
    exm_BadWish_ShelfError := Z.exmB_ok (c.fact 115 rfl)
    exm_BadWish_BadLot := Z.exmB_ok (c.fact 116 rfl)
    ki_BadWish_BadNeed := Z.kitB2_ok (c.fact 117 rfl)
    ki_BadWish_BadNumber := Z.kitB2_ok (c.fact 118 rfl)
    ki_BadWish_BadWish := Z.kitB2_ok (c.fact 119 rfl)
    ki_BadWish_BadTable := Z.kitB2_ok (c.fact 120 rfl)
    ki_BadWish_BadLot := Z.kitB2_ok (c.fact 121 rfl)
    ki_BadWish_ValueError := Z.kitBt_ok (c.fact 122 rfl)
    g_BadTable := He.glo_ok X G (c.fact 123 rfl)
    ec_BadTable := Z.excB_ok (c.fact 124 rfl)
    exm_BadTable_BadNeed := Z.exmB_ok (c.fact 125 rfl)
    exm_BadTable_BadNumber := Z.exmB_ok (c.fact 126 rfl)
    exm_BadTable_ShelfError := Z.exmB_ok (c.fact 127 rfl)
    exm_BadTable_BadLot := Z.exmB_ok (c.fact 128 rfl)
    ki_BadTable_BadNeed := Z.kitB2_ok (c.fact 129 rfl)
    ki_BadTable_BadNumber := Z.kitB2_ok (c.fact 130 rfl)
    ki_BadTable_BadWish := Z.kitB2_ok (c.fact 131 rfl)
    ki_BadTable_BadTable := Z.kitB2_ok (c.fact 132 rfl)
    ki_BadTable_BadLot := Z.kitB2_ok (c.fact 133 rfl)
    ki_BadTable_ValueError := Z.kitBt_ok (c.fact 134 rfl)
    g_BadNeed := He.glo_ok X G (c.fact 135 rfl)
    xf_BadNeed := Z.xfcB_ok (c.fact 136 rfl)
    oe_BadNeed := Z.oexB_ok (c.fact 137 rfl)
    si_BadNeed := Z.supiB_ok (c.fact 138 rfl)
    nf_BadNeed_at := Z.nomet_ok (c.fact 139 rfl)
    ec_BadNeed := Z.excB_ok (c.fact 140 rfl)
    exm_BadNeed_BadNeed := Z.exmB_ok (c.fact 141 rfl)
    exm_BadNeed_BadNumber := Z.exmB_ok (c.fact 142 rfl)
    exm_BadNeed_ShelfError := Z.exmB_ok (c.fact 143 rfl)
    exm_BadNeed_BadLot := Z.exmB_ok (c.fact 144 rfl)
    ki_BadNeed_BadNeed := Z.kitB2_ok (c.fact 145 rfl)
    ki_BadNeed_BadNumber := Z.kitB2_ok (c.fact 146 rfl)
    ki_BadNeed_BadWish := Z.kitB2_ok (c.fact 147 rfl)
    ki_BadNeed_BadTable := Z.kitB2_ok (c.fact 148 rfl)
    ki_BadNeed_BadLot := Z.kitB2_ok (c.fact 149 rfl)
    ki_BadNeed_ValueError := Z.kitBt_ok (c.fact 150 rfl)
    g_Ratio := He.glo_ok X G (c.fact 151 rfl)
    o_Ratio := Z.ownB_ok (c.fact 152 rfl)
    ki_Ratio_Choice := Z.kitB2_ok (c.fact 153 rfl)
    na_Ratio_top := He.noat_ok (c.fact 154 rfl)
    na_Ratio_bottom := He.noat_ok (c.fact 155 rfl)
    me_Ratio___lt__ := Z.methB_ok (c.fact 156 rfl)
    g_Choice := He.glo_ok X G (c.fact 157 rfl)
    o_Choice := Z.ownB_ok (c.fact 158 rfl)
    g_Closed := He.glo_ok X G (c.fact 159 rfl)
    o_Closed := Z.ownB_ok (c.fact 160 rfl)
    mk_Closed := Z.mkrB_ok (c.fact 161 rfl)
    ki_Closed_Choice := Z.kitB2_ok (c.fact 162 rfl)
    na_Closed_needs := He.noat_ok (c.fact 163 rfl)
    na_Closed_rule := He.noat_ok (c.fact 164 rfl)
    na_Closed_prices := He.noat_ok (c.fact 165 rfl)
    me_Closed_allowed := Z.methB_ok (c.fact 166 rfl)
    o_Rule := Z.ownB_ok (c.fact 167 rfl)
    ki_Rule_Choice := Z.kitB2_ok (c.fact 168 rfl)
    g_Weighted := He.glo_ok X G (c.fact 169 rfl)
    o_Weighted := Z.ownB_ok (c.fact 170 rfl)
    mk_Weighted := Z.mkrB_ok (c.fact 171 rfl)
    k_Weighted_MOST := (Z.conIB_ok (c.fact 172 rfl) (by decide +kernel))
    ki_Weighted_Choice := Z.kitB2_ok (c.fact 173 rfl)
    na_Weighted_weights := He.noat_ok (c.fact 174 rfl)
    na_Weighted_aside := He.noat_ok (c.fact 175 rfl)
    na_Weighted_many := He.noat_ok (c.fact 176 rfl)
    third := Z.thirdB_ok (c.fact 177 rfl)
    c_BadNumber := Z.clsB_ok (c.fact 178 rfl)
    mro_BadNumber_BadNumber := Z.mroB_ok (c.fact 179 rfl)
    c_TooMany := Z.clsB_ok (c.fact 180 rfl)
    mro_TooMany_TooMany := Z.mroB_ok (c.fact 181 rfl)
    c_BadNeed := Z.clsB_ok (c.fact 182 rfl)
    mro_BadNeed_BadNeed := Z.mroB_ok (c.fact 183 rfl)
    c_Closed := Z.clsB_ok (c.fact 184 rfl)
    mro_Closed_Closed := Z.mroB_ok (c.fact 185 rfl)
    c_Weighted := Z.clsB_ok (c.fact 186 rfl)
    mro_Weighted_Weighted := Z.mroB_ok (c.fact 187 rfl)
    sm_Closed_Closed___init__ := Z.supmB_ok (c.fact 188 rfl)
    sm_Closed_Closed_allowed := Z.supmB_ok (c.fact 189 rfl)
    sm_Weighted_Weighted___init__ := Z.supmB_ok (c.fact 190 rfl)
    F_Choice___init__ := F_Choice___init__
    F_Choice_allowed := F_Choice_allowed
    F_Ratio___lt__ := F_Ratio___lt__
    F_Rule___init__ := F_Rule___init__
    F__law_asked := F__law_asked
    F__law_cell := F__law_cell
    F__law_classes := F__law_classes
    F__law_completed := F__law_completed
    F__law_draws := F__law_draws
    F__law_due := F__law_due
    F__law_holds := F__law_holds
    F__law_is_int := F__law_is_int
    F__law_looks := F__law_looks
    F__law_lot := F__law_lot
    F__law_pairs := F__law_pairs
    F__law_power := F__law_power
    F__law_refuses := F__law_refuses
    F__law_row := F__law_row
    F__law_same_lot := F__law_same_lot
    F__law_ups := F__law_ups
    F__law_wrong := F__law_wrong
    F_check_lot := F_check_lot
    F_check_prices := F_check_prices
    F_dearest_order := F_dearest_order
    F_law := F_law
    F_lot_at := F_lot_at
    F_BadNeed___init__ := F_BadNeed___init__
    F_BadNumber___init__ := F_BadNumber___init__
    F_Closed___init__ := F_Closed___init__
    F_Closed_allowed := F_Closed_allowed
    F_TooMany___init__ := F_TooMany___init__
    F_Weighted___init__ := F_Weighted___init__
    p_top := by kernel_rfl
    b_Choice___init__ := F_Choice___init__.bindsN fun _ _ _ _ _ _ us hl => match us, hl with | [_, _, _], _ => rfl
    b_Choice_allowed := F_Choice_allowed.bindsN fun _ _ _ _ _ _ us hl => match us, hl with | [_, _], _ => rfl
    b_Ratio___lt__ := F_Ratio___lt__.bindsN fun _ _ _ _ _ _ us hl => match us, hl with | [_, _], _ => rfl
    b_Rule___init__ := F_Rule___init__.bindsN fun _ _ _ _ _ _ us hl => match us, hl with | [_, _], _ => rfl
    b__law_asked := F__law_asked.bindsN fun _ _ _ _ _ _ us hl => match us, hl with | [_, _, _], _ => rfl
    b__law_cell := F__law_cell.bindsN fun _ _ _ _ _ _ us hl => match us, hl with | [_, _], _ => rfl
    b__law_classes := F__law_classes.bindsN fun _ _ _ _ _ _ us hl => match us, hl with | [_, _, _], _ => rfl
    b__law_completed := F__law_completed.bindsN fun _ _ _ _ _ _ us hl => match us, hl with | [_, _, _], _ => rfl
    b__law_draws := F__law_draws.bindsN fun _ _ _ _ _ _ us hl => match us, hl with | [_, _], _ => rfl
    b__law_due := F__law_due.bindsN fun _ _ _ _ _ _ us hl => match us, hl with | [_, _], _ => rfl
    b__law_holds := F__law_holds.bindsN fun _ _ _ _ _ _ us hl => match us, hl with | [_, _], _ => rfl
    b__law_is_int := F__law_is_int.bindsN fun _ _ _ _ _ _ us hl => match us, hl with | [_], _ => rfl
    b__law_looks := F__law_looks.bindsN fun _ _ _ _ _ _ us hl => match us, hl with | [_, _, _, _], _ => rfl
    b__law_lot := F__law_lot.bindsN fun _ _ _ _ _ _ us hl => match us, hl with | [_, _], _ => rfl
    b__law_pairs := F__law_pairs.bindsN fun _ _ _ _ _ _ us hl => match us, hl with | [_, _, _], _ => rfl
    b__law_power := F__law_power.bindsN fun _ _ _ _ _ _ us hl => match us, hl with | [_], _ => rfl
    b__law_refuses := F__law_refuses.bindsN fun _ _ _ _ _ _ us hl => match us, hl with | [_, _], _ => rfl
    b__law_row := F__law_row.bindsN fun _ _ _ _ _ _ us hl => match us, hl with | [_, _], _ => rfl
    b__law_same_lot := F__law_same_lot.bindsN fun _ _ _ _ _ _ us hl => match us, hl with | [_, _], _ => rfl
    b__law_ups := F__law_ups.bindsN fun _ _ _ _ _ _ us hl => match us, hl with | [_], _ => rfl
    b__law_wrong := F__law_wrong.bindsN fun _ _ _ _ _ _ us hl => match us, hl with | [_, _], _ => rfl
    b_check_lot := F_check_lot.bindsN fun _ _ _ _ _ _ us hl => match us, hl with | [_, _], _ => rfl
    b_check_prices := F_check_prices.bindsN fun _ _ _ _ _ _ us hl => match us, hl with | [_, _], _ => rfl
    b_dearest_order := F_dearest_order.bindsN fun _ _ _ _ _ _ us hl => match us, hl with | [_], _ => rfl
    b_law := F_law.bindsN fun _ _ _ _ _ _ us hl => match us, hl with | [_], _ => rfl
    b_lot_at := F_lot_at.bindsN fun _ _ _ _ _ _ us hl => match us, hl with | [_, _], _ => rfl
    b_BadNeed___init__ := Z.FunS.binds F_BadNeed___init__ fun _ _ _ _ _ _ us hl => match us, hl with | [_, _], _ => rfl
    b_BadNumber___init__ := Z.FunS.binds F_BadNumber___init__ fun _ _ _ _ _ _ us hl => match us, hl with | [_, _, _], _ => rfl
    kb_Closed___init__ := Z.FunS.kb F_Closed___init__ fun _ _ _ _ _ _ us ws hl hk => match us, hl, ws, hk with | [_, _, _], _, [_], _ => rfl
    b_Closed_allowed := Z.FunS.binds F_Closed_allowed fun _ _ _ _ _ _ us hl => match us, hl with | [_, _], _ => rfl
    b_TooMany___init__ := Z.FunS.binds F_TooMany___init__ fun _ _ _ _ _ _ us hl => match us, hl with | [_, _, _], _ => rfl
    b_Weighted___init__ := Z.FunS.binds F_Weighted___init__ fun _ _ _ _ _ _ us hl => match us, hl with | [_, _, _], _ => rfl }
def sp_law0 (K : PySem.W.Frag) : Sp := fun vs H Q _ => ∃ (a : Addr) (ns : List Int), vs = [.ref a] ∧ SqL K H a (ns.map V.int) ∧ ∀ H', Q (.bl true) H'
end R
section
open PySem PySem.W PySem.Calls PyProof.Rows
set_option maxRecDepth 100000 in
set_option maxHeartbeats 0 in
theorem R.fin (ok : ∀ {w : World} {K : PySem.W.Frag} {mg : PySem.Str → Option Value} {base : Heap}, R.Tx PySem.Challenge.pw_dearestshelf_k35_closed_refusals K mg → L2.FnOk PySem.Challenge.pw_dearestshelf_k35_closed_refusals w K mg base L2.CX0 9 (He.ga K "law") (Z.fdOf K (He.ga K "law")) ["_law_script"] (R.sp_law0 K)) : PySem.Challenge.rw_dearestshelf_k35_closed_refusals.Holds := by
  w_on; o_law
  refine HandSHeadRun.head_imp (r := OpenLaw.row PySem.Challenge.rw_dearestshelf_k35_closed_refusals) (q := view (OpenLaw.row PySem.Challenge.rw_dearestshelf_k35_closed_refusals).prog [0, 53]) (H := R.hk) (ob := R.ob) (M := 20000) (loose := ((["_wall", "ShelfError", "ZeroBottom", "BadText", "BadLot", "BadNumber", "TooMany", "BadWish", "BadTable", "BadNeed", "check_lot", "check_prices", "lot_at", "lots", "dearest_order", "DIGITS", "read_whole", "Ratio", "Choice", "reached_from", "path_edges", "max_flow", "Closed", "Rule", "Weighted"] : List Str) ++ (["dearer_than_worth", "_law_cell", "_law_draws", "_law_row", "_law_ups", "_law_lot", "_law_power", "_law_is_int", "_law_same_lot", "_law_pairs", "_law_wrong", "_law_due", "_law_asked", "_law_classes", "_law_refuses", "_law_holds", "_law_completed", "_law_looks"] : List Str))) (d := HandSHeadRun.topDef (OpenLaw.row PySem.Challenge.rw_dearestshelf_k35_closed_refusals).prog 53) (kwd := []) R.ob_eq
    R.run (by kernel_rfl) (by kernel_rfl) (by kernel_rfl) (by rfl) (by first | assumption | decide +kernel) (by decide +kernel) ⟨rfl, rfl, rfl, rfl, rfl, by decide +kernel⟩ ?hw ?hc
  case hw => w_witness2
  case hc =>
    refine L2.walk_ofE (l := PySem.Challenge.rw_dearestshelf_k35_closed_refusals) (n := 63) (k := 9) (x := "_law_script") (CX := L2.CX0) rfl (by decide) (by kernel_rfl) ⟨rfl, by decide, by decide⟩ ?F (fun _ _ _ _ z => z)
    intro w mg fa h Y G hmg0
    obtain ⟨K, KX, c⟩ := Y
    have hmg : mg ("law" : PySem.Str) = some (.ref fa) := by
      have e : (HandSHeadRun.topDef (OpenLaw.row PySem.Challenge.rw_dearestshelf_k35_closed_refusals).prog 53).name = ("law" : PySem.Str) := by kernel_rfl
      rw [← e]
      exact hmg0
    have T := R.tx KX G c
    have e := hmg.symm.trans T.g_law
    cases e
    have b := L2.FunD.bindsA (ps := ["_law_script"]) T.F_law fun _ _ _ _ _ _ us hl => match us, hl with | [_], _ => rfl
    exact ⟨K, _, R.sp_law0 K, KX, fun s v => b s [v] rfl, fun H a ns hl _ hS => ⟨a, ns, rfl, hS, fun _ => rfl⟩, fun base _ _ => ok T⟩
end
namespace R
open PySem L2 Z
variable {P : Program} {w : World} {K : PySem.W.Frag} {mg : Str → Option Value} {base : Heap}
--lib
/-! ### a Ratio stands for a Rat -/
def rF (t b : Int) : List (Str × V) := [("top", .int t), ("bottom", .int b)]
theorem rF_top (t b : Int) : (rF t b).lookup ("top" : Str) = some (.int t) := rfl
theorem rF_bottom (t b : Int) : (rF t b).lookup ("bottom" : Str) = some (.int b) := by
  have h : (("bottom" : Str) == ("top" : Str)) = false := by decide +kernel
  simp only [rF, List.lookup, h]
  rfl
theorem rF_put (t b : Int) : putF "bottom" (.int b) (putF "top" (.int t) []) = rF t b := by
  have h : ¬ (("top" : Str) = ("bottom" : Str)) := by decide +kernel
  show (if ("top" : Str) = "bottom" then _ else _) = _
  rw [if_neg h]
  rfl
theorem rF_no (t b : Int) {m : Str} (h1 : (m == ("top" : Str)) = false) (h2 : (m == ("bottom" : Str)) = false) : (rF t b).lookup m = none := by
  simp only [rF, List.lookup, h1, h2]
/-- numbers of less than n bits -/
def Sz (q : Rat) (n : Nat) : Prop := q.num.natAbs < 2 ^ n ∧ q.den < 2 ^ n
theorem Sz.mono {q : Rat} {n m : Nat} (h : Sz q n) (hm : n ≤ m) : Sz q m := ⟨Nat.lt_of_lt_of_le h.1 (Nat.pow_le_pow_right (by decide) hm), Nat.lt_of_lt_of_le h.2 (Nat.pow_le_pow_right (by decide) hm)⟩
theorem Sz.den {q : Rat} {n : Nat} (h : Sz q n) : ((q.den : Int)).natAbs < 2 ^ n := by rw [Int.natAbs_natCast]; exact h.2
theorem Sz.num {q : Rat} {n : Nat} (h : Sz q n) : q.num.natAbs < 2 ^ n := h.1
/-- the Ratio of q stands at a, its numbers have less than n bits -/
structure RN (C : Addr) (H : Hp) (a : Addr) (q : Rat) (n : Nat) : Prop where
  at_ : ∃ dx, At H a (.ins C dx (rF q.num q.den))
  sz : Sz q n
  le : n ≤ 13400
theorem RN.ex {C a : Addr} {H H' : Hp} {q : Rat} {n : Nat} (h : RN C H a q n) (e : Ex H H') : RN C H' a q n := ⟨⟨h.at_.choose, e.get h.at_.choose_spec⟩, h.sz, h.le⟩
theorem RN.nl {C a : Addr} {H H' : Hp} {q : Rat} {n : Nat} (h : RN C H a q n) (e : Nl H H') : RN C H' a q n := ⟨⟨h.at_.choose, e.get (fun l z => by cases z) h.at_.choose_spec⟩, h.sz, h.le⟩
theorem rnE {C a : Addr} {H H' : Hp} {q : Rat} {n : Nat} (h : RN C H a q n) (e : Exs H H') : RN C H' a q n := h.ex e.ex
theorem rnN {C a : Addr} {H H' : Hp} {q : Rat} {n : Nat} (h : RN C H a q n) (e : Nls H H') : RN C H' a q n := h.nl e.nl
theorem RN.eq {C a : Addr} {H : Hp} {q r : Rat} {n m : Nat} (h : RN C H a q n) (e : q = r) (hm : n ≤ m) (h9 : m ≤ 13400) : RN C H a r m := ⟨e ▸ h.at_, e ▸ h.sz.mono hm, h9⟩
/-- an int or a Ratio -/
inductive RZ (C : Addr) (H : Hp) : V → Rat → Nat → Prop where
  | int {i : Int} {n : Nat} (h : i.natAbs < 2 ^ n) : RZ C H (.int i) (i : Rat) n
  | rat {a : Addr} {q : Rat} {n : Nat} (h : RN C H a q n) : RZ C H (.ref a) q n
theorem RZ.ex {C : Addr} {H H' : Hp} {v : V} {q : Rat} {n : Nat} (h : RZ C H v q n) (e : Ex H H') : RZ C H' v q n := by
  cases h with
  | int h => exact .int h
  | rat h => exact .rat (h.ex e)
/-- what __init__ reckons -/
theorem div_num {t b : Int} (hb : 0 < b) : (Rat.divInt t b).num = t / ((Nat.gcd t.natAbs b.natAbs : Nat) : Int) := by
  rw [Rat.num_divInt, Int.sign_eq_one_of_pos hb, Int.one_mul, Int.gcd_comm]; rfl
theorem div_den {t b : Int} (hb : 0 < b) : ((Rat.divInt t b).den : Int) = b / ((Nat.gcd t.natAbs b.natAbs : Nat) : Int) := by
  rw [Rat.den_divInt, if_neg (by omega), Int.gcd_comm, Int.natCast_ediv, Int.natAbs_of_nonneg (by omega)]; rfl
theorem sz_div {t b : Int} {n : Nat} (hb : b ≠ 0) (h1 : t.natAbs < 2 ^ n) (h2 : b.natAbs < 2 ^ n) : Sz (Rat.divInt t b) n := by
  constructor
  · rw [Rat.num_divInt]
    refine Nat.lt_of_le_of_lt ?_ h1
    refine Nat.le_trans (Int.natAbs_ediv_le_natAbs _ _) ?_
    rw [Int.natAbs_mul, Int.natAbs_sign_of_ne_zero hb]
    omega
  · rw [Rat.den_divInt, if_neg hb]
    exact Nat.lt_of_le_of_lt (Nat.div_le_self _ _) h2
theorem rat_eq (q : Rat) : q = Rat.divInt q.num q.den := (Rat.num_divInt_den q).symm
theorem div1 (n : Int) : (n : Rat) = Rat.divInt n 1 := by
  apply Rat.ext
  · rw [Rat.num_divInt]; simp
  · rw [Rat.den_divInt]; simp
theorem sz_int {i : Int} {n : Nat} (h : i.natAbs < 2 ^ n) : Sz (i : Rat) (n + 1) := by
  rw [div1]
  exact sz_div (by decide) (bt_mono h (by omega)) (by rw [Nat.pow_succ]; have := Nat.pow_pos (n := n) (show 0 < 2 by decide); show 1 < _; omega)
theorem den0 (q : Rat) : (q.den : Int) ≠ 0 := by have := q.den_pos; omega
theorem den1 (q : Rat) : (0 : Int) < q.den := by have := q.den_pos; omega
/-- sums, products, as __init__ is called for them -/
theorem add_int (q : Rat) (n : Int) : q + (n : Rat) = Rat.divInt (q.num + n * q.den) q.den := by
  conv => lhs; rw [div1 n, rat_eq q]
  rw [Rat.divInt_add_divInt _ _ (den0 q) (by decide), Int.mul_one, Int.mul_one]
theorem sub_int (q : Rat) (n : Int) : q - (n : Rat) = Rat.divInt (q.num - n * q.den) q.den := by
  conv => lhs; rw [div1 n, rat_eq q]
  rw [Rat.divInt_sub_divInt _ _ (den0 q) (by decide), Int.mul_one, Int.mul_one]
theorem mul_int' (q : Rat) (n : Int) : q * (n : Rat) = Rat.divInt (q.num * n) q.den := by
  conv => lhs; rw [div1 n, rat_eq q]
  rw [Rat.divInt_mul_divInt, Int.mul_one]
theorem add_rat (q r : Rat) : q + r = Rat.divInt (q.num * r.den + r.num * q.den) (q.den * r.den) := by
  conv => lhs; rw [rat_eq q, rat_eq r]
  rw [Rat.divInt_add_divInt _ _ (den0 q) (den0 r)]
theorem sub_rat (q r : Rat) : q - r = Rat.divInt (q.num * r.den - r.num * q.den) (q.den * r.den) := by
  conv => lhs; rw [rat_eq q, rat_eq r]
  rw [Rat.divInt_sub_divInt _ _ (den0 q) (den0 r)]
theorem mul_rat (q r : Rat) : q * r = Rat.divInt (q.num * r.num) (q.den * r.den) := by
  conv => lhs; rw [rat_eq q, rat_eq r]
  rw [Rat.divInt_mul_divInt]
theorem up9 {a : Int} {n : Nat} (h : a.natAbs < 2 ^ n) (hn : n ≤ 13400) : a.natAbs < 2 ^ 13400 := bt_mono h hn
theorem num0 {q : Rat} : q.num = 0 ↔ q = 0 := by
  constructor
  · intro h
    rw [rat_eq q, h]
    exact Rat.zero_divInt _
  · intro h; rw [h]; rfl
/-- quotients -/
theorem div_int (q : Rat) {n : Int} (h : n ≠ 0) : q / (n : Rat) = Rat.divInt q.num (q.den * n) := by
  conv => lhs; rw [div1 n, rat_eq q]
  rw [Rat.div_def, Rat.inv_divInt, Rat.divInt_mul_divInt, Int.mul_one]
theorem div_rat (q r : Rat) : q / r = Rat.divInt (q.num * r.den) (q.den * r.num) := by
  conv => lhs; rw [rat_eq q, rat_eq r]
  rw [Rat.div_def, Rat.inv_divInt, Rat.divInt_mul_divInt]
/-- order by whole numbers -/
theorem lt_rat (q r : Rat) : q < r ↔ q.num * r.den < r.num * q.den := Rat.lt_iff q r
theorem le_rat (q r : Rat) : q ≤ r ↔ q.num * r.den ≤ r.num * q.den := Rat.le_iff q r
theorem lt_int (q : Rat) (n : Int) : q < (n : Rat) ↔ q.num < n * q.den := by rw [lt_rat]; simp
theorem le_int (q : Rat) (n : Int) : q ≤ (n : Rat) ↔ q.num ≤ n * q.den := by rw [le_rat]; simp
theorem int_lt (q : Rat) (n : Int) : (n : Rat) < q ↔ n * q.den < q.num := by rw [lt_rat]; simp
theorem int_le (q : Rat) (n : Int) : (n : Rat) ≤ q ↔ n * q.den ≤ q.num := by rw [le_rat]; simp
theorem eq_rat (q r : Rat) : q = r ↔ (q.num = r.num ∧ (q.den : Int) = r.den) := by
  constructor
  · rintro rfl; exact ⟨rfl, rfl⟩
  · rintro ⟨h1, h2⟩
    exact Rat.ext h1 (by omega)
/-- a Ratio's fields, behind its __init__ -/
theorem mk_rat {C p dx : Addr} {H H2 H' : Hp} {q : Rat} {n : Nat} (nw : New C H p dx H2) (h1 : ∀ c o, c ≠ p → At H2 c o → At H' c o) (h2 : At H' p (.ins C dx (rF q.num q.den))) (hs : Sz q n) (hn : n ≤ 13400) : Ex H H' ∧ RN C H' p q n :=
  ⟨⟨fun {a} {o} e => h1 a o (e.ne nw.new) (nw.ex.get e)⟩, ⟨dx, h2⟩, hs, hn⟩
theorem floor_nd (q : Rat) : q.floor = q.num / q.den := by
  unfold Rat.floor
  split
  · rename_i h; rw [h]; simp
  · rfl
theorem le_divI {f t b : Int} (hb : 0 < b) : (f : Rat) ≤ Rat.divInt t b ↔ f * b ≤ t := by
  have h0 : (0 : Rat) < (b : Rat) := by exact_mod_cast hb
  rw [Rat.divInt_eq_div, ← Rat.not_lt, Rat.div_lt_iff h0, Rat.not_lt]
  exact_mod_cast Iff.rfl
theorem divI_lt {f t b : Int} (hb : 0 < b) : Rat.divInt t b < (f : Rat) ↔ t < f * b := by
  have h0 : (0 : Rat) < (b : Rat) := by exact_mod_cast hb
  rw [Rat.divInt_eq_div, Rat.div_lt_iff h0]
  exact_mod_cast Iff.rfl
/-- the floor of a fraction -/
theorem floor_div {t b : Int} (hb : 0 < b) : (Rat.divInt t b).floor * b ≤ t ∧ t < ((Rat.divInt t b).floor + 1) * b :=
  ⟨(le_divI hb).mp (Rat.floor_le _), (divI_lt hb).mp (Rat.lt_floor_add_one _)⟩
theorem floor_bt {q : Rat} {n : Nat} (h : Sz q n) : q.floor.natAbs < 2 ^ n := by rw [floor_nd]; exact bt_fdiv h.1
theorem floor_divI {t b : Int} (hb : 0 < b) : (Rat.divInt t b).floor = t / b := by
  obtain ⟨h1, h2⟩ := floor_div (t := t) hb
  apply Int.le_antisymm
  · exact (Int.le_ediv_iff_mul_le hb).mpr h1
  · exact Int.le_of_lt_add_one ((Int.ediv_lt_iff_lt_mul hb).mpr h2)
/-- the rest is smaller than the divisor -/
theorem rest_lt {t b : Int} (hb : b ≠ 0) : (t - b * (Rat.divInt t b).floor).natAbs < b.natAbs := by
  by_cases h : 0 < b
  · rw [floor_divI h]
    have h1 := Int.emod_nonneg t hb
    have h2 := Int.emod_lt_of_pos t h
    have h3 := Int.mul_ediv_add_emod t b
    omega
  · have hn : 0 < -b := by omega
    have e : Rat.divInt t b = Rat.divInt (-t) (-b) := (Rat.neg_divInt_neg t b).symm
    rw [e, floor_divI hn]
    have h1 := Int.emod_nonneg (-t) (show -b ≠ 0 by omega)
    have h2 := Int.emod_lt_of_pos (-t) hn
    have h3 := Int.mul_ediv_add_emod (-t) (-b)
    have h4 : -b * (-t / -b) = -(b * (-t / -b)) := Int.neg_mul _ _
    omega
theorem sz_mod {q r : Rat} {n m : Nat} (hq : Sz q n) (hr : Sz r m) (h0 : r ≠ 0) : Sz (q - r * ((q / r).floor : Rat)) (n + m) := by
  have hn : r.num ≠ 0 := fun z => h0 (num0.mp z)
  have hd := den0 q
  have e : q - r * ((q / r).floor : Rat) = Rat.divInt (q.num * r.den - r.num * q.den * (q / r).floor) (q.den * r.den) := by
    conv => lhs; rw [rat_eq q, rat_eq r]
    rw [← rat_eq q, ← rat_eq r]
    generalize (q / r).floor = f
    have e1 : r * (f : Rat) = Rat.divInt (r.num * f) r.den := mul_int' r f
    rw [e1]
    conv => lhs; rw [rat_eq q]
    rw [Rat.divInt_sub_divInt _ _ hd (den0 r)]
    congr 1
    grind
  have hb : (q.den : Int) * r.num ≠ 0 := Int.mul_ne_zero hd hn
  have hl := rest_lt (t := q.num * r.den) hb
  rw [← div_rat] at hl
  have hl2 : (q.num * r.den - r.num * q.den * (q / r).floor).natAbs < 2 ^ (n + m) := by
    rw [Int.mul_comm r.num q.den]
    exact Nat.lt_trans hl (bt_mul hq.den hr.1)
  rw [e]
  exact sz_div (Int.mul_ne_zero hd (den0 r)) hl2 (bt_mul hq.den hr.den)
theorem div_lt {a b c d : Int} (hb : 0 < b) (hd : 0 < d) : Rat.divInt a b < Rat.divInt c d ↔ a * d < c * b := by
  have h1 : (0 : Rat) < (b : Rat) := by exact_mod_cast hb
  have h2 : (0 : Rat) < (d : Rat) := by exact_mod_cast hd
  have e : (c : Rat) / d * b = (c : Rat) * b / d := by rw [Rat.div_def, Rat.div_def]; grind
  rw [Rat.divInt_eq_div, Rat.divInt_eq_div, Rat.div_lt_iff h1, e, Rat.lt_div_iff h2]
  exact_mod_cast Iff.rfl
theorem div_le {a b c d : Int} (hb : 0 < b) (hd : 0 < d) : Rat.divInt a b ≤ Rat.divInt c d ↔ a * d ≤ c * b := by
  rw [← Rat.not_lt, div_lt hd hb, Int.not_lt]
theorem RN.tight {C a : Addr} {H : Hp} {q r : Rat} {n m : Nat} (h : RN C H a q n) (e : q = r) (hs : Sz r m) (h9 : m ≤ 13400) : RN C H a r m := ⟨e ▸ h.at_, hs, h9⟩
theorem sz0 {n : Nat} (h : 1 ≤ n) : Sz 0 n := Sz.mono (n := 1) ⟨by decide, by decide⟩ h
theorem sz1 {n : Nat} (h : 1 ≤ n) : Sz 1 n := Sz.mono (n := 1) ⟨by decide, by decide⟩ h
theorem divI_le_q (q : Rat) {B T : Int} (hT : 0 < T) : Rat.divInt B T ≤ q ↔ B * q.den ≤ q.num * T := by
  have h := div_le (a := B) (c := q.num) hT (den1 q)
  rwa [← rat_eq q] at h
theorem divI_lt_q (q : Rat) {B T : Int} (hT : 0 < T) : Rat.divInt B T < q ↔ B * q.den < q.num * T := by
  have h := div_lt (a := B) (c := q.num) hT (den1 q)
  rwa [← rat_eq q] at h
theorem divI_eq_q (q : Rat) {B T : Int} (hT : 0 < T) : Rat.divInt B T = q ↔ B * q.den = q.num * T := by
  have h := Rat.divInt_eq_divInt_iff (n₁ := B) (n₂ := q.num) (show T ≠ 0 by omega) (den0 q)
  rwa [← rat_eq q] at h

--lib
/-! ### what Ratio's methods promise -/
/-- q op r -/
def spBin (C : Addr) (f : Rat → Rat → Rat) : Sp := fun vs H Q _ => ∃ (a : Addr) (v : V) (q r : Rat) (n m : Nat), vs = [.ref a, v] ∧ RN C H a q n ∧ RZ C H v r m ∧ n + m + 1 ≤ 13400 ∧ ∀ p H', Fr H p → Ex H H' → RN C H' p (f q r) (n + m + 1) → Q (.ref p) H'
/-- i op q, i an int on the left -/
def spRev (C : Addr) (f : Rat → Rat → Rat) : Sp := fun vs H Q _ => ∃ (a : Addr) (i : Int) (q : Rat) (n m : Nat), vs = [.ref a, .int i] ∧ RN C H a q n ∧ i.natAbs < 2 ^ m ∧ n + m + 1 ≤ 13400 ∧ ∀ p H', Fr H p → Ex H H' → RN C H' p (f (i : Rat) q) (n + m + 1) → Q (.ref p) H'
def spUn (C : Addr) (f : Rat → Rat) : Sp := fun vs H Q _ => ∃ (a : Addr) (q : Rat) (n : Nat), vs = [.ref a] ∧ RN C H a q n ∧ ∀ p H', Fr H p → Ex H H' → RN C H' p (f q) n → Q (.ref p) H'
/-- q < r and the like -/
def spCmp (C : Addr) (f : Rat → Rat → Bool) : Sp := fun vs H Q _ => ∃ (a : Addr) (v : V) (q r : Rat) (n m : Nat), vs = [.ref a, v] ∧ RN C H a q n ∧ RZ C H v r m ∧ m ≤ 50000 ∧ Q (.bl (f q r)) H
/-- q == r; an int is never equal -/
def spEq (C : Addr) : Sp := fun vs H Q _ => ∃ (a : Addr) (q : Rat) (n : Nat), RN C H a q n ∧ ((∃ (b : Addr) (r : Rat) (m : Nat), vs = [.ref a, .ref b] ∧ RN C H b r m ∧ Q (.bl (decide (q = r))) H) ∨ ∃ i : Int, vs = [.ref a, .int i] ∧ Q (.bl false) H)
def spBool (C : Addr) : Sp := fun vs H Q _ => ∃ (a : Addr) (q : Rat) (n : Nat), vs = [.ref a] ∧ RN C H a q n ∧ Q (.bl (!decide (q = 0))) H
/-- q.over(r) -/
def spOver (K : PySem.W.Frag) : Sp := fun vs H Q E => ∃ (a : Addr) (v : V) (q r : Rat) (n m : Nat), vs = [.ref a, v] ∧ RN (He.ga K "Ratio") H a q n ∧ RZ (He.ga K "Ratio") H v r m ∧ n + m + 1 ≤ 13400 ∧
  (r = 0 → ∀ H', Ex H H' → E (.ref (He.ga K "ZeroBottom")) none H') ∧ (r ≠ 0 → ∀ p H', Fr H p → Ex H H' → RN (He.ga K "Ratio") H' p (q / r) (n + m + 1) → Q (.ref p) H')
/-- q // r -/
def spFloor (K : PySem.W.Frag) : Sp := fun vs H Q E => ∃ (a : Addr) (v : V) (q r : Rat) (n m : Nat), vs = [.ref a, v] ∧ RN (He.ga K "Ratio") H a q n ∧ RZ (He.ga K "Ratio") H v r m ∧ n + m + 1 ≤ 13400 ∧
  (r = 0 → ∀ H', Ex H H' → E (.ref (He.ga K "ZeroBottom")) none H') ∧ (r ≠ 0 → ∀ H', Ex H H' → (q / r).floor.natAbs < 2 ^ (n + m + 1) → Q (.int (q / r).floor) H')
/-- q % r -/
def spMod (K : PySem.W.Frag) : Sp := fun vs H Q E => ∃ (a : Addr) (v : V) (q r : Rat) (n m : Nat), vs = [.ref a, v] ∧ RN (He.ga K "Ratio") H a q n ∧ RZ (He.ga K "Ratio") H v r m ∧ 3 * n + 3 * m + 9 ≤ 13400 ∧
  (r = 0 → ∀ H', Ex H H' → E (.ref (He.ga K "ZeroBottom")) none H') ∧ (r ≠ 0 → ∀ p H', Fr H p → Ex H H' → RN (He.ga K "Ratio") H' p (q - r * ((q / r).floor : Rat)) (n + m + 1) → Q (.ref p) H')
section
variable {C : Addr} {H : Hp} {Q : VK} {E : XK} {a b : Addr} {q r : Rat} {n m : Nat} {i : Int} {f : Rat → Rat → Rat} {f1 : Rat → Rat} {fc : Rat → Rat → Bool} {K : PySem.W.Frag}
theorem u_OO (ha : RN C H a q n) (hb : RN C H b r m) (hs : n + m + 1 ≤ 13400) (k : ∀ p H', Fr H p → Ex H H' → RN C H' p (f q r) (n + m + 1) → Q (.ref p) H') : rOO C (spBin C f) E (.ref a) (.ref b) H Q := by
  obtain ⟨dx, hx⟩ := ha.at_
  obtain ⟨dy, hy⟩ := hb.at_
  exact ⟨a, dx, _, b, dy, _, rfl, rfl, hx, hy, a, _, q, r, n, m, rfl, ha, .rat hb, hs, k⟩
theorem u_OI (ha : RN C H a q n) (hb : i.natAbs < 2 ^ m) (hs : n + m + 1 ≤ 13400) (k : ∀ p H', Fr H p → Ex H H' → RN C H' p (f q (i : Rat)) (n + m + 1) → Q (.ref p) H') : rOI C (spBin C f) E (.ref a) (.int i) H Q := by
  obtain ⟨dx, hx⟩ := ha.at_
  exact ⟨a, dx, _, i, rfl, rfl, hx, a, _, q, _, n, m, rfl, ha, .int hb, hs, k⟩
theorem u_IO (ha : RN C H a q n) (hb : i.natAbs < 2 ^ m) (hs : n + m + 1 ≤ 13400) (k : ∀ p H', Fr H p → Ex H H' → RN C H' p (f (i : Rat) q) (n + m + 1) → Q (.ref p) H') : rIO C (spRev C f) E (.int i) (.ref a) H Q := by
  obtain ⟨dx, hx⟩ := ha.at_
  exact ⟨a, dx, _, i, rfl, rfl, hx, a, i, q, n, m, rfl, ha, hb, hs, k⟩
theorem u_UO (ha : RN C H a q n) (k : ∀ p H', Fr H p → Ex H H' → RN C H' p (f1 q) n → Q (.ref p) H') : rUO C (spUn C f1) E (.ref a) H Q := by
  obtain ⟨dx, hx⟩ := ha.at_
  exact ⟨a, dx, _, rfl, hx, a, q, n, rfl, ha, k⟩
theorem u_C1 (ha : RN C H a q n) (k : ∀ p H', Fr H p → Ex H H' → RN C H' p (f1 q) n → Q (.ref p) H') : rC1 C (spUn C f1) E [.ref a] H Q := by
  obtain ⟨dx, hx⟩ := ha.at_
  exact ⟨a, dx, _, rfl, hx, a, q, n, rfl, ha, k⟩
theorem u_cOO (ha : RN C H a q n) (hb : RN C H b r m) (k : Q (.bl (fc q r)) H) : rOO C (spCmp C fc) E (.ref a) (.ref b) H Q := by
  obtain ⟨dx, hx⟩ := ha.at_
  obtain ⟨dy, hy⟩ := hb.at_
  have := hb.le
  exact ⟨a, dx, _, b, dy, _, rfl, rfl, hx, hy, a, _, q, r, n, m, rfl, ha, .rat hb, by omega, k⟩
theorem u_cOI (ha : RN C H a q n) (hb : i.natAbs < 2 ^ m) (hm : m ≤ 50000) (k : Q (.bl (fc q (i : Rat))) H) : rOI C (spCmp C fc) E (.ref a) (.int i) H Q := by
  obtain ⟨dx, hx⟩ := ha.at_
  exact ⟨a, dx, _, i, rfl, rfl, hx, a, _, q, _, n, m, rfl, ha, .int hb, hm, k⟩
theorem u_cIO (ha : RN C H a q n) (hb : i.natAbs < 2 ^ m) (hm : m ≤ 50000) (k : Q (.bl (fc q (i : Rat))) H) : rIO C (spCmp C fc) E (.int i) (.ref a) H Q := by
  obtain ⟨dx, hx⟩ := ha.at_
  exact ⟨a, dx, _, i, rfl, rfl, hx, a, _, q, _, n, m, rfl, ha, .int hb, hm, k⟩
theorem u_eOO (ha : RN C H a q n) (hb : RN C H b r m) (k : Q (.bl (decide (q = r))) H) : rOO C (spEq C) E (.ref a) (.ref b) H Q := by
  obtain ⟨dx, hx⟩ := ha.at_
  obtain ⟨dy, hy⟩ := hb.at_
  exact ⟨a, dx, _, b, dy, _, rfl, rfl, hx, hy, a, q, n, ha, .inl ⟨b, r, m, rfl, hb, k⟩⟩
theorem u_eOI (ha : RN C H a q n) (k : Q (.bl false) H) : rOI C (spEq C) E (.ref a) (.int i) H Q := by
  obtain ⟨dx, hx⟩ := ha.at_
  exact ⟨a, dx, _, i, rfl, rfl, hx, a, q, n, ha, .inr ⟨i, rfl, k⟩⟩
theorem u_eIO (ha : RN C H a q n) (k : Q (.bl false) H) : rIO C (spEq C) E (.int i) (.ref a) H Q := by
  obtain ⟨dx, hx⟩ := ha.at_
  exact ⟨a, dx, _, i, rfl, rfl, hx, a, q, n, ha, .inr ⟨i, rfl, k⟩⟩
theorem u_bO (ha : RN C H a q n) (k : Q (.bl (!decide (q = 0))) H) : rBoolO C (spBool C) E [.ref a] H Q := by
  obtain ⟨dx, hx⟩ := ha.at_
  exact ⟨a, dx, _, rfl, hx, a, q, n, rfl, ha, _, rfl, k⟩
theorem u_me {m : Str} {sp : Sp} {t : TA} {σ : L2.St} {k : Nat} (ha : RN C H a q k) (h1 : (m == ("top" : Str)) = false) (h2 : (m == ("bottom" : Str)) = false) (k : t σ H fun vs H2 => sp (.ref a :: vs) H2 Q E) : dMe C m sp [] E t σ Q (.ref a) H := by
  obtain ⟨dx, hx⟩ := ha.at_
  exact w_dMe0 hx (rF_no _ _ h1 h2) k
theorem u_top (ha : RN C H a q n) (cl : Cls K C) (na : NoAttr K C "top") (k : Q (.int q.num) H) : dF K "top" Q (.ref a) H := by
  obtain ⟨dx, hx⟩ := ha.at_
  exact w_dF hx cl na (rF_top _ _) k
theorem u_bot (ha : RN C H a q n) (cl : Cls K C) (na : NoAttr K C "bottom") (k : Q (.int q.den) H) : dF K "bottom" Q (.ref a) H := by
  obtain ⟨dx, hx⟩ := ha.at_
  exact w_dF hx cl na (rF_bottom _ _) k
theorem u_isR (ha : RN C H a q n) (O : OwnC K C) (k : Q (.bl true) H) : rIsi K [.ref a, .ref C] H Q := by
  obtain ⟨dx, hx⟩ := ha.at_
  exact w_isiOC O hx k
end
/-- a.over(v) -/
theorem u_over {K : PySem.W.Frag} {H : Hp} {Q : VK} {E : XK} {a : Addr} {v : V} {q r : Rat} {n m : Nat} (ha : RN (He.ga K "Ratio") H a q n) (hv : RZ (He.ga K "Ratio") H v r m) (hs : n + m + 1 ≤ 13400) (h0 : r ≠ 0) (k : ∀ p H', Fr H p → Ex H H' → RN (He.ga K "Ratio") H' p (q / r) (n + m + 1) → Q (.ref p) H') :
    spOver K [.ref a, v] H Q E := ⟨a, v, q, r, n, m, rfl, ha, hv, hs, fun z => absurd z h0, fun _ => k⟩

--lib
/-- a tuple of naturals -/
abbrev nats (os : List Nat) : List V := (os.map fun n : Nat => (n : Int)).map V.int
/-! ### lots and their numbers -/
/-- the bit t of n -/
def tb (n t : Nat) : Bool := n / 2 ^ t % 2 == 1
/-- the lot with the number n, of the things below m -/
def lotOf (n m : Nat) : List Nat := (List.range m).filter (tb n)
def sum2 (l : List Nat) : Nat := (l.map fun t => 2 ^ t).sum
theorem sum2_append (l r : List Nat) : sum2 (l ++ r) = sum2 l + sum2 r := by simp [sum2]
theorem lotOf_succ (n m : Nat) : lotOf n (m + 1) = lotOf n m ++ (if tb n m then [m] else []) := by
  unfold lotOf
  rw [List.range_succ, List.filter_append]
  by_cases h : tb n m <;> simp [h]
theorem sum2_lotOf (n m : Nat) : sum2 (lotOf n m) = n % 2 ^ m := by
  induction m with
  | zero => simp [lotOf, sum2, Nat.mod_one]
  | succ m ih =>
    rw [lotOf_succ, sum2_append, ih, Nat.mod_pow_succ]
    have h2 : n / 2 ^ m % 2 = 0 ∨ n / 2 ^ m % 2 = 1 := by omega
    unfold tb
    rcases h2 with h | h <;> simp [h, sum2]
theorem lotOf_more {n m : Nat} (h : n < 2 ^ m) : lotOf n (m + 1) = lotOf n m := by
  rw [lotOf_succ]
  have : tb n m = false := by
    unfold tb
    rw [Nat.div_eq_of_lt h]
    rfl
  simp [this]
theorem lotOf_lt {n m x : Nat} (h : x ∈ lotOf n m) : x < m := List.mem_range.mp (List.mem_filter.mp h).1
theorem lotOf_sorted (n m : Nat) : (lotOf n m).Pairwise (· < ·) := List.Pairwise.filter _ List.pairwise_lt_range
theorem lotOf_len (n m : Nat) : (lotOf n m).length ≤ m := by
  unfold lotOf
  exact Nat.le_trans (List.length_filter_le _ _) (by simp)
theorem sum2_take {l : List Nat} {i : Nat} (h : i < l.length) : sum2 (l.take (i + 1)) = sum2 (l.take i) + 2 ^ (l.getD i 0) := by
  rw [List.take_succ_eq_append_getElem h, sum2_append, Z.getD_get _ _ _ h]
  simp [sum2]

--lib
/-! ### lots, prices, rules (behind lots) -/
def IsLot (n : Int) (lot : List Int) : Prop := lot.Pairwise (· < ·) ∧ ∀ x ∈ lot, 0 ≤ x ∧ x < n
/-- above what stood before, below n -/
def okFrom (n : Int) : Int → List Int → Prop
  | _, [] => True
  | b, x :: r => b < x ∧ x < n ∧ okFrom n x r
theorem okFrom_iff (n : Int) : ∀ (lot : List Int) (b : Int), okFrom n b lot ↔ (lot.Pairwise (· < ·) ∧ ∀ x ∈ lot, b < x ∧ x < n)
  | [], b => ⟨fun _ => ⟨.nil, fun x hx => by simp at hx⟩, fun _ => trivial⟩
  | y :: r, b => by
    show (b < y ∧ y < n ∧ okFrom n y r) ↔ _
    rw [okFrom_iff n r y, List.pairwise_cons]
    constructor
    · rintro ⟨h1, h2, h3, h4⟩
      refine ⟨⟨fun x hx => (h4 x hx).1, h3⟩, fun x hx => ?_⟩
      rcases List.mem_cons.mp hx with rfl | hx
      · exact ⟨h1, h2⟩
      · have := h4 x hx; omega
    · rintro ⟨⟨h1, h2⟩, h3⟩
      exact ⟨(h3 y (by simp)).1, (h3 y (by simp)).2, h2, fun x hx => ⟨h1 x hx, (h3 x (by simp [hx])).2⟩⟩
theorem isLot_iff {n : Int} {lot : List Int} : IsLot n lot ↔ okFrom n (-1) lot := by
  rw [okFrom_iff]
  constructor
  · rintro ⟨h1, h2⟩; exact ⟨h1, fun x hx => by have := h2 x hx; omega⟩
  · rintro ⟨h1, h2⟩; exact ⟨h1, fun x hx => by have := h2 x hx; omega⟩
theorem lot_len : ∀ (lot : List Int) (b n : Int), okFrom n b lot → (lot.length : Int) ≤ max 0 (n - 1 - b)
  | [], b, n, _ => by simp; omega
  | x :: r, b, n, ⟨h1, h2, h3⟩ => by
    have := lot_len r x n h3
    rw [List.length_cons]
    omega
theorem IsLot.len {n : Int} {lot : List Int} (h : IsLot n lot) : lot.length ≤ n.toNat := by
  have := lot_len lot (-1) n (isLot_iff.mp h)
  omega
/-- prices that check_prices lets pass -/
def PricesOk (n : Int) (ps : List Int) : Prop := (ps.length : Int) = n ∧ ∀ x ∈ ps, 0 ≤ x
/-- the errors of check_prices -/
def PErr (K : PySem.W.Frag) (n : Int) (ps : List Int) (E : XK) (H : Hp) : Prop :=
  ((ps.length : Int) ≠ n → ∀ d H', Fr H d → Ex H H' → At H' d (.xd [("at", .non), ("what", .str "prices")]) → E (.ref (He.ga K "BadNumber")) (some d) H') ∧
  ((ps.length : Int) = n → ∀ i, i < ps.length → ps.getD i 0 < 0 → (∀ j, j < i → 0 ≤ ps.getD j 0) → ∀ d H', Fr H d → Ex H H' → At H' d (.xd [("at", .int (i : Nat)), ("what", .str "prices")]) → E (.ref (He.ga K "BadNumber")) (some d) H')
theorem PErr.up {K : PySem.W.Frag} {n : Int} {ps : List Int} {E : XK} {H H1 : Hp} (h : PErr K n ps E H) (e : Ex H H1) : PErr K n ps E H1 :=
  ⟨fun a d H' f g => h.1 a d H' (e.back f) (e.trans g), fun a i b c j d H' f g => h.2 a i b c j d H' (e.back f) (e.trans g)⟩
theorem PErr.ok {K : PySem.W.Frag} {n : Int} {ps : List Int} {E : XK} {H : Hp} (h : PricesOk n ps) : PErr K n ps E H :=
  ⟨fun z => absurd h.1 z, fun _ i hi hn => by rw [getD_get _ _ _ hi] at hn; have := h.2 _ (List.getElem_mem hi); omega⟩
theorem all_getD {ps : List Int} {c : Int} (h : ∀ j, j < ps.length → c ≤ ps.getD j 0) : ∀ x ∈ ps, c ≤ x := fun w hw => by
  obtain ⟨i, hi, rfl⟩ := List.mem_iff_getElem.mp hw
  have := h i hi
  rwa [getD_get _ _ _ hi] at this
/-- a list of Ratios -/
def RL (C : Addr) (H : Hp) (xs : List V) (qs : List Rat) (b : Nat) : Prop := xs.length = qs.length ∧ ∀ i, i < qs.length → ∃ a, xs[i]? = some (.ref a) ∧ RN C H a (qs.getD i 0) b
theorem RL.ex {C : Addr} {H H' : Hp} {xs : List V} {qs : List Rat} {b : Nat} (h : RL C H xs qs b) (e : Ex H H') : RL C H' xs qs b := ⟨h.1, fun i hi => by
  obtain ⟨a, h1, h2⟩ := h.2 i hi
  exact ⟨a, h1, h2.ex e⟩⟩
theorem RL.nl {C : Addr} {H H' : Hp} {xs : List V} {qs : List Rat} {b : Nat} (h : RL C H xs qs b) (e : Nl H H') : RL C H' xs qs b := ⟨h.1, fun i hi => by
  obtain ⟨a, h1, h2⟩ := h.2 i hi
  exact ⟨a, h1, h2.nl e⟩⟩
theorem rlE {C : Addr} {H H' : Hp} {xs : List V} {qs : List Rat} {b : Nat} (h : RL C H xs qs b) (e : Exs H H') : RL C H' xs qs b := h.ex e.ex
theorem rlN {C : Addr} {H H' : Hp} {xs : List V} {qs : List Rat} {b : Nat} (h : RL C H xs qs b) (e : Nls H H') : RL C H' xs qs b := h.nl e.nl
theorem RL.mono {C : Addr} {H : Hp} {xs : List V} {qs : List Rat} {b c : Nat} (h : RL C H xs qs b) (hb : b ≤ c) (h9 : c ≤ 13400) : RL C H xs qs c := ⟨h.1, fun i hi => by
  obtain ⟨a, h1, h2⟩ := h.2 i hi
  exact ⟨a, h1, h2.eq rfl hb h9⟩⟩
theorem RL.nil {C : Addr} {H : Hp} {b : Nat} : RL C H [] [] b := ⟨rfl, fun i hi => absurd hi (by simp)⟩
theorem RL.snoc {C : Addr} {H : Hp} {xs : List V} {qs : List Rat} {b : Nat} {a : Addr} {q : Rat} (h : RL C H xs qs b) (r : RN C H a q b) : RL C H (xs ++ [.ref a]) (qs ++ [q]) b := by
  refine ⟨by simp [h.1], fun i hi => ?_⟩
  by_cases e : i < qs.length
  · obtain ⟨c, h1, h2⟩ := h.2 i e
    refine ⟨c, by rw [List.getElem?_append_left (by rw [h.1]; exact e)]; exact h1, ?_⟩
    rw [List.getD_eq_getElem?_getD, List.getElem?_append_left e, ← List.getD_eq_getElem?_getD]
    exact h2
  · have ei : i = qs.length := by simp at hi; omega
    subst ei
    refine ⟨a, by rw [← h.1]; simp, ?_⟩
    rw [List.getD_eq_getElem?_getD]
    simpa using r
theorem RL.set {C : Addr} {H : Hp} {xs : List V} {qs : List Rat} {b i : Nat} {a : Addr} {q : Rat} (h : RL C H xs qs b) (r : RN C H a q b) : RL C H (xs.set i (.ref a)) (qs.set i q) b := by
  refine ⟨by simp [h.1], fun j hj => ?_⟩
  rw [List.length_set] at hj
  by_cases e : i = j
  · subst e
    refine ⟨a, by simp [h.1, hj], ?_⟩
    rw [List.getD_eq_getElem?_getD]
    simpa [hj] using r
  · obtain ⟨c, h1, h2⟩ := h.2 j hj
    refine ⟨c, by rw [List.getElem?_set_ne e]; exact h1, ?_⟩
    rw [List.getD_eq_getElem?_getD, List.getElem?_set_ne e, ← List.getD_eq_getElem?_getD]
    exact h2
theorem RL.at {C : Addr} {H : Hp} {xs : List V} {qs : List Rat} {b : Nat} {i : Int} (h : RL C H xs qs b) (h0 : 0 ≤ i) (h1 : i < qs.length) : ∃ a, atI xs i = some (.ref a) ∧ RN C H a (qs.getD i.toNat 0) b := by
  obtain ⟨a, h2, h3⟩ := h.2 i.toNat (by omega)
  refine ⟨a, ?_, h3⟩
  unfold atI
  rw [ixN_pos h0 (by rw [h.1]; exact h1)]
  exact h2
/-- rl[i] -/
theorem u_ixR {K : PySem.W.Frag} {C : Addr} {H : Hp} {Q : VK} {l : Addr} {xs : List V} {qs : List Rat} {b : Nat} {i : Int} (hl : SqL K H l xs) (h : RL C H xs qs b) (h0 : 0 ≤ i) (h1 : i < qs.length) (k : ∀ a, RN C H a (qs.getD i.toNat 0) b → Q (.ref a) H) : rIx K (.ref l) (.int i) H Q := by
  obtain ⟨a, h2, h3⟩ := h.at h0 h1
  exact w_ixL hl h2 (k a h3)
/-- what a lot brings -/
def worthQ (sh : List Rat) (lot ps : List Int) : Rat := (lot.map fun t => sh.getD t.toNat 0 * (ps.getD t.toNat 0 : Rat)).sum
theorem sum_snocQ (l : List Rat) (q : Rat) : (l ++ [q]).sum = l.sum + q := by
  induction l with
  | nil => simp [Rat.add_comm, Rat.add_zero]
  | cons a r ih => rw [List.cons_append, List.sum_cons, List.sum_cons, ih, Rat.add_assoc]
/-- the plain rule -/
def Rep_Rule (K : PySem.W.Frag) (H : Hp) (x : Addr) (n : Int) (sh : List Int → List Rat) (b : Nat) : Prop := (∃ dx, At H x (.ins (He.ga K "Rule") dx [("many", .int n)])) ∧ 0 ≤ n ∧ n ≤ 24 ∧ sh = (fun _ => List.replicate n.toNat 0) ∧ 1 ≤ b ∧ b ≤ 13400
theorem Rep_Rule.ex {K : PySem.W.Frag} {H H' : Hp} {x : Addr} {n : Int} {sh : List Int → List Rat} {b : Nat} (h : Rep_Rule K H x n sh b) (e : Ex H H') : Rep_Rule K H' x n sh b := by
  obtain ⟨⟨dx, h1⟩, h2⟩ := h
  exact ⟨⟨dx, e.get h1⟩, h2⟩
theorem Rep_Rule.nl {K : PySem.W.Frag} {H H' : Hp} {x : Addr} {n : Int} {sh : List Int → List Rat} {b : Nat} (h : Rep_Rule K H x n sh b) (e : Nl H H') : Rep_Rule K H' x n sh b := by
  obtain ⟨⟨dx, h1⟩, h2⟩ := h
  exact ⟨⟨dx, e.get (fun l z => by cases z) h1⟩, h2⟩
/-- what all rules have: the number of things and methods -/
def RB (C : Addr) (H : Hp) (x : Addr) (n : Int) : Prop := ∃ dx fs, At H x (.ins C dx fs) ∧ fs.lookup ("many" : Str) = some (.int n) ∧ (∀ m ∈ (["shares", "away", "worth", "best", "best_dearest", "MOST", "SMALL", "total_of", "reduced", "bound", "thing_values"] : List Str), fs.lookup m = none) ∧ 0 ≤ n ∧ n ≤ 24
theorem RB.ex {C : Addr} {H H' : Hp} {x : Addr} {n : Int} (h : RB C H x n) (e : Ex H H') : RB C H' x n := by
  obtain ⟨dx, fs, h1, h2⟩ := h
  exact ⟨dx, fs, e.get h1, h2⟩
theorem RB.nl {C : Addr} {H H' : Hp} {x : Addr} {n : Int} (h : RB C H x n) (e : Nl H H') : RB C H' x n := by
  obtain ⟨dx, fs, h1, h2⟩ := h
  exact ⟨dx, fs, e.get (fun l z => by cases z) h1, h2⟩
theorem rbE {C : Addr} {H H' : Hp} {x : Addr} {n : Int} (h : RB C H x n) (e : Exs H H') : RB C H' x n := h.ex e.ex
theorem rbN {C : Addr} {H H' : Hp} {x : Addr} {n : Int} (h : RB C H x n) (e : Nls H H') : RB C H' x n := h.nl e.nl
theorem Rep_Rule.rb {K : PySem.W.Frag} {H : Hp} {x : Addr} {n : Int} {sh : List Int → List Rat} {b : Nat} (h : Rep_Rule K H x n sh b) : RB (He.ga K "Rule") H x n := by
  obtain ⟨⟨dx, h1⟩, h2, h3, _⟩ := h
  refine ⟨dx, _, h1, rfl, fun m hm => ?_, h2, h3⟩
  have : (m == ("many" : Str)) = false := by revert m; decide +kernel
  simp only [List.lookup, this]
theorem Rep_Rule.len {K : PySem.W.Frag} {H : Hp} {x : Addr} {n : Int} {sh : List Int → List Rat} {b : Nat} (h : Rep_Rule K H x n sh b) (lot : List Int) : (sh lot).length = n.toNat := by
  obtain ⟨_, _, _, rfl, _⟩ := h
  simp
section
variable {K : PySem.W.Frag} {C : Addr} {H : Hp} {Q : VK} {E : XK} {x : Addr} {n : Int}
theorem u_rmany (h : RB C H x n) (cl : Cls K C) (na : NoAttr K C "many") (k : Q (.int n) H) : dF K "many" Q (.ref x) H := by
  obtain ⟨dx, fs, h1, h2, _⟩ := h
  exact w_dF h1 cl na h2 k
theorem u_rme {m : Str} {sp : Sp} {t : TA} {σ : L2.St} (h : RB C H x n) (hm : m ∈ (["shares", "away", "worth", "best", "best_dearest", "MOST", "SMALL", "total_of", "reduced", "bound", "thing_values"] : List Str)) (k : t σ H fun vs H2 => sp (.ref x :: vs) H2 Q E) : dMe C m sp [] E t σ Q (.ref x) H := by
  obtain ⟨dx, fs, h1, h2, h3, _⟩ := h
  exact w_dMe0 h1 (h3 m hm) k
theorem u_rcon {f : Str} {v : V} (h : RB C H x n) (cl : Cls K C) (hk : ∃ u, Con K C f v u) (hm : f ∈ (["shares", "away", "worth", "best", "best_dearest", "MOST", "SMALL", "total_of", "reduced", "bound", "thing_values"] : List Str)) (k : Q v H) : dCon K f Q (.ref x) H := by
  obtain ⟨dx, fs, h1, h2, h3, _⟩ := h
  exact w_dCon h1 cl hk (h3 f hm) k
theorem u_risC2 {D : Addr} {b : Bool} (h : RB C H x n) (O : OwnC K C) (hk : PySem.W.kitOne K (.ref C) (.ref D) = some b) (k : Q (.bl b) H) : rIsi K [.ref x, .ref D] H Q := by
  obtain ⟨dx, fs, h1, _⟩ := h
  exact w_isiOA O h1 hk k
theorem u_risO2 (h : RB C H x n) (O : OwnC K C) (k : Q (.bl true) H) : rIsi K [.ref x, .ref C] H Q := by
  obtain ⟨dx, fs, h1, _⟩ := h
  exact w_isiOC O h1 k
end
theorem sum_take {qs : List Rat} {i : Nat} (h : i < qs.length) : (qs.take (i + 1)).sum = (qs.take i).sum + qs.getD i 0 := by
  rw [List.take_succ_eq_append_getElem h, sum_snocQ, getD_get _ _ _ h]
theorem take_snoc {α : Type} {l : List α} {i : Nat} (h : i < l.length) (d : α) : l.take (i + 1) = l.take i ++ [l.getD i d] := by
  rw [List.take_succ_eq_append_getElem h, getD_get _ _ _ h]
theorem adj_pw : ∀ (l : List Int), (∀ j, j + 1 < l.length → l.getD j 0 < l.getD (j + 1) 0) → l.Pairwise (· < ·)
  | [], _ => .nil
  | [a], _ => by simp
  | a :: b :: r, h => by
    have ih := adj_pw (b :: r) fun j hj => by
      have := h (j + 1) (by simpa using hj)
      simpa using this
    have hab : a < b := by have := h 0 (by simp); simpa using this
    refine List.pairwise_cons.mpr ⟨fun x hx => ?_, ih⟩
    rcases List.mem_cons.mp hx with rfl | hx
    · exact hab
    · have := (List.pairwise_cons.mp ih).1 x hx
      omega
theorem pw_adj {l : List Int} (h : l.Pairwise (· < ·)) (j : Nat) (hj : j + 1 < l.length) : l.getD j 0 < l.getD (j + 1) 0 := by
  rw [getD_get _ _ _ hj, getD_get _ _ _ (show j < l.length by omega)]
  exact List.pairwise_iff_getElem.mp h j (j + 1) (by omega) hj (by omega)
theorem lotOf_isLot (c m : Nat) : IsLot (m : Int) ((lotOf c m).map fun n : Nat => (n : Int)) := by
  constructor
  · rw [List.pairwise_map]
    exact (lotOf_sorted c m).imp fun h => by omega
  · intro x hx
    obtain ⟨t, ht, rfl⟩ := List.mem_map.mp hx
    have := lotOf_lt ht
    omega
/-- a plain rule of n things -/
abbrev RuleAt (K : PySem.W.Frag) (H : Hp) (x : Addr) (n : Int) : Prop := Rep_Rule K H x n (fun _ => List.replicate n.toNat 0) 1
theorem sum_rep0 (n : Nat) : (List.replicate n (0 : Rat)).sum = 0 := by
  induction n with
  | zero => rfl
  | succ n ih => rw [List.replicate_succ, List.sum_cons, ih]; exact Rat.add_zero 0
theorem getD_rep0 (n i : Nat) : (List.replicate n (0 : Rat)).getD i 0 = 0 := by
  rw [List.getD_eq_getElem?_getD, List.getElem?_replicate]
  split <;> rfl
theorem worth0 (n : Nat) (lot ps : List Int) : worthQ (List.replicate n 0) lot ps = 0 := by
  unfold worthQ
  induction lot with
  | nil => rfl
  | cons t r ih => rw [List.map_cons, List.sum_cons, ih, getD_rep0]; grind
/-- all things -/
theorem allLot {n : Int} (hn : 0 ≤ n) : IsLot n ((List.range n.toNat).map fun k : Nat => (k : Int)) := by
  constructor
  · rw [List.pairwise_map]
    exact List.pairwise_lt_range.imp fun h => by omega
  · intro x hx
    obtain ⟨k, hk, rfl⟩ := List.mem_map.mp hx
    have := List.mem_range.mp hk
    omega
/-- a list of pairs of ints -/
def PL (H : Hp) (xs : List V) (ps : List (Int × Int)) : Prop := xs.length = ps.length ∧ ∀ i, i < ps.length → ∃ a, xs[i]? = some (.ref a) ∧ At H a (.tup [.int (ps.getD i (0, 0)).1, .int (ps.getD i (0, 0)).2])
theorem PL.ex {H H' : Hp} {xs : List V} {ps : List (Int × Int)} (h : PL H xs ps) (e : Ex H H') : PL H' xs ps := ⟨h.1, fun i hi => by
  obtain ⟨a, h1, h2⟩ := h.2 i hi
  exact ⟨a, h1, e.get h2⟩⟩
theorem PL.nl {H H' : Hp} {xs : List V} {ps : List (Int × Int)} (h : PL H xs ps) (e : Nl H H') : PL H' xs ps := ⟨h.1, fun i hi => by
  obtain ⟨a, h1, h2⟩ := h.2 i hi
  exact ⟨a, h1, e.get (fun l z => by cases z) h2⟩⟩
theorem plE {H H' : Hp} {xs : List V} {ps : List (Int × Int)} (h : PL H xs ps) (e : Exs H H') : PL H' xs ps := h.ex e.ex
theorem plN {H H' : Hp} {xs : List V} {ps : List (Int × Int)} (h : PL H xs ps) (e : Nls H H') : PL H' xs ps := h.nl e.nl
theorem PL.nil {H : Hp} : PL H [] [] := ⟨rfl, fun i hi => absurd hi (by simp)⟩
theorem PL.snoc {H : Hp} {xs : List V} {ps : List (Int × Int)} {a : Addr} {p : Int × Int} (h : PL H xs ps) (r : At H a (.tup [.int p.1, .int p.2])) : PL H (xs ++ [.ref a]) (ps ++ [p]) := by
  refine ⟨by simp [h.1], fun i hi => ?_⟩
  by_cases e : i < ps.length
  · obtain ⟨c, h1, h2⟩ := h.2 i e
    refine ⟨c, by rw [List.getElem?_append_left (by rw [h.1]; exact e)]; exact h1, ?_⟩
    rw [List.getD_eq_getElem?_getD, List.getElem?_append_left e, ← List.getD_eq_getElem?_getD]
    exact h2
  · have ei : i = ps.length := by simp at hi; omega
    subst ei
    refine ⟨a, by rw [← h.1]; simp, ?_⟩
    rw [List.getD_eq_getElem?_getD]
    simpa using r
theorem u_ixP {K : PySem.W.Frag} {H : Hp} {Q : VK} {l : Addr} {xs : List V} {ps : List (Int × Int)} {i : Int} (hl : SqL K H l xs) (h : PL H xs ps) (h0 : 0 ≤ i) (h1 : i < ps.length) (k : ∀ a, At H a (.tup [.int (ps.getD i.toNat (0, 0)).1, .int (ps.getD i.toNat (0, 0)).2]) → Q (.ref a) H) : rIx K (.ref l) (.int i) H Q := by
  obtain ⟨a, h2, h3⟩ := h.2 i.toNat (by omega)
  refine w_ixL hl ?_ (k a h3)
  unfold atI
  rw [ixN_pos h0 (by rw [h.1]; exact h1)]
  exact h2
/-- what comes of worth, and the place of the first wrong price -/
inductive PRes (n : Int) (ps : List Int) : V → Int → Prop
  | len (h : (ps.length : Int) ≠ n) : PRes n ps .non (-1)
  | neg (h : (ps.length : Int) = n) (i : Nat) (hi : i < ps.length) (hw : ps.getD i 0 < 0) (hb : ∀ j, j < i → 0 ≤ ps.getD j 0) : PRes n ps (.int (i : Nat)) (i : Nat)
theorem PRes.det {n : Int} {ps : List Int} {v w : V} {i j : Int} (h : PRes n ps v i) (g : PRes n ps w j) : v = w ∧ i = j := by
  cases h with
  | len h => cases g <;> first | exact ⟨rfl, rfl⟩ | contradiction
  | neg h i hi hw hb =>
    cases g with
    | len h => contradiction
    | neg h2 i2 hi2 hw2 hb2 =>
      have : i = i2 := by
        rcases Nat.lt_trichotomy i i2 with q | q | q
        · have := hb2 i q; omega
        · exact q
        · have := hb i2 q; omega
      subst this
      exact ⟨rfl, rfl⟩
theorem PRes.no {n : Int} {ps : List Int} {v : V} {i : Int} (h : PRes n ps v i) (g : PricesOk n ps) : False := by
  cases h with
  | len h => exact h g.1
  | neg h i hi hw hb =>
    have := g.2 _ (List.getElem_mem hi)
    rw [getD_get _ _ _ hi] at hw
    omega
theorem PRes.lt {n : Int} {ps : List Int} {v : V} {i : Int} (h : PRes n ps v i) (hn : 0 ≤ n) : i < n := by
  cases h with
  | len h => omega
  | neg h i hi hw hb => omega

--lib
/-! ### Weighted rules -/
/-- fields of a Weighted -/
abbrev wF (n : Int) (t : Addr) (a : Int) : List (Str × V) := [("many", .int n), ("weights", .ref t), ("aside", .int a)]
/-- a Weighted with these numbers stands at x -/
structure WR (K : PySem.W.Frag) (H : Hp) (x : Addr) (ws : List Int) (a : Int) : Prop where
  at_ : ∃ dx t, At H x (.ins (He.ga K "Weighted") dx (wF ws.length t a)) ∧ At H t (.tup (ws.map V.int))
  len : ws.length ≤ 24
  pos : ∀ w ∈ ws, 1 ≤ w
  apos : 1 ≤ a
theorem WR.ex {K : PySem.W.Frag} {H H' : Hp} {x : Addr} {ws : List Int} {a : Int} (h : WR K H x ws a) (e : Ex H H') : WR K H' x ws a := by
  obtain ⟨⟨dx, t, h1, h2⟩, h3, h4, h5⟩ := h
  exact ⟨⟨dx, t, e.get h1, e.get h2⟩, h3, h4, h5⟩
theorem WR.nl {K : PySem.W.Frag} {H H' : Hp} {x : Addr} {ws : List Int} {a : Int} (h : WR K H x ws a) (e : Nl H H') : WR K H' x ws a := by
  obtain ⟨⟨dx, t, h1, h2⟩, h3, h4, h5⟩ := h
  exact ⟨⟨dx, t, e.get (fun l z => by cases z) h1, e.get (fun l z => by cases z) h2⟩, h3, h4, h5⟩
theorem wrE {K : PySem.W.Frag} {H H' : Hp} {x : Addr} {ws : List Int} {a : Int} (h : WR K H x ws a) (e : Exs H H') : WR K H' x ws a := h.ex e.ex
theorem wrN {K : PySem.W.Frag} {H H' : Hp} {x : Addr} {ws : List Int} {a : Int} (h : WR K H x ws a) (e : Nls H H') : WR K H' x ws a := h.nl e.nl
theorem WR.posD {K : PySem.W.Frag} {H : Hp} {x : Addr} {ws : List Int} {a : Int} (h : WR K H x ws a) (i : Nat) (hi : i < ws.length) : 1 ≤ ws.getD i 0 := by
  rw [getD_get _ _ _ hi]; exact h.pos _ (List.getElem_mem hi)
section
variable {K : PySem.W.Frag} {H : Hp} {Q : VK} {E : XK} {x : Addr} {ws : List Int} {a : Int}
theorem u_wts (h : WR K H x ws a) (cl : Cls K (He.ga K "Weighted")) (na : NoAttr K (He.ga K "Weighted") "weights") (k : ∀ t, SqT K H t (ws.map V.int) → At H t (.tup (ws.map V.int)) → Q (.ref t) H) : dF K "weights" Q (.ref x) H := by
  obtain ⟨⟨dx, t, h1, h2⟩, h3, h4, h5⟩ := h
  exact w_dF h1 cl na rfl (k t (st_of h2) h2)
theorem u_asd (h : WR K H x ws a) (cl : Cls K (He.ga K "Weighted")) (na : NoAttr K (He.ga K "Weighted") "aside") (k : Q (.int a) H) : dF K "aside" Q (.ref x) H := by
  obtain ⟨⟨dx, t, h1, h2⟩, h3, h4, h5⟩ := h
  exact w_dF h1 cl na rfl k
theorem u_many (h : WR K H x ws a) (cl : Cls K (He.ga K "Weighted")) (na : NoAttr K (He.ga K "Weighted") "many") (k : Q (.int ws.length) H) : dF K "many" Q (.ref x) H := by
  obtain ⟨⟨dx, t, h1, h2⟩, h3, h4, h5⟩ := h
  exact w_dF h1 cl na rfl k
theorem u_meW {m : Str} {sp : Sp} {t : TA} {σ : L2.St} (h : WR K H x ws a) (h1 : (m == ("many" : Str)) = false) (h2 : (m == ("weights" : Str)) = false) (h3 : (m == ("aside" : Str)) = false) (k : t σ H fun vs H2 => sp (.ref x :: vs) H2 Q E) : dMe (He.ga K "Weighted") m sp [] E t σ Q (.ref x) H := by
  obtain ⟨⟨dx, t', h4, h5⟩, h6, h7, h8⟩ := h
  exact w_dMe0 h4 (by simp only [wF, List.lookup, h1, h2, h3]) k
theorem u_isW (h : WR K H x ws a) (O : OwnC K (He.ga K "Weighted")) (k : Q (.bl true) H) : rIsi K [.ref x, .ref (He.ga K "Weighted")] H Q := by
  obtain ⟨⟨dx, t', h4, h5⟩, h6, h7, h8⟩ := h
  exact w_isiOC O h4 k
end
/-! the greatest divisor of all -/
def gL (a : Nat) (ws : List Int) : Nat := ws.foldl (fun g w => Nat.gcd g w.natAbs) a
theorem gL_snoc (a : Nat) (ws : List Int) (w : Int) : gL a (ws ++ [w]) = Nat.gcd (gL a ws) w.natAbs := by unfold gL; rw [List.foldl_append]; rfl
theorem gL_dvd : ∀ (ws : List Int) (a : Nat), gL a ws ∣ a ∧ ∀ w ∈ ws, gL a ws ∣ w.natAbs
  | [], a => ⟨Nat.dvd_refl _, fun w h => by simp at h⟩
  | w :: r, a => by
    obtain ⟨h1, h2⟩ := gL_dvd r (Nat.gcd a w.natAbs)
    refine ⟨Nat.dvd_trans h1 (Nat.gcd_dvd_left _ _), fun x hx => ?_⟩
    rcases List.mem_cons.mp hx with rfl | hx
    · exact Nat.dvd_trans h1 (Nat.gcd_dvd_right _ _)
    · exact h2 x hx
theorem gL_div : ∀ (ws : List Int) (a d : Nat), 0 < d → d ∣ a → (∀ w ∈ ws, 0 ≤ w ∧ d ∣ w.natAbs) → gL (a / d) (ws.map fun w => w / (d : Int)) = gL a ws / d
  | [], a, d, _, _, _ => rfl
  | w :: r, a, d, hd, ha, hw => by
    obtain ⟨h0, h1⟩ := hw w (by simp)
    have e : (w / (d : Int)).natAbs = w.natAbs / d := by
      obtain ⟨n, rfl⟩ := Int.eq_ofNat_of_zero_le h0
      rfl
    show gL (Nat.gcd (a / d) (w / (d : Int)).natAbs) (r.map fun w => w / (d : Int)) = gL (Nat.gcd a w.natAbs) r / d
    rw [e, Nat.gcd_div ha h1]
    exact gL_div r _ d hd (Nat.dvd_gcd ha h1) fun x hx => hw x (List.mem_cons_of_mem _ hx)
theorem gL_one (a : Nat) (ws : List Int) (ha : 0 < a) (hw : ∀ w ∈ ws, 0 ≤ w) : gL (a / gL a ws) (ws.map fun w => w / (gL a ws : Int)) = 1 := by
  obtain ⟨h1, h2⟩ := gL_dvd ws a
  have h3 : 0 < gL a ws := Nat.pos_of_dvd_of_pos h1 ha
  rw [gL_div ws a (gL a ws) h3 h1 fun w hx => ⟨hw w hx, h2 w hx⟩]
  exact Nat.div_self h3

--lib
/-! ### shares by weights -/
def wsum (ws lot : List Int) : Int := (lot.map fun t => ws.getD t.toNat 0).sum
/-- shares when the things of the lot up to place i have got theirs -/
def shWi (ws : List Int) (tot : Int) (part : List Int) : List Rat := (List.range ws.length).map fun t : Nat => if (t : Int) ∈ part then Rat.divInt (ws.getD t 0) tot else 0
def shW (ws : List Int) (a : Int) (lot : List Int) : List Rat := shWi ws (a + wsum ws lot) lot
theorem shWi_len (ws : List Int) (tot : Int) (part : List Int) : (shWi ws tot part).length = ws.length := by unfold shWi; simp
theorem shWi_get (ws : List Int) (tot : Int) (part : List Int) {t : Nat} (h : t < ws.length) : (shWi ws tot part).getD t 0 = if (t : Int) ∈ part then Rat.divInt (ws.getD t 0) tot else 0 := by
  rw [getD_get _ _ _ (by rw [shWi_len]; exact h)]
  unfold shWi
  simp
theorem shWi_nil (ws : List Int) (tot : Int) : shWi ws tot [] = List.replicate ws.length 0 := by
  unfold shWi
  apply List.ext_getElem
  · simp
  · intro i h1 h2; simp
theorem shWi_snoc (ws : List Int) (tot : Int) (part : List Int) {t : Int} (h0 : 0 ≤ t) (h1 : t < ws.length) : (shWi ws tot part).set t.toNat (Rat.divInt (ws.getD t.toNat 0) tot) = shWi ws tot (part ++ [t]) := by
  obtain ⟨t, rfl⟩ := Int.eq_ofNat_of_zero_le h0
  unfold shWi
  apply List.ext_getElem
  · simp
  · intro i h2 h3
    simp only [List.length_set, List.length_map, List.length_range] at h2
    rw [List.getElem_set]
    simp only [List.getElem_map, List.getElem_range, Int.toNat_natCast, List.mem_append, List.mem_singleton]
    by_cases e : t = i
    · subst e; simp
    · have e' : ¬ (i : Int) = (t : Int) := by omega
      simp [e, e']
theorem wsum_snoc (ws lot : List Int) (t : Int) : wsum ws (lot ++ [t]) = wsum ws lot + ws.getD t.toNat 0 := by unfold wsum; simp
theorem wsum_nonneg {ws : List Int} (h : ∀ w ∈ ws, 1 ≤ w) (lot : List Int) : 0 ≤ wsum ws lot := by
  unfold wsum
  induction lot with
  | nil => simp
  | cons t r ih =>
    rw [List.map_cons, List.sum_cons]
    have : 0 ≤ ws.getD t.toNat 0 := by
      rw [List.getD_eq_getElem?_getD]
      cases e : ws[t.toNat]? with
      | none => simp
      | some w =>
        have := h w (List.mem_of_getElem? e)
        simp; omega
    omega
theorem wsum_le {ws : List Int} {B : Int} (hB : 0 ≤ B) (h : ∀ w ∈ ws, w ≤ B) : ∀ (lot : List Int), wsum ws lot ≤ (lot.length : Int) * B
  | [] => by simp [wsum]
  | t :: r => by
    have ih := wsum_le hB h r
    unfold wsum at *
    rw [List.map_cons, List.sum_cons, List.length_cons]
    have : ws.getD t.toNat 0 ≤ B := by
      rw [List.getD_eq_getElem?_getD]
      cases e : ws[t.toNat]? with
      | none => simpa using hB
      | some w => exact h w (List.mem_of_getElem? e)
    rw [Int.natCast_add, Int.add_mul]
    omega
/-- the things of a lot among all things -/
theorem lot_filter {n : Int} {lot : List Int} (h : IsLot n lot) : (((List.range n.toNat).filter fun t : Nat => decide ((t : Int) ∈ lot)).map fun t : Nat => (t : Int)) = lot := by
  refine List.Perm.eq_of_pairwise (le := (· ≤ ·)) (fun a b _ _ h g => by omega) ?_ (h.1.imp fun h => by omega) ?_
  · rw [List.pairwise_map]
    exact (List.pairwise_lt_range.filter _).imp fun h => by omega
  · refine (List.perm_ext_iff_of_nodup ?_ (h.1.imp fun h => by omega)).mpr fun a => ?_
    · unfold List.Nodup
      rw [List.pairwise_map]
      exact (List.pairwise_lt_range.filter _).imp fun h => by omega
    · rw [List.mem_map]
      constructor
      · rintro ⟨t, ht, rfl⟩
        have := (List.mem_filter.mp ht).2
        simpa using this
      · intro ha
        have := h.2 a ha
        refine ⟨a.toNat, ?_, by omega⟩
        rw [List.mem_filter, List.mem_range]
        refine ⟨by omega, ?_⟩
        rw [Int.toNat_of_nonneg this.1]
        simpa using ha
theorem sum_if {α : Type} (l : List α) (p : α → Bool) (f : α → Rat) : (l.map fun t => if p t = true then f t else 0).sum = ((l.filter p).map f).sum := by
  induction l with
  | nil => rfl
  | cons a r ih =>
    rw [List.map_cons, List.sum_cons, ih, List.filter_cons]
    by_cases h : p a
    · simp [h]
    · simp [h]; exact Rat.zero_add _
theorem sum_divInt {α : Type} (l : List α) (f : α → Int) {d : Int} (hd : d ≠ 0) : (l.map fun t => Rat.divInt (f t) d).sum = Rat.divInt (l.map f).sum d := by
  induction l with
  | nil => simp
  | cons a r ih =>
    rw [List.map_cons, List.sum_cons, ih, List.map_cons, List.sum_cons, Rat.divInt_add_divInt _ _ hd hd]
    have : f a * d + (r.map f).sum * d = (f a + (r.map f).sum) * d := by rw [Int.add_mul]
    rw [this]
    exact Rat.divInt_mul_right hd
theorem shW_sum {ws : List Int} {a : Int} {lot : List Int} (h : IsLot ws.length lot) (ht : a + wsum ws lot ≠ 0) : (shW ws a lot).sum = Rat.divInt (wsum ws lot) (a + wsum ws lot) := by
  unfold shW shWi
  have e : (List.range ws.length).map (fun t : Nat => if (t : Int) ∈ lot then Rat.divInt (ws.getD t 0) (a + wsum ws lot) else 0) = (List.range ws.length).map (fun t : Nat => if decide ((t : Int) ∈ lot) = true then Rat.divInt (ws.getD t 0) (a + wsum ws lot) else 0) := by
    simp only [decide_eq_true_eq]
  rw [e, sum_if (List.range ws.length) (fun t : Nat => decide ((t : Int) ∈ lot)) fun t : Nat => Rat.divInt (ws.getD t 0) (a + wsum ws lot)]
  have f := lot_filter h
  rw [Int.toNat_natCast] at f
  have g : (((List.range ws.length).filter fun t : Nat => decide ((t : Int) ∈ lot)).map fun t : Nat => Rat.divInt (ws.getD t 0) (a + wsum ws lot)) = lot.map fun t => Rat.divInt (ws.getD t.toNat 0) (a + wsum ws lot) := by
    generalize a + wsum ws lot = tot
    have q : ∀ l : List Int, l = lot → (((List.range ws.length).filter fun t : Nat => decide ((t : Int) ∈ lot)).map fun t : Nat => (t : Int)) = l → (((List.range ws.length).filter fun t : Nat => decide ((t : Int) ∈ lot)).map fun t : Nat => Rat.divInt (ws.getD t 0) tot) = l.map fun t => Rat.divInt (ws.getD t.toNat 0) tot := fun l _ hl => by
      rw [← hl, List.map_map]
      rfl
    exact q lot rfl f
  rw [g, sum_divInt lot (fun t => ws.getD t.toNat 0) ht]
  rfl
theorem awayW {ws : List Int} {a : Int} {lot : List Int} (h : IsLot ws.length lot) (ht : a + wsum ws lot ≠ 0) : 1 - (shW ws a lot).sum = Rat.divInt a (a + wsum ws lot) := by
  rw [shW_sum h ht]
  have e : (1 : Rat) = Rat.divInt (a + wsum ws lot) (a + wsum ws lot) := (Rat.divInt_self' ht).symm
  rw [e, Rat.divInt_sub_divInt _ _ ht ht, ← Int.sub_mul, Rat.divInt_mul_right ht]
  congr 1
  omega
/-- weight times price -/
def wpsum (ws ps lot : List Int) : Int := (lot.map fun t => ws.getD t.toNat 0 * ps.getD t.toNat 0).sum
theorem worthW {ws ps : List Int} {a : Int} {lot : List Int} (h : IsLot ws.length lot) (ht : a + wsum ws lot ≠ 0) : worthQ (shW ws a lot) lot ps = Rat.divInt (wpsum ws ps lot) (a + wsum ws lot) := by
  unfold worthQ wpsum
  rw [← sum_divInt lot _ ht]
  congr 1
  apply List.map_congr_left
  intro t hm
  have := h.2 t hm
  have e : (shW ws a lot).getD t.toNat 0 = Rat.divInt (ws.getD t.toNat 0) (a + wsum ws lot) := by
    unfold shW
    rw [shWi_get _ _ _ (by omega), Int.toNat_of_nonneg this.1, if_pos hm]
  rw [e, div1 (ps.getD t.toNat 0), Rat.divInt_mul_divInt, Int.mul_one]
/-- a Weighted as a rule; its weights have B bits -/
def Rep_Weighted (K : PySem.W.Frag) (H : Hp) (x : Addr) (n : Int) (sh : List Int → List Rat) (b : Nat) : Prop := ∃ ws a B, WR K H x ws a ∧ n = ws.length ∧ sh = shW ws a ∧ (∀ w ∈ ws, w < 2 ^ B) ∧ a < 2 ^ B ∧ B + 5 ≤ b ∧ b ≤ 13400
theorem Rep_Weighted.ex {K : PySem.W.Frag} {H H' : Hp} {x : Addr} {n : Int} {sh : List Int → List Rat} {b : Nat} (h : Rep_Weighted K H x n sh b) (e : Ex H H') : Rep_Weighted K H' x n sh b := by
  obtain ⟨ws, a, B, h1, h2⟩ := h
  exact ⟨ws, a, B, h1.ex e, h2⟩
theorem Rep_Weighted.nl {K : PySem.W.Frag} {H H' : Hp} {x : Addr} {n : Int} {sh : List Int → List Rat} {b : Nat} (h : Rep_Weighted K H x n sh b) (e : Nl H H') : Rep_Weighted K H' x n sh b := by
  obtain ⟨ws, a, B, h1, h2⟩ := h
  exact ⟨ws, a, B, h1.nl e, h2⟩
theorem WR.rb {K : PySem.W.Frag} {H : Hp} {x : Addr} {ws : List Int} {a : Int} (h : WR K H x ws a) : RB (He.ga K "Weighted") H x ws.length := by
  obtain ⟨⟨dx, t, h1, h2⟩, h3, _⟩ := h
  refine ⟨dx, _, h1, rfl, fun m hm => ?_, by omega, by omega⟩
  have e1 : (m == ("many" : Str)) = false := by revert m; decide +kernel
  have e2 : (m == ("weights" : Str)) = false := by revert m; decide +kernel
  have e3 : (m == ("aside" : Str)) = false := by revert m; decide +kernel
  simp only [wF, List.lookup, e1, e2, e3]
theorem Rep_Weighted.rb {K : PySem.W.Frag} {H : Hp} {x : Addr} {n : Int} {sh : List Int → List Rat} {b : Nat} (h : Rep_Weighted K H x n sh b) : RB (He.ga K "Weighted") H x n := by
  obtain ⟨ws, a, B, h1, rfl, _⟩ := h
  exact h1.rb
theorem Rep_Weighted.len {K : PySem.W.Frag} {H : Hp} {x : Addr} {n : Int} {sh : List Int → List Rat} {b : Nat} (h : Rep_Weighted K H x n sh b) (lot : List Int) : (sh lot).length = n.toNat := by
  obtain ⟨ws, a, B, h1, rfl, rfl, _⟩ := h
  unfold shW
  rw [shWi_len]
  rfl
theorem WR.rep {K : PySem.W.Frag} {H : Hp} {x : Addr} {ws : List Int} {a : Int} {B : Nat} (h : WR K H x ws a) (hw : ∀ w ∈ ws, w < 2 ^ B) (ha : a < 2 ^ B) (hB : B + 5 ≤ 13400) : Rep_Weighted K H x ws.length (shW ws a) (B + 5) := ⟨ws, a, B, h, rfl, rfl, hw, ha, Nat.le_refl _, hB⟩
/-- the total has B + 5 bits -/
theorem tot_bt {ws lot : List Int} {a : Int} {B : Nat} (hp : ∀ w ∈ ws, 1 ≤ w) (ha0 : 1 ≤ a) (hw : ∀ w ∈ ws, w < 2 ^ B) (ha : a < 2 ^ B) (hl : lot.length ≤ 24) : 1 ≤ a + wsum ws lot ∧ (a + wsum ws lot).natAbs < 2 ^ (B + 5) := by
  have h1 := wsum_nonneg hp lot
  have h2 := wsum_le (B := 2 ^ B) (by exact_mod_cast Nat.zero_le _) (fun w hx => by have := hw w hx; omega) lot
  have h3 : (lot.length : Int) * 2 ^ B ≤ 24 * 2 ^ B := Int.mul_le_mul_of_nonneg_right (by omega) (by exact_mod_cast Nat.zero_le _)
  refine ⟨by omega, ?_⟩
  have h4 : a + wsum ws lot < 32 * 2 ^ B := by omega
  have h5 : ((a + wsum ws lot).natAbs : Int) < ((2 ^ (B + 5) : Nat) : Int) := by
    rw [Int.natAbs_of_nonneg (by omega), Nat.pow_add]
    push_cast
    omega
  exact_mod_cast h5
theorem others_lot {n : Int} (hn : 0 ≤ n) (p : Nat → Bool) : IsLot n (((List.range n.toNat).filter p).map fun k : Nat => (k : Int)) := by
  constructor
  · rw [List.pairwise_map]
    exact (List.pairwise_lt_range.filter _).imp fun h => by omega
  · intro x hx
    obtain ⟨k, hk, rfl⟩ := List.mem_map.mp hx
    have := List.mem_range.mp (List.mem_filter.mp hk).1
    omega

--lib
/-! ### orders of things by a weak order -/
/-- a strict weak order -/
structure Wk (lt : Nat → Nat → Prop) : Prop where
  asym : ∀ {a b}, lt a b → ¬ lt b a
  tr : ∀ {a b c}, ¬ lt a b → ¬ lt b c → ¬ lt a c
/-- a stands ahead of b: dearer, or equally dear and lower -/
def Ahd (lt : Nat → Nat → Prop) (a b : Nat) : Prop := lt b a ∨ (¬ lt a b ∧ ¬ lt b a ∧ a < b)
/-- the order of the things below n -/
structure DOrd (lt : Nat → Nat → Prop) (n : Nat) (os : List Nat) : Prop where
  perm : os.Perm (List.range n)
  srt : os.Pairwise (Ahd lt)
theorem DOrd.nil (lt : Nat → Nat → Prop) : DOrd lt 0 [] := ⟨.refl _, .nil⟩
theorem DOrd.len {lt : Nat → Nat → Prop} {n : Nat} {os : List Nat} (d : DOrd lt n os) : os.length = n := by rw [d.perm.length_eq, List.length_range]
theorem DOrd.lt {lt : Nat → Nat → Prop} {n : Nat} {os : List Nat} (d : DOrd lt n os) {x : Nat} (h : x ∈ os) : x < n := List.mem_range.mp (d.perm.mem_iff.mp h)
theorem DOrd.mem {lt : Nat → Nat → Prop} {n : Nat} {os : List Nat} (d : DOrd lt n os) {x : Nat} (h : x < n) : x ∈ os := d.perm.mem_iff.mpr (List.mem_range.mpr h)
theorem DOrd.nodup {lt : Nat → Nat → Prop} {n : Nat} {os : List Nat} (d : DOrd lt n os) : os.Nodup := d.perm.nodup_iff.mpr List.nodup_range
/-- one thing more is put in -/
theorem DOrd.ins {lt : Nat → Nat → Prop} (W : Wk lt) {n pl : Nat} {os : List Nat} (d : DOrd lt n os) (hp : pl ≤ os.length) (low : ∀ x ∈ os.drop pl, lt x n) (up : pl = 0 ∨ ∃ x, os[pl - 1]? = some x ∧ ¬ lt x n) :
    DOrd lt (n + 1) (os.take pl ++ [n] ++ os.drop pl) := by
  have hup : ∀ x ∈ os.take pl, ¬ lt x n := by
    intro x hx
    rcases up with rfl | ⟨y, hy, hn⟩
    · simp at hx
    · by_cases h0 : pl = 0
      · subst h0; simp at hx
      obtain ⟨i, hi, rfl⟩ := List.mem_iff_getElem.mp hx
      rw [List.length_take] at hi
      rw [List.getElem_take]
      have hyl : pl - 1 < os.length := by omega
      rw [List.getElem?_eq_getElem hyl] at hy
      cases hy
      by_cases e : i = pl - 1
      · subst e; exact hn
      · have r := List.pairwise_iff_getElem.mp d.srt i (pl - 1) (by omega) hyl (by omega)
        rcases r with r | ⟨r, _, _⟩
        · exact W.tr (W.asym r) hn
        · exact W.tr r hn
  refine ⟨?_, ?_⟩
  · rw [List.range_succ]
    have e : os.take pl ++ [n] ++ os.drop pl = os.take pl ++ ([n] ++ os.drop pl) := by rw [List.append_assoc]
    rw [e]
    refine (List.Perm.append_left _ List.perm_append_comm).trans ?_
    rw [← List.append_assoc, List.take_append_drop]
    exact d.perm.append_right _
  · have s1 : (os.take pl).Pairwise (Ahd lt) := d.srt.sublist (List.take_sublist _ _)
    have s2 : (os.drop pl).Pairwise (Ahd lt) := d.srt.sublist (List.drop_sublist _ _)
    have s0 := d.srt
    rw [← List.take_append_drop pl os, List.pairwise_append] at s0
    rw [List.pairwise_append, List.pairwise_append]
    refine ⟨⟨s1, List.pairwise_singleton _ _, fun a ha b hb => ?_⟩, s2, fun a ha b hb => ?_⟩
    · rw [List.mem_singleton] at hb
      subst hb
      have hl := d.lt (List.mem_of_mem_take ha)
      by_cases q : lt b a
      · exact .inl q
      · exact .inr ⟨hup a ha, q, hl⟩
    · rcases List.mem_append.mp ha with ha | ha
      · exact s0.2.2 a ha b hb
      · rw [List.mem_singleton] at ha
        subst ha
        exact .inl (low b hb)
theorem wk_int (f : Nat → Int) : Wk (fun a b => f a < f b) := ⟨fun h => by omega, fun h g => by omega⟩
/-- by prices -/
def ltI (ps : List Int) : Nat → Nat → Prop := fun a b => ps.getD a 0 < ps.getD b 0
abbrev castL (os : List Nat) : List Int := os.map fun n : Nat => (n : Int)
theorem dord_uq {ps : List Int} {n : Nat} {os os' : List Nat} (d : DOrd (ltI ps) n os) (d' : DOrd (ltI ps) n os') : os = os' :=
  List.Perm.eq_of_pairwise (le := Ahd (ltI ps)) (fun a b _ _ h g => by unfold Ahd ltI at *; omega) d.srt d'.srt (d.perm.trans d'.perm.symm)
theorem dord_ex (ps : List Int) (n : Nat) : ∃ os, DOrd (ltI ps) n os := by
  induction n with
  | zero => exact ⟨[], DOrd.nil _⟩
  | succ n ih =>
    obtain ⟨os, d⟩ := ih
    have key : ∀ k, k ≤ os.length → ∃ pl, pl ≤ os.length ∧ (∀ x ∈ os.drop pl, ltI ps x n) ∧ (pl ≤ os.length - k ∨ pl = 0 ∨ ∃ x, os[pl - 1]? = some x ∧ ¬ ltI ps x n) := by
      intro k
      induction k with
      | zero => exact fun _ => ⟨os.length, Nat.le_refl _, fun x hx => by simp at hx, .inl (by omega)⟩
      | succ k ihk =>
        intro hk
        obtain ⟨pl, h1, h2, h3⟩ := ihk (by omega)
        by_cases h0 : pl = 0
        · exact ⟨pl, h1, h2, .inr (.inl h0)⟩
        have hlt : pl - 1 < os.length := by omega
        by_cases hx : ltI ps os[pl - 1] n
        · rcases h3 with h3 | h3 | ⟨x, e, hn⟩
          · refine ⟨pl - 1, by omega, fun x hm => ?_, .inl (by omega)⟩
            rw [List.drop_eq_getElem_cons hlt, show pl - 1 + 1 = pl by omega] at hm
            rcases List.mem_cons.mp hm with rfl | hm
            · exact hx
            · exact h2 x hm
          · exact absurd h3 h0
          · rw [List.getElem?_eq_getElem hlt] at e
            cases e
            exact absurd hx hn
        · exact ⟨pl, h1, h2, .inr (.inr ⟨_, List.getElem?_eq_getElem hlt, hx⟩)⟩
    obtain ⟨pl, h1, h2, h3⟩ := key os.length (Nat.le_refl _)
    refine ⟨_, d.ins (wk_int fun t => ps.getD t 0) h1 h2 ?_⟩
    rcases h3 with h3 | h3 | h3
    · exact .inl (by omega)
    · exact .inl h3
    · exact .inr h3
/-- the lot of the first k things -/
def lotK (os : List Nat) (k : Nat) : List Int := castL ((List.range os.length).filter fun t => decide (t ∈ os.take k))
theorem lotK_perm {lt : Nat → Nat → Prop} {n : Nat} {os : List Nat} (d : DOrd lt n os) (k : Nat) : (lotK os k).Perm (castL (os.take k)) := by
  refine List.Perm.map _ ((List.perm_ext_iff_of_nodup (List.nodup_range.filter _) (d.nodup.sublist (List.take_sublist _ _))).mpr fun a => ?_)
  rw [List.mem_filter, List.mem_range]
  constructor
  · rintro ⟨_, h⟩; simpa using h
  · intro h
    refine ⟨?_, by simpa using h⟩
    rw [d.len]
    exact d.lt (List.mem_of_mem_take h)
theorem lotK_eq {lt : Nat → Nat → Prop} {n k : Nat} {os : List Nat} {ms : List Int} (d : DOrd lt n os) (hp : ms.Perm (castL (os.take k))) (hs : ms.Pairwise (· ≤ ·)) : ms = lotK os k := by
  refine List.Perm.eq_of_pairwise (le := (· ≤ ·)) (fun a b _ _ h g => by omega) hs ?_ (hp.trans (lotK_perm d k).symm)
  unfold lotK
  rw [List.pairwise_map]
  exact (List.pairwise_lt_range.filter _).imp fun h => by omega
/-- the first that has the greatest value -/
def IsK (f : Nat → Rat) (n j : Nat) : Prop := j ≤ n ∧ (∀ i, i ≤ n → f i ≤ f j) ∧ ∀ i, i < j → f i < f j
theorem IsK.step {f : Nat → Rat} {n j : Nat} (h : IsK f n j) (hf : ¬ f j < f (n + 1)) : IsK f (n + 1) j := by
  refine ⟨Nat.le_succ_of_le h.1, fun i hi => ?_, h.2.2⟩
  by_cases e : i = n + 1
  · subst e; exact Rat.not_lt.mp hf
  · exact h.2.1 i (by omega)
theorem IsK.up {f : Nat → Rat} {n j : Nat} (h : IsK f n j) (hf : f j < f (n + 1)) : IsK f (n + 1) (n + 1) := by
  have a : ∀ i, i < n + 1 → f i < f (n + 1) := fun i hi => by have := h.2.1 i (by omega); grind
  refine ⟨Nat.le_refl _, fun i hi => ?_, a⟩
  by_cases e : i = n + 1
  · subst e; exact Rat.le_refl
  · exact Rat.le_of_lt (a i (by omega))
theorem IsK.zero (f : Nat → Rat) : IsK f 0 0 := ⟨Nat.le_refl _, fun i hi => by rw [Nat.le_zero.mp hi]; exact Rat.le_refl, fun i hi => absurd hi (by omega)⟩

--lib
/-- a sum over the things below n -/
def G (f : Nat → Rat) (n : Nat) : Rat := ((List.range n).map f).sum
theorem G_succ (f : Nat → Rat) (n : Nat) : G f (n + 1) = G f n + f n := by
  unfold G
  rw [List.range_succ, List.map_append, List.sum_append, List.map_singleton, List.sum_singleton]
theorem G_le {f g : Nat → Rat} : ∀ {n : Nat}, (∀ t, t < n → f t ≤ g t) → G f n ≤ G g n
  | 0, _ => Rat.le_refl
  | n + 1, h => by
    have h1 := G_le (n := n) fun t ht => h t (by omega)
    have h2 := h n (by omega)
    rw [G_succ, G_succ]
    grind
theorem G_lt {f g : Nat → Rat} {k : Nat} : ∀ {n : Nat}, (∀ t, t < n → f t ≤ g t) → k < n → f k < g k → G f n < G g n
  | 0, _, hk, _ => absurd hk (by omega)
  | n + 1, h, hk, hl => by
    have h2 := h n (by omega)
    rw [G_succ, G_succ]
    by_cases e : k = n
    · subst e
      have h1 := G_le (n := k) fun t ht => h t (by omega)
      grind
    · have h1 := G_lt (n := n) (fun t ht => h t (by omega)) (by omega) hl
      grind
theorem G_congr {f g : Nat → Rat} {n : Nat} (h : ∀ t, t < n → f t = g t) : G f n = G g n := by
  unfold G
  congr 1
  exact List.map_congr_left fun t ht => h t (List.mem_range.mp ht)
/-- what a thing gains above z -/
def mx (w p z : Rat) : Rat := if z < p then w * (p - z) else 0
theorem mx_nn {w p z : Rat} (hw : 0 ≤ w) : 0 ≤ mx w p z := by
  unfold mx
  split
  · exact Rat.mul_nonneg hw (by grind)
  · exact Rat.le_refl
theorem mul_le {w a b : Rat} (hw : 0 ≤ w) (h : a ≤ b) : w * a ≤ w * b := Rat.mul_le_mul_of_nonneg_left h hw
theorem mx_mono {w p p' z z' : Rat} (hw : 0 ≤ w) (h : p - z ≤ p' - z') : mx w p z ≤ mx w p' z' := by
  by_cases h1 : z < p
  · have e1 : mx w p z = w * (p - z) := if_pos h1
    have e2 : mx w p' z' = w * (p' - z') := if_pos (by grind)
    rw [e1, e2]
    exact mul_le hw h
  · have e1 : mx w p z = 0 := if_neg h1
    rw [e1]
    exact mx_nn hw
theorem mx_z {w p z z' : Rat} (hw : 0 ≤ w) (h : z ≤ z') : mx w p z' ≤ mx w p z := mx_mono hw (by grind)
/-- z is the worth of the best lot -/
structure Root (w p : Nat → Rat) (n : Nat) (a z : Rat) : Prop where
  w0 : ∀ t, t < n → 0 < w t
  a0 : 0 < a
  eq : G (fun t => mx (w t) (p t) z) n = a * z
section
variable {w p : Nat → Rat} {n : Nat} {a z y : Rat}
theorem Root.anti (r : Root w p n a z) {x y : Rat} (h : x ≤ y) : G (fun t => mx (w t) (p t) y) n ≤ G (fun t => mx (w t) (p t) x) n := G_le fun t ht => mx_z (Rat.le_of_lt (r.w0 t ht)) h
theorem mlt {a x y : Rat} (ha : 0 < a) (h : x < y) : a * x < a * y := Rat.mul_lt_mul_of_pos_left h ha
theorem Root.le (r : Root w p n a z) (h : G (fun t => mx (w t) (p t) y) n ≤ a * y) : z ≤ y := by
  apply Classical.byContradiction
  intro c
  have c : y < z := by grind
  have h1 := r.anti (Rat.le_of_lt c)
  have h2 := r.eq
  have h3 := mlt r.a0 c
  grind
theorem Root.lt (r : Root w p n a z) (h : G (fun t => mx (w t) (p t) y) n < a * y) : z < y := by
  apply Classical.byContradiction
  intro c
  have c : y ≤ z := by grind
  have h1 := r.anti c
  have h2 := r.eq
  have h3 := mul_le (Rat.le_of_lt r.a0) c
  grind
theorem Root.ge (r : Root w p n a z) (h : a * y ≤ G (fun t => mx (w t) (p t) y) n) : y ≤ z := by
  apply Classical.byContradiction
  intro c
  have c : z < y := by grind
  have h1 := r.anti (Rat.le_of_lt c)
  have h2 := r.eq
  have h3 := mlt r.a0 c
  grind
theorem Root.gt (r : Root w p n a z) (h : a * y < G (fun t => mx (w t) (p t) y) n) : y < z := by
  apply Classical.byContradiction
  intro c
  have c : z ≤ y := by grind
  have h1 := r.anti c
  have h2 := r.eq
  have h3 := mul_le (Rat.le_of_lt r.a0) c
  grind
theorem Root.nn (r : Root w p n a z) : 0 ≤ z := r.ge (by
  rw [Rat.mul_zero]
  have := G_le (f := fun _ => 0) (g := fun t => mx (w t) (p t) 0) (n := n) fun t ht => mx_nn (Rat.le_of_lt (r.w0 t ht))
  have e : G (fun _ => 0) n = 0 := by
    clear this r
    induction n with
    | zero => rfl
    | succ n ih => rw [G_succ, ih, Rat.add_zero]
  rw [e] at this
  exact this)
theorem Root.uq {y : Rat} (r : Root w p n a z) (r' : Root w p n a y) : z = y := by
  have h1 := r.le (y := y) (by rw [r'.eq]; exact Rat.le_refl)
  have h2 := r'.le (y := z) (by rw [r.eq]; exact Rat.le_refl)
  grind
end

/-! ### what a change does -/
section
variable {w p w' p' : Nat → Rat} {n : Nat} {a a' z y by_ : Rat} {k : Nat}
/-- a greater aside weight -/
theorem Root.aside (r : Root w p n a z) (r' : Root w p n (a + by_) y) (hb : 0 < by_) : y ≤ z ∧ (0 < z → y < z) := by
  have h0 := r.nn
  constructor
  · refine r'.le ?_
    rw [r.eq, Rat.add_mul]
    have := Rat.mul_nonneg (Rat.le_of_lt hb) h0
    grind
  · intro hz
    refine r'.lt ?_
    rw [r.eq, Rat.add_mul]
    have := Rat.mul_pos hb hz
    grind
/-- a higher price -/
theorem Root.dearer (r : Root w p n a z) (r' : Root w p' n a y) (hb : 0 < by_) (hk : p' k = p k + by_) (ho : ∀ t, t ≠ k → p' t = p t) : z ≤ y ∧ y < z + by_ ∧ (p' k ≤ y → y = z) := by
  have hp : ∀ t, p t ≤ p' t ∧ p' t ≤ p t + by_ := fun t => by
    by_cases h : t = k
    · subst h; rw [hk]; grind
    · rw [ho t h]; grind
  refine ⟨r'.ge ?_, r'.lt ?_, fun h => ?_⟩
  · rw [← r.eq]
    exact G_le fun t ht => mx_mono (Rat.le_of_lt (r.w0 t ht)) (by have := hp t; grind)
  · have h1 : G (fun t => mx (w t) (p' t) (z + by_)) n ≤ G (fun t => mx (w t) (p t) z) n := G_le fun t ht => mx_mono (Rat.le_of_lt (r.w0 t ht)) (by have := hp t; grind)
    rw [r.eq] at h1
    have h2 := mlt r.a0 (show z < z + by_ by grind)
    grind
  · refine (r.uq ⟨r.w0, r.a0, ?_⟩).symm
    rw [← r'.eq]
    refine G_congr fun t ht => ?_
    by_cases h2 : t = k
    · subst h2
      have e1 : mx (w t) (p t) y = 0 := if_neg (by rw [hk] at h; grind)
      have e2 : mx (w t) (p' t) y = 0 := if_neg (by grind)
      show mx (w t) (p t) y = mx (w t) (p' t) y
      rw [e1, e2]
    · show mx (w t) (p t) y = mx (w t) (p' t) y
      rw [ho t h2]
/-- a greater weight -/
theorem Root.heavier (r : Root w p n a z) (r' : Root w' p n a y) (hw : w k < w' k) (hk : k < n) (ho : ∀ t, t ≠ k → w' t = w t) : (p k ≤ z → y = z) ∧ (z < p k → z < y ∧ y < p k) := by
  constructor
  · intro h
    refine (r'.uq ⟨r'.w0, r'.a0, ?_⟩)
    rw [← r.eq]
    refine G_congr fun t ht => ?_
    by_cases h2 : t = k
    · subst h2
      have e1 : mx (w t) (p t) z = 0 := if_neg (by grind)
      have e2 : mx (w' t) (p t) z = 0 := if_neg (by grind)
      show mx (w' t) (p t) z = mx (w t) (p t) z
      rw [e1, e2]
    · show mx (w' t) (p t) z = mx (w t) (p t) z
      rw [ho t h2]
  · intro h
    constructor
    · refine r'.gt ?_
      rw [← r.eq]
      refine G_lt (k := k) (fun t ht => ?_) hk ?_
      · by_cases h2 : t = k
        · subst h2
          have e1 : mx (w t) (p t) z = w t * (p t - z) := if_pos h
          have e2 : mx (w' t) (p t) z = w' t * (p t - z) := if_pos h
          show mx (w t) (p t) z ≤ mx (w' t) (p t) z
          rw [e1, e2]
          exact Rat.mul_le_mul_of_nonneg_right (Rat.le_of_lt hw) (by grind)
        · show mx (w t) (p t) z ≤ mx (w' t) (p t) z
          rw [ho t h2]
          exact Rat.le_refl
      · have e1 : mx (w k) (p k) z = w k * (p k - z) := if_pos h
        have e2 : mx (w' k) (p k) z = w' k * (p k - z) := if_pos h
        show mx (w k) (p k) z < mx (w' k) (p k) z
        rw [e1, e2]
        exact Rat.mul_lt_mul_of_pos_right hw (by grind)
    · refine r'.lt ?_
      have h1 : G (fun t => mx (w' t) (p t) (p k)) n ≤ G (fun t => mx (w t) (p t) z) n := G_le fun t ht => by
        by_cases h2 : t = k
        · subst h2
          have e2 : mx (w' t) (p t) (p t) = 0 := if_neg (by grind)
          show mx (w' t) (p t) (p t) ≤ mx (w t) (p t) z
          rw [e2]
          exact mx_nn (Rat.le_of_lt (r.w0 t ht))
        · show mx (w' t) (p t) (p k) ≤ mx (w t) (p t) z
          rw [ho t h2]
          exact mx_z (Rat.le_of_lt (r.w0 t ht)) (Rat.le_of_lt h)
      rw [r.eq] at h1
      have h2 := mlt r.a0 h
      grind
/-- a further thing -/
theorem Root.further (r : Root w p n a z) (r' : Root w' p' (n + 1) a y) (hw : ∀ t, t < n → w' t = w t) (hp : ∀ t, t < n → p' t = p t) : (p' n ≤ z → y = z) ∧ (z < p' n → z < y ∧ y < p' n) := by
  have e : ∀ x, G (fun t => mx (w' t) (p' t) x) (n + 1) = G (fun t => mx (w t) (p t) x) n + mx (w' n) (p' n) x := fun x => by
    rw [G_succ]
    congr 1
    exact G_congr fun t ht => by rw [hw t ht, hp t ht]
  have hwn := r'.w0 n (by omega)
  constructor
  · intro h
    refine r'.uq ⟨r'.w0, r'.a0, ?_⟩
    have e2 : mx (w' n) (p' n) z = 0 := if_neg (by grind)
    rw [e, r.eq, e2, Rat.add_zero]
  · intro h
    constructor
    · refine r'.gt ?_
      have e2 : mx (w' n) (p' n) z = w' n * (p' n - z) := if_pos h
      rw [e, r.eq, e2]
      have := Rat.mul_pos hwn (show 0 < p' n - z by grind)
      grind
    · refine r'.lt ?_
      have e2 : mx (w' n) (p' n) (p' n) = 0 := if_neg (by grind)
      rw [e, e2, Rat.add_zero]
      have h1 := r.anti (Rat.le_of_lt h)
      rw [r.eq] at h1
      have h2 := mlt r.a0 h
      grind
/-- all prices higher -/
theorem Root.higher (r : Root w p n a z) (r' : Root w p' n a y) (hb : 0 < by_) (hp : ∀ t, p' t = p t + by_) (hn : ∃ t, t < n ∧ z ≤ p t) : z < y ∧ y < z + by_ := by
  constructor
  · refine r'.gt ?_
    rw [← r.eq]
    obtain ⟨k, hk, hz⟩ := hn
    refine G_lt (k := k) (fun t ht => mx_mono (Rat.le_of_lt (r.w0 t ht)) (by rw [hp]; grind)) hk ?_
    have e2 : mx (w k) (p' k) z = w k * (p' k - z) := if_pos (by rw [hp]; grind)
    show mx (w k) (p k) z < mx (w k) (p' k) z
    rw [e2]
    unfold mx
    split
    · exact mlt (r.w0 k hk) (by rw [hp]; grind)
    · exact Rat.mul_pos (r.w0 k hk) (by rw [hp]; grind)
  · refine r'.lt ?_
    have h1 : G (fun t => mx (w t) (p' t) (z + by_)) n ≤ G (fun t => mx (w t) (p t) z) n := G_le fun t ht => mx_mono (Rat.le_of_lt (r.w0 t ht)) (by rw [hp]; grind)
    rw [r.eq] at h1
    have h2 := mlt r.a0 (show z < z + by_ by grind)
    grind
/-- all weights doubled -/
theorem Root.twiceW (r : Root w p n a z) (r' : Root w' p n (2 * a) y) (hw : ∀ t, w' t = 2 * w t) : y = z := by
  refine r'.uq ⟨r'.w0, r'.a0, ?_⟩
  have e : ∀ m, G (fun t => mx (w' t) (p t) z) m = 2 * G (fun t => mx (w t) (p t) z) m := fun m => by
    induction m with
    | zero => show (0 : Rat) = 2 * 0; rw [Rat.mul_zero]
    | succ m ih =>
      rw [G_succ, G_succ, ih, hw]
      have : mx (2 * w m) (p m) z = 2 * mx (w m) (p m) z := by
        unfold mx
        split
        · rw [Rat.mul_assoc]
        · rw [Rat.mul_zero]
      rw [this, Rat.mul_add]
  rw [e, r.eq, Rat.mul_assoc]
/-- all prices doubled -/
theorem Root.twiceP (r : Root w p n a z) (r' : Root w p' n a y) (hp : ∀ t, p' t = 2 * p t) : y = 2 * z := by
  refine r'.uq ⟨r'.w0, r'.a0, ?_⟩
  have e : ∀ m, G (fun t => mx (w t) (p' t) (2 * z)) m = 2 * G (fun t => mx (w t) (p t) z) m := fun m => by
    induction m with
    | zero => show (0 : Rat) = 2 * 0; rw [Rat.mul_zero]
    | succ m ih =>
      rw [G_succ, G_succ, ih, hp]
      have : mx (w m) (2 * p m) (2 * z) = 2 * mx (w m) (p m) z := by
        unfold mx
        by_cases h : z < p m
        · rw [if_pos h, if_pos (by grind)]
          grind
        · rw [if_neg h, if_neg (by grind), Rat.mul_zero]
      rw [this, Rat.mul_add]
  rw [e, r.eq]
  grind
end

--lib
/-! ### the best lots by weights before and after a change -/
abbrev rt (l : List Int) : Nat → Rat := fun t => ((l.getD t 0 : Int) : Rat)
/-- the best lot, its worth -/
structure Bst (ws : List Int) (a : Int) (ps lot : List Int) (q : Rat) : Prop where
  root : Root (rt ws) (rt ps) ps.length (a : Rat) q
  lot_eq : lot = castL ((List.range ps.length).filter fun t => decide (q.num < ps.getD t 0 * q.den))
/-- how much the second worth is above the first, crosswise -/
def rise (q r : Rat) : Int := r.num * q.den - q.num * r.den
theorem rise_nn {q r : Rat} : 0 ≤ rise q r ↔ q ≤ r := by rw [le_rat]; unfold rise; omega
theorem rise_pos {q r : Rat} : 0 < rise q r ↔ q < r := by rw [lt_rat]; unfold rise; omega
theorem rise_self {q : Rat} : rise q q = 0 := by unfold rise; omega
theorem rise_neg {q r : Rat} : rise q r < 0 ↔ r < q := by rw [lt_rat]; unfold rise; omega
theorem num_of (q : Rat) : q * (q.den : Rat) = (q.num : Rat) := by
  have h : q = (q.num : Rat) / ((q.den : Int) : Rat) := by rw [← Rat.divInt_eq_div, Rat.num_divInt_den]
  have hd : ((q.den : Int) : Rat) ≠ 0 := by
    have := q.den_pos
    intro z
    have : (q.den : Int) = 0 := by exact_mod_cast z
    omega
  have e : ((q.den : Nat) : Rat) = ((q.den : Int) : Rat) := rfl
  rw [e]
  conv => lhs; lhs; rw [h]
  exact Rat.div_mul_cancel hd
theorem rise_lt {q r : Rat} {b : Int} (h : r < q + (b : Rat)) : rise q r < b * q.den * r.den := by
  have hq : q * (q.den : Rat) = (q.num : Rat) := num_of q
  have hr : r * (r.den : Rat) = (r.num : Rat) := num_of r
  have hqd : (0 : Rat) < (q.den : Rat) := by exact_mod_cast q.den_pos
  have hrd : (0 : Rat) < (r.den : Rat) := by exact_mod_cast r.den_pos
  have h1 : r * ((q.den : Rat) * r.den) < (q + b) * ((q.den : Rat) * r.den) := Rat.mul_lt_mul_of_pos_right h (Rat.mul_pos hqd hrd)
  have e1 : r * ((q.den : Rat) * r.den) = ((r.num * q.den : Int) : Rat) := by
    rw [Rat.mul_comm (q.den : Rat), ← Rat.mul_assoc, hr, Rat.intCast_mul]; rfl
  have e2 : (q + b) * ((q.den : Rat) * r.den) = ((q.num * r.den + b * q.den * r.den : Int) : Rat) := by
    rw [Rat.add_mul, ← Rat.mul_assoc, hq, Rat.intCast_add, Rat.intCast_mul, Rat.intCast_mul, Rat.intCast_mul, ← Rat.mul_assoc]; rfl
  rw [e1, e2] at h1
  have h2 : r.num * q.den < q.num * r.den + b * q.den * r.den := by exact_mod_cast h1
  unfold rise
  omega
section
variable {ws us : List Int} {a a' b : Int} {ps rs lot lot' : List Int} {q r : Rat} {k : Nat}
theorem Bst.mem (h : Bst ws a ps lot q) {x : Int} : x ∈ lot ↔ ∃ t : Nat, x = (t : Int) ∧ t < ps.length ∧ q < rt ps t := by
  rw [h.lot_eq]
  constructor
  · intro hx
    obtain ⟨t, ht, rfl⟩ := List.mem_map.mp hx
    obtain ⟨h1, h2⟩ := List.mem_filter.mp ht
    exact ⟨t, rfl, List.mem_range.mp h1, (lt_int _ _).mpr (of_decide_eq_true h2)⟩
  · rintro ⟨t, rfl, h1, h2⟩
    exact List.mem_map.mpr ⟨t, List.mem_filter.mpr ⟨List.mem_range.mpr h1, decide_eq_true ((lt_int _ _).mp h2)⟩, rfl⟩
theorem Bst.memN (h : Bst ws a ps lot q) {t : Nat} : (t : Int) ∈ lot ↔ t < ps.length ∧ q < rt ps t := by
  rw [h.mem]
  constructor
  · rintro ⟨s, e, h1, h2⟩
    have : t = s := by omega
    subst this
    exact ⟨h1, h2⟩
  · exact fun h => ⟨t, rfl, h⟩
/-- lots of one worth and the same dearer things are the same -/
theorem lot_same {ps rs lot lot' : List Int} {q : Rat} (h1 : lot = castL ((List.range ps.length).filter fun t => decide (q.num < ps.getD t 0 * q.den))) (h2 : lot' = castL ((List.range rs.length).filter fun t => decide (q.num < rs.getD t 0 * q.den)))
    (hl : rs.length = ps.length) (ho : ∀ t, t < ps.length → (q < rt ps t ↔ q < rt rs t)) : lot' = lot := by
  rw [h1, h2, hl]
  congr 1
  refine List.filter_congr fun t ht => ?_
  have := ho t (List.mem_range.mp ht)
  rw [lt_int, lt_int] at this
  exact decide_eq_decide.mpr this.symm
theorem G_zero (n : Nat) : G (fun _ => 0) n = 0 := by
  induction n with
  | zero => rfl
  | succ n ih => rw [G_succ, ih, Rat.add_zero]
theorem Bst.pos (h : Bst ws a ps lot q) (hne : lot ≠ []) : 0 < q := by
  obtain ⟨x, hx⟩ := List.exists_mem_of_ne_nil _ hne
  obtain ⟨t, rfl, h1, h2⟩ := h.mem.mp hx
  have h0 := h.root.nn
  apply Classical.byContradiction
  intro c
  have e : q = 0 := by grind
  subst e
  have h3 := G_lt (f := fun _ => 0) (g := fun t => mx (rt ws t) (rt ps t) 0) (k := t) (fun s hs => mx_nn (Rat.le_of_lt (h.root.w0 s hs))) h1 (by
    have e2 : mx (rt ws t) (rt ps t) 0 = rt ws t * (rt ps t - 0) := if_pos h2
    show (0 : Rat) < mx (rt ws t) (rt ps t) 0
    rw [e2]
    exact Rat.mul_pos (h.root.w0 t h1) (by grind))
  rw [h.root.eq, Rat.mul_zero, G_zero] at h3
  exact absurd h3 (by decide)
theorem Bst.zero (h : Bst ws a ps lot q) (he : lot = []) : q = 0 := by
  have e := h.root.eq
  have e2 : G (fun t => mx (rt ws t) (rt ps t) q) ps.length = 0 := by
    rw [← G_zero ps.length]
    refine G_congr fun t ht => if_neg fun z => ?_
    have := h.memN.mpr ⟨ht, z⟩
    rw [he] at this
    cases this
  rw [e2] at e
  have := h.root.a0
  rcases Rat.mul_eq_zero.mp e.symm with h | h
  · grind
  · exact h
theorem cast_pos {b : Int} (h : 0 < b) : (0 : Rat) < (b : Rat) := by exact_mod_cast h
/-- a greater aside weight -/
theorem Bst.aside (h : Bst ws a ps lot q) (h' : Bst ws (a + b) ps lot' r) (hb : 0 < b) : (∀ x ∈ lot, x ∈ lot') ∧ (lot = [] → rise q r = 0) ∧ (lot ≠ [] → rise q r < 0) := by
  have hr := h'.root
  rw [Rat.intCast_add] at hr
  obtain ⟨h1, h2⟩ := h.root.aside hr (cast_pos hb)
  refine ⟨fun x hx => ?_, fun e => ?_, fun e => rise_neg.mpr (h2 (h.pos e))⟩
  · obtain ⟨t, rfl, g1, g2⟩ := h.mem.mp hx
    exact h'.memN.mpr ⟨g1, by grind⟩
  · have h3 := h.zero e
    have h4 := h'.root.nn
    have : r = q := by grind
    rw [this]
    exact rise_self
/-- a higher price -/
theorem Bst.dearer (h : Bst ws a ps lot q) (h' : Bst ws a (ps.set k (ps.getD k 0 + b)) lot' r) (hk : k < ps.length) (hb : 0 < b) :
    0 ≤ rise q r ∧ rise q r < b * q.den * r.den ∧ ((k : Int) ∈ lot → (k : Int) ∈ lot') ∧ ((k : Int) ∉ lot' → r = q ∧ lot' = lot) ∧ ∀ x ∈ lot', x ∈ lot ∨ x = (k : Int) := by
  have hl : (ps.set k (ps.getD k 0 + b)).length = ps.length := List.length_set
  have gk : rt (ps.set k (ps.getD k 0 + b)) k = rt ps k + (b : Rat) := by
    show ((((ps.set k (ps.getD k 0 + b)).getD k 0 : Int)) : Rat) = _
    rw [getD_get _ _ _ (by rw [hl]; exact hk), List.getElem_set_self, Rat.intCast_add]
  have go : ∀ t, t ≠ k → rt (ps.set k (ps.getD k 0 + b)) t = rt ps t := fun t ht => by
    show ((((ps.set k (ps.getD k 0 + b)).getD t 0 : Int)) : Rat) = _
    rw [List.getD_eq_getElem?_getD, List.getElem?_set_ne (by omega), ← List.getD_eq_getElem?_getD]
  have hr := h'.root
  rw [hl] at hr
  obtain ⟨h1, h2, h3⟩ := h.root.dearer hr (cast_pos hb) gk go
  refine ⟨rise_nn.mpr h1, rise_lt h2, fun hx => ?_, fun hx => ?_, fun x hx => ?_⟩
  · obtain ⟨g1, g2⟩ := h.memN.mp hx
    exact h'.memN.mpr ⟨by rw [hl]; exact hk, by rw [gk]; grind⟩
  · have hc : rt (ps.set k (ps.getD k 0 + b)) k ≤ r := by
      apply Classical.byContradiction
      intro c
      exact hx (h'.memN.mpr ⟨by rw [hl]; exact hk, by grind⟩)
    have e := h3 hc
    subst e
    refine ⟨rfl, lot_same h.lot_eq h'.lot_eq hl fun t ht => ?_⟩
    by_cases e : t = k
    · subst e
      have := cast_pos hb
      grind
    · rw [go t e]
  · obtain ⟨t, rfl, g1, g2⟩ := h'.mem.mp hx
    by_cases e : t = k
    · exact .inr (by rw [e])
    · rw [go t e] at g2
      exact .inl (h.memN.mpr ⟨by rw [hl] at g1; exact g1, by grind⟩)
/-- a greater weight -/
theorem Bst.heavier (h : Bst ws a ps lot q) (h' : Bst (ws.set k (ws.getD k 0 + b)) a ps lot' r) (hk : k < ps.length) (hk2 : k < ws.length) (hb : 0 < b) :
    ((k : Int) ∉ lot → r = q ∧ lot' = lot) ∧ ((k : Int) ∈ lot → (k : Int) ∈ lot' ∧ 0 < rise q r ∧ ∀ x ∈ lot', x ∈ lot) := by
  have gk : rt ws k < rt (ws.set k (ws.getD k 0 + b)) k := by
    show _ < ((((ws.set k (ws.getD k 0 + b)).getD k 0 : Int)) : Rat)
    rw [getD_get _ _ _ (by rw [List.length_set]; exact hk2), List.getElem_set_self, Rat.intCast_add]
    have := cast_pos hb
    show ((ws.getD k 0 : Int) : Rat) < _
    grind
  have go : ∀ t, t ≠ k → rt (ws.set k (ws.getD k 0 + b)) t = rt ws t := fun t ht => by
    show ((((ws.set k (ws.getD k 0 + b)).getD t 0 : Int)) : Rat) = _
    rw [List.getD_eq_getElem?_getD, List.getElem?_set_ne (by omega), ← List.getD_eq_getElem?_getD]
  obtain ⟨h1, h2⟩ := h.root.heavier h'.root gk hk go
  constructor
  · intro hx
    have e := h1 (by
      apply Classical.byContradiction
      intro c
      exact hx (h.memN.mpr ⟨hk, by grind⟩))
    subst e
    exact ⟨rfl, lot_same h.lot_eq h'.lot_eq rfl fun t ht => Iff.rfl⟩
  · intro hx
    obtain ⟨g1, g2⟩ := h2 (h.memN.mp hx).2
    refine ⟨h'.memN.mpr ⟨hk, g2⟩, rise_pos.mpr g1, fun x hx => ?_⟩
    obtain ⟨t, rfl, f1, f2⟩ := h'.mem.mp hx
    exact h.memN.mpr ⟨f1, by grind⟩
theorem rt_app {l : List Int} {x : Int} {t : Nat} (h : t < l.length) : rt (l ++ [x]) t = rt l t := by
  show (((l ++ [x]).getD t 0 : Int) : Rat) = _
  rw [List.getD_eq_getElem?_getD, List.getElem?_append_left h, ← List.getD_eq_getElem?_getD]
theorem rt_end {l : List Int} {x : Int} : rt (l ++ [x]) l.length = (x : Rat) := by
  show (((l ++ [x]).getD l.length 0 : Int) : Rat) = _
  rw [List.getD_eq_getElem?_getD, List.getElem?_append_right (Nat.le_refl _), Nat.sub_self]
  rfl
/-- a further thing -/
theorem Bst.further {w p : Int} (h : Bst ws a ps lot q) (h' : Bst (ws ++ [w]) a (ps ++ [p]) lot' r) (hl : ps.length = ws.length) :
    (p * q.den ≤ q.num → r = q ∧ lot' = lot) ∧ (q.num < p * q.den → (ps.length : Int) ∈ lot' ∧ 0 < rise q r ∧ ∀ x ∈ lot', x ∈ lot ∨ x = (ps.length : Int)) := by
  have hl2 : (ps ++ [p]).length = ps.length + 1 := by simp
  have hr := h'.root
  rw [hl2] at hr
  have ep : rt (ps ++ [p]) ps.length = (p : Rat) := rt_end
  obtain ⟨h1, h2⟩ := h.root.further hr (fun t ht => rt_app (by omega)) (fun t ht => rt_app ht)
  rw [ep] at h1 h2
  constructor
  · intro hp
    have hc : (p : Rat) ≤ q := by
      apply Classical.byContradiction
      intro c
      have := (lt_int q p).mp (by grind)
      omega
    have e := h1 hc
    subst e
    refine ⟨rfl, ?_⟩
    rw [h'.lot_eq, h.lot_eq, hl2, List.range_succ, List.filter_append]
    have e1 : ([ps.length].filter fun t => decide (r.num < (ps ++ [p]).getD t 0 * r.den)) = [] := by
      have : (ps ++ [p]).getD ps.length 0 = p := by rw [List.getD_eq_getElem?_getD, List.getElem?_append_right (Nat.le_refl _), Nat.sub_self]; rfl
      rw [List.filter_cons, this, decide_eq_false (by omega)]
      rfl
    rw [e1, List.append_nil]
    congr 1
    refine List.filter_congr fun t ht => ?_
    have ht := List.mem_range.mp ht
    rw [List.getD_eq_getElem?_getD, List.getElem?_append_left ht, ← List.getD_eq_getElem?_getD]
  · intro hp
    obtain ⟨g1, g2⟩ := h2 ((lt_int q p).mpr hp)
    refine ⟨h'.memN.mpr ⟨by omega, by rw [ep]; exact g2⟩, rise_pos.mpr g1, fun x hx => ?_⟩
    obtain ⟨t, rfl, f1, f2⟩ := h'.mem.mp hx
    by_cases e : t = ps.length
    · exact .inr (by rw [e])
    · have ht : t < ps.length := by omega
      rw [rt_app ht] at f2
      exact .inl (h.memN.mpr ⟨ht, by grind⟩)
theorem rt_map {f : Int → Int} {t : Nat} (h : t < ps.length) : rt (ps.map f) t = ((f (ps.getD t 0) : Int) : Rat) := by
  show (((ps.map f).getD t 0 : Int) : Rat) = _
  rw [getD_get _ _ _ (by rw [List.length_map]; exact h), List.getElem_map, getD_get _ _ _ h]
/-- all prices higher -/
theorem Bst.higher (h : Bst ws a ps lot q) (h' : Bst ws a (ps.map fun p => p + b) lot' r) (hb : 0 < b) (hp : ∀ p ∈ ps, 0 ≤ p) :
    (∀ x ∈ lot, x ∈ lot') ∧ (ps.length = 0 → rise q r = 0) ∧ (ps.length ≠ 0 → 0 < rise q r ∧ rise q r < b * q.den * r.den) := by
  have hl2 : (ps.map fun p => p + b).length = ps.length := by simp
  by_cases h0 : ps.length = 0
  · have e0 : ps = [] := List.length_eq_zero_iff.mp h0
    subst e0
    have e1 : lot = [] := h.lot_eq
    have e2 : lot' = [] := h'.lot_eq
    have e3 := h.zero e1
    have e4 := h'.zero e2
    refine ⟨fun x hx => ?_, fun _ => ?_, fun z => absurd rfl z⟩
    · rw [e1] at hx; cases hx
    · rw [e3, e4]; exact rise_self
  · have hr := h'.root
    rw [hl2] at hr
    -- the same by functions that are right everywhere
    have hr2 : Root (rt ws) (fun t => rt ps t + (b : Rat)) ps.length (a : Rat) r := ⟨hr.w0, hr.a0, by
      rw [← hr.eq]
      refine G_congr fun t ht => ?_
      show mx (rt ws t) (rt ps t + (b : Rat)) r = mx (rt ws t) (rt (ps.map fun p => p + b) t) r
      rw [rt_map ht, Rat.intCast_add]⟩
    have hex : ∃ t, t < ps.length ∧ q ≤ rt ps t := by
      by_cases he : lot = []
      · refine ⟨0, by omega, ?_⟩
        rw [h.zero he]
        have : (0 : Int) ≤ ps.getD 0 0 := by rw [getD_get _ _ _ (by omega)]; exact hp _ (List.getElem_mem _)
        show (0 : Rat) ≤ ((ps.getD 0 0 : Int) : Rat)
        exact_mod_cast this
      · obtain ⟨x, hx⟩ := List.exists_mem_of_ne_nil _ he
        obtain ⟨t, rfl, g1, g2⟩ := h.mem.mp hx
        exact ⟨t, g1, Rat.le_of_lt g2⟩
    obtain ⟨g1, g2⟩ := h.root.higher hr2 (cast_pos hb) (fun t => rfl) hex
    refine ⟨fun x hx => ?_, fun z => absurd z h0, fun _ => ⟨rise_pos.mpr g1, rise_lt g2⟩⟩
    obtain ⟨t, rfl, f1, f2⟩ := h.mem.mp hx
    refine h'.memN.mpr ⟨by omega, ?_⟩
    rw [rt_map f1, Rat.intCast_add]
    show r < rt ps t + (b : Rat)
    grind
/-- all weights doubled -/
theorem Bst.twiceW (h : Bst ws a ps lot q) (h' : Bst (ws.map fun w => 2 * w) (2 * a) ps lot' r) (hl : ps.length = ws.length) : r = q ∧ lot' = lot := by
  have hr := h'.root
  rw [Rat.intCast_mul] at hr
  have hr2 : Root (fun t => 2 * rt ws t) (rt ps) ps.length (2 * (a : Rat)) r := ⟨fun t ht => by
      have := h.root.w0 t ht
      exact Rat.mul_pos (by decide) this, hr.a0, by
    rw [show (2 : Rat) * (a : Rat) = ((2 : Int) : Rat) * (a : Rat) from rfl, ← hr.eq]
    refine G_congr fun t ht => ?_
    show mx (2 * rt ws t) (rt ps t) r = mx (rt (ws.map fun w => 2 * w) t) (rt ps t) r
    rw [rt_map (by omega), Rat.intCast_mul]
    rfl⟩
  have e := h.root.twiceW hr2 fun t => rfl
  subst e
  exact ⟨rfl, lot_same h.lot_eq h'.lot_eq rfl fun t ht => Iff.rfl⟩
/-- all prices doubled -/
theorem Bst.twiceP (h : Bst ws a ps lot q) (h' : Bst ws a (ps.map fun p => 2 * p) lot' r) : lot' = lot ∧ r.num * q.den = 2 * q.num * r.den := by
  have hl2 : (ps.map fun p => 2 * p).length = ps.length := by simp
  have hr := h'.root
  rw [hl2] at hr
  have hr2 : Root (rt ws) (fun t => 2 * rt ps t) ps.length (a : Rat) r := ⟨hr.w0, hr.a0, by
    rw [← hr.eq]
    refine G_congr fun t ht => ?_
    show mx (rt ws t) (2 * rt ps t) r = mx (rt ws t) (rt (ps.map fun p => 2 * p) t) r
    rw [rt_map ht, Rat.intCast_mul]
    rfl⟩
  have e := h.root.twiceP hr2 fun t => rfl
  constructor
  · rw [h'.lot_eq, h.lot_eq, hl2]
    congr 1
    refine List.filter_congr fun t ht => ?_
    have ht := List.mem_range.mp ht
    have h1 : (r < rt (ps.map fun p => 2 * p) t) ↔ q < rt ps t := by
      rw [rt_map ht, Rat.intCast_mul, e]
      show 2 * q < 2 * rt ps t ↔ _
      constructor <;> intro z <;> grind
    rw [lt_int, lt_int] at h1
    exact decide_eq_decide.mpr h1
  · have hq : q * (q.den : Rat) = (q.num : Rat) := num_of q
    have hr : r * (r.den : Rat) = (r.num : Rat) := num_of r
    have : ((r.num * q.den : Int) : Rat) = ((2 * q.num * r.den : Int) : Rat) := by
      rw [Rat.intCast_mul, Rat.intCast_mul, Rat.intCast_mul, ← hq, ← hr]
      generalize r.den = rd at *
      generalize q.den = qd at *
      rw [e]
      show 2 * q * (rd : Rat) * (qd : Rat) = 2 * (q * (qd : Rat)) * (rd : Rat)
      grind
    exact_mod_cast this
end
/-! ### from the numbers that are told -/
theorem sum_ifC {α : Type} (l : List α) (p : α → Bool) (f : α → Int) : (l.map fun t => if p t = true then f t else 0).sum = ((l.filter p).map f).sum := by
  induction l with
  | nil => rfl
  | cons a r ih =>
    rw [List.map_cons, List.sum_cons, ih, List.filter_cons]
    by_cases h : p a <;> simp [h]
theorem lin_sumC (l : List Int) (f g : Int → Int) (den num : Int) : (l.map fun t => f t * (g t * den - num)).sum = (l.map fun t => f t * g t).sum * den - (l.map f).sum * num := by
  induction l with
  | nil => simp
  | cons a r ih =>
    simp only [List.map_cons, List.sum_cons, ih]
    grind
theorem mx_den {w p : Int} {q : Rat} : mx (w : Rat) (p : Rat) q * (q.den : Rat) = (((if decide (q.num < p * q.den) = true then w * (p * q.den - q.num) else 0) : Int) : Rat) := by
  have hq := num_of q
  unfold mx
  by_cases h : q < (p : Rat)
  · rw [if_pos h, if_pos (decide_eq_true ((lt_int q p).mp h)), Rat.mul_assoc, Rat.sub_eq_add_neg, Rat.add_mul, Rat.neg_mul, hq, Rat.intCast_mul, Rat.intCast_sub, Rat.intCast_mul, Rat.sub_eq_add_neg]
    rfl
  · rw [if_neg h, if_neg (by
      rw [decide_eq_true_iff]
      exact fun z => h ((lt_int q p).mpr z)), Rat.zero_mul]
    rfl
theorem G_den {ws ps : List Int} {q : Rat} : ∀ n : Nat, G (fun t => mx (rt ws t) (rt ps t) q) n * (q.den : Rat) = ((((List.range n).map fun t => if decide (q.num < ps.getD t 0 * q.den) = true then ws.getD t 0 * (ps.getD t 0 * q.den - q.num) else 0).sum : Int) : Rat)
  | 0 => by show (0 : Rat) * _ = _; rw [Rat.zero_mul]; rfl
  | n + 1 => by
    rw [G_succ, Rat.add_mul, G_den n, List.range_succ, List.map_append, List.sum_append, Rat.intCast_add, List.map_singleton, List.sum_singleton]
    congr 1
    exact mx_den
theorem Bst.of {ws ps lot : List Int} {a : Int} {q : Rat} (hl : ps.length = ws.length) (hp : ∀ w ∈ ws, 1 ≤ w) (ha : 1 ≤ a) (hlot : lot = castL ((List.range ps.length).filter fun t => decide (q.num < ps.getD t 0 * q.den)))
    (hq : wpsum ws ps lot * q.den = q.num * (a + wsum ws lot)) : Bst ws a ps lot q := by
  refine ⟨⟨fun t ht => ?_, cast_pos (by omega), ?_⟩, hlot⟩
  · refine cast_pos ?_
    have := hp _ (List.getElem_mem (show t < ws.length by omega))
    rw [getD_get _ _ _ (by omega)]
    omega
  · have h1 := G_den (ws := ws) (ps := ps) (q := q) ps.length
    rw [sum_ifC] at h1
    have h2 : (((List.range ps.length).filter fun t => decide (q.num < ps.getD t 0 * q.den)).map fun t => ws.getD t 0 * (ps.getD t 0 * q.den - q.num)).sum = a * q.num := by
      have h3 := lin_sumC lot (fun t => ws.getD t.toNat 0) (fun t => ps.getD t.toNat 0) q.den q.num
      have h4 : (lot.map fun t => ws.getD t.toNat 0 * (ps.getD t.toNat 0 * q.den - q.num)).sum = (((List.range ps.length).filter fun t => decide (q.num < ps.getD t 0 * q.den)).map fun t => ws.getD t 0 * (ps.getD t 0 * q.den - q.num)).sum := by
        conv => lhs; rw [hlot]
        unfold castL
        rw [List.map_map]
        rfl
      rw [← h4, h3]
      show wpsum ws ps lot * q.den - wsum ws lot * q.num = _
      rw [hq]
      grind
    rw [h2] at h1
    have hd : (0 : Rat) < (q.den : Rat) := by exact_mod_cast q.den_pos
    have h5 : G (fun t => mx (rt ws t) (rt ps t) q) ps.length * (q.den : Rat) = (a : Rat) * q * (q.den : Rat) := by
      rw [h1, Rat.mul_assoc, num_of, Rat.intCast_mul]
    apply Classical.byContradiction
    intro c
    have h6 : G (fun t => mx (rt ws t) (rt ps t) q) ps.length < (a : Rat) * q ∨ (a : Rat) * q < G (fun t => mx (rt ws t) (rt ps t) q) ps.length := by grind
    rcases h6 with h | h
    · have := Rat.mul_lt_mul_of_pos_right h hd
      grind
    · have := Rat.mul_lt_mul_of_pos_right h hd
      grind

--lib
/-! ### a season: worths by buyers b and seats s -/
theorem mx_shift {w p m z : Rat} : mx w (p - m) z = mx w p (m + z) := by
  unfold mx
  by_cases h : z < p - m
  · rw [if_pos h, if_pos (by grind)]
    congr 1
    grind
  · rw [if_neg h, if_neg (by grind)]
/-- the worths of a season with S seats and B buyers -/
structure Sea (w p : Nat → Rat) (n : Nat) (a : Rat) (W : Nat → Nat → Rat) (S B : Nat) : Prop where
  w0 : ∀ t, t < n → 0 < w t
  a0 : 0 < a
  zb : ∀ s, s ≤ S → W 0 s = 0
  zs : ∀ b, b ≤ B → W b 0 = 0
  st : ∀ b s, b < B → 1 ≤ s → s ≤ S → Root w (fun t => p t - (W b s - W b (s - 1))) n a (W (b + 1) s - W b s)
section
variable {w p : Nat → Rat} {n : Nat} {a : Rat} {W : Nat → Nat → Rat} {S B : Nat} {m m' r r' : Rat}
/-- what things gain above y -/
abbrev Fg (w p : Nat → Rat) (n : Nat) (y : Rat) : Rat := G (fun t => mx (w t) (p t) y) n
theorem root_F (h : Root w (fun t => p t - m) n a r) : Fg w p n (m + r) = a * r := by
  rw [← h.eq]
  refine G_congr fun t ht => ?_
  exact mx_shift.symm
theorem Fg_anti (w0 : ∀ t, t < n → 0 < w t) {x y : Rat} (h : x ≤ y) : Fg w p n y ≤ Fg w p n x := G_le fun t ht => mx_z (Rat.le_of_lt (w0 t ht)) h
theorem Fg_nn (w0 : ∀ t, t < n → 0 < w t) {y : Rat} : 0 ≤ Fg w p n y := by
  have := G_le (f := fun _ => 0) (g := fun t => mx (w t) (p t) y) (n := n) fun t ht => mx_nn (Rat.le_of_lt (w0 t ht))
  have e : G (fun _ => 0) n = 0 := by
    clear this w0
    induction n with
    | zero => rfl
    | succ n ih => rw [G_succ, ih, Rat.add_zero]
  rw [e] at this
  exact this
theorem mul_le_inv {x y : Rat} (ha : 0 < a) (h : a * x ≤ a * y) : x ≤ y := by
  apply Classical.byContradiction
  intro c
  have := mlt ha (show y < x by grind)
  grind
/-- a greater margin: the bar is greater, the rate is less -/
theorem bar_mono (h : Root w (fun t => p t - m) n a r) (h' : Root w (fun t => p t - m') n a r') (hm : m ≤ m') : m + r ≤ m' + r' ∧ r' ≤ r := by
  have e := root_F h
  have e' := root_F h'
  have h1 : m + r ≤ m' + r' := by
    apply Classical.byContradiction
    intro c
    have h2 := Fg_anti (p := p) h.w0 (show m' + r' ≤ m + r by grind)
    rw [e, e'] at h2
    have h3 := mul_le_inv h.a0 h2
    grind
  refine ⟨h1, ?_⟩
  have h2 := Fg_anti (p := p) h.w0 h1
  rw [e, e'] at h2
  exact mul_le_inv h.a0 h2
theorem G_zeroS (n : Nat) : G (fun _ => 0) n = 0 := by
  induction n with
  | zero => rfl
  | succ n ih => rw [G_succ, ih, Rat.add_zero]
namespace Sea
variable (h : Sea w p n a W S B)
include h
theorem rate_nn {b s : Nat} (hb : b < B) (h1 : 1 ≤ s) (hs : s ≤ S) : W b s ≤ W (b + 1) s := by
  have := (h.st b s hb h1 hs).nn
  grind
theorem nn : ∀ b, b ≤ B → ∀ s, s ≤ S → 0 ≤ W b s
  | 0, _, s, hs => by rw [h.zb s hs]; exact Rat.le_refl
  | b + 1, hb, s, hs => by
    by_cases h0 : s = 0
    · subst h0
      rw [h.zs _ hb]
      exact Rat.le_refl
    · have h1 := nn b (by omega) s hs
      have h2 := h.rate_nn (b := b) (by omega) (show 1 ≤ s by omega) hs
      grind
/-- one buyer more -/
theorem more_b {b s : Nat} (hb : b < B) (hs : s ≤ S) : W b s ≤ W (b + 1) s := by
  by_cases h0 : s = 0
  · subst h0
    rw [h.zs _ (by omega), h.zs _ (by omega)]
    exact Rat.le_refl
  · exact h.rate_nn hb (by omega) hs
/-- the margins fall with the seats, and rise with the buyers -/
theorem marg : ∀ b, b ≤ B → (∀ s, 1 ≤ s → s ≤ S → 0 ≤ W b s - W b (s - 1)) ∧ (∀ s, 1 ≤ s → s + 1 ≤ S → W b (s + 1) - W b s ≤ W b s - W b (s - 1)) ∧ (b < B → ∀ s, 1 ≤ s → s ≤ S → W b s - W b (s - 1) ≤ W (b + 1) s - W (b + 1) (s - 1))
  | 0, _ => by
    have z := h.zb
    refine ⟨fun s h1 hs => ?_, fun s h1 hs => ?_, fun hB s h1 hs => ?_⟩
    · rw [z _ hs, z _ (by omega)]; grind
    · rw [z _ hs, z _ (by omega), z _ (by omega)]; grind
    · have h3 := h.st 0 s hB h1 hs
      have n3 := h3.nn
      by_cases hs1 : s = 1
      · subst hs1
        have e1 := h.zs 1 (by omega)
        have e2 := h.zs 0 (by omega)
        simp only [Nat.sub_self, Nat.zero_add] at *
        rw [e1, e2]
        grind
      · have h4 := h.st 0 (s - 1) hB (by omega) (by omega)
        have e : W 0 s - W 0 (s - 1) ≤ W 0 (s - 1) - W 0 (s - 1 - 1) := by rw [z _ hs, z _ (by omega), z _ (by omega)]; grind
        have := (bar_mono h3 h4 e).2
        grind
  | b + 1, hb => by
    obtain ⟨i1, i2, i3⟩ := marg b (by omega)
    have i3 := i3 (by omega)
    have nn1 : ∀ s, 1 ≤ s → s ≤ S → 0 ≤ W (b + 1) s - W (b + 1) (s - 1) := fun s h1 hs => by
      have := i1 s h1 hs
      have := i3 s h1 hs
      grind
    have cc : ∀ s, 1 ≤ s → s + 1 ≤ S → W (b + 1) (s + 1) - W (b + 1) s ≤ W (b + 1) s - W (b + 1) (s - 1) := fun s h1 hs => by
      have r1 := h.st b (s + 1) (by omega) (by omega) hs
      have r2 := h.st b s (by omega) h1 (by omega)
      have e : W b (s + 1) - W b (s + 1 - 1) ≤ W b s - W b (s - 1) := by rw [Nat.add_sub_cancel]; exact i2 s h1 hs
      have := (bar_mono r1 r2 e).1
      rw [Nat.add_sub_cancel] at this
      have := i3 s h1 (by omega)
      grind
    refine ⟨nn1, cc, fun hB s h1 hs => ?_⟩
    have r1 := h.st (b + 1) s hB h1 hs
    by_cases hs1 : s = 1
    · subst hs1
      have e1 := h.zs (b + 1 + 1) (by omega)
      have e2 := h.zs (b + 1) (by omega)
      have := r1.nn
      simp only [Nat.sub_self] at *
      rw [e1, e2]
      grind
    · have r2 := h.st (b + 1) (s - 1) hB (by omega) (by omega)
      have e : W (b + 1) s - W (b + 1) (s - 1) ≤ W (b + 1) (s - 1) - W (b + 1) (s - 1 - 1) := by
        have := cc (s - 1) (by omega) (by omega)
        rw [Nat.sub_add_cancel h1] at this
        exact this
      have := (bar_mono r1 r2 e).2
      grind
/-- one seat more -/
theorem more_s {b s : Nat} (hb : b ≤ B) (hs : s + 1 ≤ S) : W b s ≤ W b (s + 1) := by
  have := (h.marg b hb).1 (s + 1) (by omega) hs
  rw [Nat.add_sub_cancel] at this
  grind
/-- the bar of a state -/
theorem bar_s {b s : Nat} (hb : b < B) (h1 : 1 ≤ s) (hs : s + 1 ≤ S) : W (b + 1) (s + 1) - W b s ≤ W (b + 1) s - W b (s - 1) := by
  have r1 := h.st b (s + 1) hb (by omega) hs
  have r2 := h.st b s hb h1 (by omega)
  have e : W b (s + 1) - W b (s + 1 - 1) ≤ W b s - W b (s - 1) := by rw [Nat.add_sub_cancel]; exact (h.marg b (by omega)).2.1 s h1 hs
  have := (bar_mono r1 r2 e).1
  rw [Nat.add_sub_cancel] at this
  grind
theorem bar_b {b s : Nat} (hb : b + 1 < B) (h1 : 1 ≤ s) (hs : s ≤ S) : W (b + 1) s - W b (s - 1) ≤ W (b + 1 + 1) s - W (b + 1) (s - 1) := by
  have r1 := h.st b s (by omega) h1 hs
  have r2 := h.st (b + 1) s hb h1 hs
  have := (bar_mono r1 r2 ((h.marg b (by omega)).2.2 (by omega) s h1 hs)).1
  grind
/-- no bar is above the greatest price -/
theorem bar_top {P : Rat} (hP : ∀ t, t < n → p t ≤ P) (hP0 : 0 ≤ P) : ∀ b, b ≤ B → (∀ s, 1 ≤ s → s ≤ S → W b s - W b (s - 1) ≤ P) ∧ (b < B → ∀ s, 1 ≤ s → s ≤ S → W (b + 1) s - W b (s - 1) ≤ P ∧ W (b + 1) s - W b s ≤ P) := by
  have one : ∀ b, b ≤ B → (∀ s, 1 ≤ s → s ≤ S → W b s - W b (s - 1) ≤ P) → b < B → ∀ s, 1 ≤ s → s ≤ S → W (b + 1) s - W b (s - 1) ≤ P ∧ W (b + 1) s - W b s ≤ P := fun b hb hm hB s h1 hs => by
    have r := h.st b s hB h1 hs
    have e := root_F r
    have hm := hm s h1 hs
    have hm0 := (h.marg b hb).1 s h1 hs
    have key : W b s - W b (s - 1) + (W (b + 1) s - W b s) ≤ P := by
      apply Classical.byContradiction
      intro c
      have z : Fg w p n (W b s - W b (s - 1) + (W (b + 1) s - W b s)) = 0 := by
        refine (G_congr (g := fun _ => 0) fun t ht => if_neg fun z => ?_).trans (G_zeroS n)
        have := hP t ht
        grind
      rw [z] at e
      have h2 : W (b + 1) s - W b s = 0 := by
        rcases Rat.mul_eq_zero.mp e.symm with h3 | h3
        · have := h.a0
          grind
        · exact h3
      grind
    grind
  intro b
  induction b with
  | zero =>
    intro hb
    have m0 : ∀ s, 1 ≤ s → s ≤ S → W 0 s - W 0 (s - 1) ≤ P := fun s h1 hs => by
      rw [h.zb s hs, h.zb (s - 1) (by omega)]
      grind
    exact ⟨m0, one 0 hb m0⟩
  | succ b ih =>
    intro hb
    obtain ⟨m1, m2⟩ := ih (by omega)
    have m3 : ∀ s, 1 ≤ s → s ≤ S → W (b + 1) s - W (b + 1) (s - 1) ≤ P := fun s h1 hs => by
      have g1 := (m2 (by omega) s h1 hs).1
      have g2 := h.more_b (b := b) (s := s - 1) (by omega) (by omega)
      grind
    exact ⟨m3, one (b + 1) hb m3⟩
/-- the worth is at most the seats times the greatest price, and at most the buyers times it -/
theorem top_s {P : Rat} (hP : ∀ t, t < n → p t ≤ P) (hP0 : 0 ≤ P) {b : Nat} (hb : b ≤ B) : ∀ s, s ≤ S → W b s ≤ (s : Rat) * P
  | 0, _ => by
    rw [h.zs b hb]
    have : ((0 : Nat) : Rat) * P = 0 := Rat.zero_mul P
    grind
  | s + 1, hs => by
    have i := top_s hP hP0 hb s (by omega)
    have g := (h.bar_top hP hP0 b hb).1 (s + 1) (by omega) hs
    rw [Nat.add_sub_cancel] at g
    have e : ((s + 1 : Nat) : Rat) * P = (s : Rat) * P + P := by
      rw [show ((s + 1 : Nat) : Rat) = (s : Rat) + 1 from Rat.natCast_add s 1, Rat.add_mul, Rat.one_mul]
    grind
theorem top_b {P : Rat} (hP : ∀ t, t < n → p t ≤ P) (hP0 : 0 ≤ P) {s : Nat} (hs : s ≤ S) : ∀ b, b ≤ B → W b s ≤ (b : Rat) * P
  | 0, _ => by
    rw [h.zb s hs]
    have : ((0 : Nat) : Rat) * P = 0 := Rat.zero_mul P
    grind
  | b + 1, hb => by
    have i := top_b hP hP0 hs b (by omega)
    have e : ((b + 1 : Nat) : Rat) * P = (b : Rat) * P + P := by
      rw [show ((b + 1 : Nat) : Rat) = (b : Rat) + 1 from Rat.natCast_add b 1, Rat.add_mul, Rat.one_mul]
    by_cases h0 : s = 0
    · subst h0
      rw [h.zs _ (by omega)] at i ⊢
      grind
    · have g := ((h.bar_top hP hP0 b (by omega)).2 (by omega) s (by omega) hs).2
      grind
/-- enough seats: each buyer brings the best worth -/
theorem enough {z : Rat} (r : Root w p n a z) : ∀ b, b ≤ B → ∀ s, s ≤ S → b ≤ s → W b s = (b : Rat) * z
  | 0, _, s, hs, _ => by
    rw [h.zb s hs]
    have : ((0 : Nat) : Rat) * z = 0 := Rat.zero_mul z
    grind
  | b + 1, hb, s, hs, hbs => by
    have i1 := enough r b (by omega) s hs (by omega)
    have i2 := enough r b (by omega) (s - 1) (by omega) (by omega)
    have e : ((b + 1 : Nat) : Rat) * z = (b : Rat) * z + z := by
      rw [show ((b + 1 : Nat) : Rat) = (b : Rat) + 1 from Rat.natCast_add b 1, Rat.add_mul, Rat.one_mul]
    have r2 := h.st b s (by omega) (by omega) hs
    rw [i1, i2] at r2
    have r3 : Root w p n a (W (b + 1) s - (b : Rat) * z) := ⟨r2.w0, r2.a0, by
      rw [← r2.eq]
      refine G_congr fun t ht => ?_
      show mx (w t) (p t) _ = mx (w t) (p t - ((b : Rat) * z - (b : Rat) * z)) _
      rw [show p t - ((b : Rat) * z - (b : Rat) * z) = p t by grind]⟩
    have := r3.uq r
    grind
end Sea
end

--lib
/-! ### fractions over a bottom -/
/-- q times D is whole -/
def Ov (q : Rat) (D : Int) : Prop := ∃ A : Int, q * (D : Rat) = (A : Rat)
section
variable {q r : Rat} {D E : Int}
theorem Ov.int (i : Int) : Ov (i : Rat) D := ⟨i * D, by rw [Rat.intCast_mul]⟩
theorem Ov.zero : Ov 0 D := ⟨0, Rat.zero_mul _⟩
theorem Ov.add (h : Ov q D) (g : Ov r D) : Ov (q + r) D := by
  obtain ⟨A, h⟩ := h
  obtain ⟨B, g⟩ := g
  exact ⟨A + B, by rw [Rat.add_mul, h, g, Rat.intCast_add]⟩
theorem Ov.neg (h : Ov q D) : Ov (-q) D := by
  obtain ⟨A, h⟩ := h
  exact ⟨-A, by rw [Rat.neg_mul, h, Rat.intCast_neg]⟩
theorem Ov.sub (h : Ov q D) (g : Ov r D) : Ov (q - r) D := by
  rw [Rat.sub_eq_add_neg]
  exact h.add g.neg
theorem Ov.mulI (h : Ov q D) (i : Int) : Ov ((i : Rat) * q) D := by
  obtain ⟨A, h⟩ := h
  exact ⟨i * A, by rw [Rat.mul_assoc, h, Rat.intCast_mul]⟩
theorem Ov.up (h : Ov q D) (E : Int) : Ov q (D * E) := by
  obtain ⟨A, h⟩ := h
  exact ⟨A * E, by rw [Rat.intCast_mul, ← Rat.mul_assoc, h, Rat.intCast_mul]⟩
theorem Ov.dvd (h : Ov q D) {E : Int} (hd : D ∣ E) : Ov q E := by
  obtain ⟨F, rfl⟩ := hd
  exact h.up F
theorem Ov.div (h : Ov q D) {T : Int} (hT : T ≠ 0) : Ov (q / (T : Rat)) (D * T) := by
  obtain ⟨A, h⟩ := h
  have hT' : (T : Rat) ≠ 0 := fun z => hT (by exact_mod_cast z)
  refine ⟨A, ?_⟩
  rw [Rat.intCast_mul, Rat.mul_comm (D : Rat), ← Rat.mul_assoc, Rat.div_mul_cancel hT', h]
/-- its numbers are small -/
theorem Ov.szA (h : Ov q D) (hD : 0 < D) {n : Nat} (hn : ∀ A : Int, q * (D : Rat) = (A : Rat) → A.natAbs < 2 ^ n) (hd : D.natAbs < 2 ^ n) : q.num.natAbs < 2 ^ n ∧ q.den < 2 ^ n := by
  obtain ⟨A, h⟩ := h
  have hA := hn A h
  have hD' : (D : Rat) ≠ 0 := fun z => by have : D = 0 := by exact_mod_cast z
                                          omega
  have e : q * (D : Rat) * (q.den : Rat) = (A : Rat) * (q.den : Rat) := by rw [h]
  have hq := num_of q
  have e2 : ((q.num * D : Int) : Rat) = ((A * q.den : Int) : Rat) := by
    rw [Rat.intCast_mul, Rat.intCast_mul, ← hq]
    show q * (q.den : Rat) * (D : Rat) = (A : Rat) * (q.den : Rat)
    rw [← e]
    grind
  have e3 : q.num * D = A * q.den := by exact_mod_cast e2
  have hdvd : q.den ∣ D.natAbs := by
    have c : Nat.Coprime q.den q.num.natAbs := Nat.Coprime.symm q.reduced
    have : q.den ∣ q.num.natAbs * D.natAbs := by
      rw [← Int.natAbs_mul, e3, Int.natAbs_mul, Int.natAbs_natCast]
      exact Nat.dvd_mul_left _ _
    exact c.dvd_of_dvd_mul_left this
  have hle : q.den ≤ D.natAbs := Nat.le_of_dvd (by omega) hdvd
  refine ⟨?_, by omega⟩
  have h1 : q.num.natAbs * D.natAbs = A.natAbs * q.den := by rw [← Int.natAbs_mul, e3, Int.natAbs_mul, Int.natAbs_natCast]
  have h2 : q.num.natAbs * D.natAbs ≤ A.natAbs * D.natAbs := by rw [h1]; exact Nat.mul_le_mul_left _ hle
  have h3 : q.num.natAbs ≤ A.natAbs := Nat.le_of_mul_le_mul_right h2 (by omega)
  omega
theorem Ov.sz (h : Ov q D) (hD : 0 < D) {n u : Nat} {B : Int} (h1 : -(B : Rat) ≤ q) (h2 : q ≤ (B : Rat)) (hB : B.natAbs < 2 ^ u) (hd : D.natAbs < 2 ^ n) : q.num.natAbs < 2 ^ (n + u) ∧ q.den < 2 ^ (n + u) := by
  refine h.szA hD (fun A hA => ?_) (Nat.lt_of_lt_of_le hd (Nat.pow_le_pow_right (by decide) (by omega)))
  have hD0 : (0 : Rat) ≤ (D : Rat) := by
    have : (0 : Int) ≤ D := by omega
    exact_mod_cast this
  have g1 := Rat.mul_le_mul_of_nonneg_right h1 hD0
  have g2 := Rat.mul_le_mul_of_nonneg_right h2 hD0
  rw [hA, Rat.neg_mul, ← Rat.intCast_mul, ← Rat.intCast_neg] at g1
  rw [hA, ← Rat.intCast_mul] at g2
  have g1' : -(B * D) ≤ A := by exact_mod_cast g1
  have g2' : A ≤ B * D := by exact_mod_cast g2
  have g3 : A.natAbs ≤ (B * D).natAbs := by omega
  rw [Int.natAbs_mul] at g3
  have g4 : B.natAbs * D.natAbs < 2 ^ u * 2 ^ n := Nat.mul_lt_mul'' hB hd
  rw [Nat.add_comm, Nat.pow_add]
  omega
end
/-! ### the dearest things first, prices fractions -/
theorem wk_rat (f : Nat → Rat) : Wk (fun a b => f a < f b) := ⟨fun h => by grind, fun h g => by grind⟩
def ltQ (qs : List Rat) : Nat → Nat → Prop := fun a b => qs.getD a 0 < qs.getD b 0
/-- the same order by another way to tell what is dearer -/
theorem DOrd.congr {lt lt' : Nat → Nat → Prop} {n : Nat} {os : List Nat} (d : DOrd lt n os) (h : ∀ a b, a < n → b < n → (lt a b ↔ lt' a b)) : DOrd lt' n os :=
  ⟨d.perm, d.srt.imp_of_mem fun {a b} ha hb g => by
    have h1 := h a b (d.lt ha) (d.lt hb)
    have h2 := h b a (d.lt hb) (d.lt ha)
    unfold Ahd at *
    rw [← h1, ← h2]
    exact g⟩
/-- weights times prices -/
def brQ (ws : List Int) (qs : List Rat) (os : List Nat) : Rat := (os.map fun t => rt ws t * qs.getD t 0).sum
theorem sum_appQ (l r : List Rat) : (l ++ r).sum = l.sum + r.sum := by
  induction l with
  | nil => rw [List.nil_append]; show _ = 0 + _; rw [Rat.zero_add]
  | cons a l ih => rw [List.cons_append, List.sum_cons, List.sum_cons, ih, Rat.add_assoc]
theorem brQ_snoc (ws : List Int) (qs : List Rat) (os : List Nat) (t : Nat) : brQ ws qs (os ++ [t]) = brQ ws qs os + rt ws t * qs.getD t 0 := by
  unfold brQ
  rw [List.map_append, sum_appQ]
  congr 1
  show rt ws t * qs.getD t 0 + 0 = _
  rw [Rat.add_zero]
theorem sumQ_perm {l r : List Rat} (h : l.Perm r) : l.sum = r.sum := by
  induction h with
  | nil => rfl
  | cons x _ ih => rw [List.sum_cons, List.sum_cons, ih]
  | swap x y l => simp only [List.sum_cons]; grind
  | trans _ _ h1 h2 => exact h1.trans h2
theorem wsum_nat (ws : List Int) (os : List Nat) : ((wsum ws (castL os) : Int) : Rat) = (os.map fun t => rt ws t).sum := by
  induction os with
  | nil => rfl
  | cons t r ih =>
    have e : wsum ws (castL (t :: r)) = ws.getD t 0 + wsum ws (castL r) := by unfold wsum; simp
    rw [e, Rat.intCast_add, ih, List.map_cons, List.sum_cons]
theorem sum_gain (ws : List Int) (qs : List Rat) (y : Rat) : ∀ os : List Nat, (os.map fun t => rt ws t * (qs.getD t 0 - y)).sum = brQ ws qs os - y * (os.map fun t => rt ws t).sum
  | [] => by show (0 : Rat) = 0 - y * 0; grind
  | t :: r => by
    have ih := sum_gain ws qs y r
    unfold brQ at *
    simp only [List.map_cons, List.sum_cons]
    rw [ih]
    grind
theorem root_of {ws : List Int} {qs : List Rat} {os : List Nat} {lt : Nat → Nat → Prop} {n i : Nat} {a : Int} {y : Rat} (d : DOrd lt n os) (hw : ∀ t, t < n → 0 < rt ws t) (ha : 0 < a) (hlow : ∀ t ∈ os.take i, y < qs.getD t 0) (hup : ∀ t ∈ os.drop i, qs.getD t 0 ≤ y)
    (hy : y * ((a + wsum ws (castL (os.take i)) : Int) : Rat) = brQ ws qs (os.take i)) : Root (rt ws) (fun t => qs.getD t 0) n (a : Rat) y := by
  refine ⟨hw, cast_pos ha, ?_⟩
  show ((List.range n).map fun t => mx (rt ws t) (qs.getD t 0) y).sum = _
  rw [sumQ_perm (d.perm.symm.map _)]
  conv => lhs; rw [← List.take_append_drop i os]
  rw [List.map_append, sum_appQ]
  have e1 : ((os.take i).map fun t => mx (rt ws t) (qs.getD t 0) y) = (os.take i).map fun t => rt ws t * (qs.getD t 0 - y) := List.map_congr_left fun t ht => if_pos (hlow t ht)
  have e2 : ((os.drop i).map fun t => mx (rt ws t) (qs.getD t 0) y) = (os.drop i).map fun _ => (0 : Rat) := List.map_congr_left fun t ht => if_neg (by have := hup t ht; grind)
  have e3 : ∀ l : List Nat, (l.map fun _ => (0 : Rat)).sum = 0 := fun l => by
    induction l with
    | nil => rfl
    | cons a l ih => rw [List.map_cons, List.sum_cons, ih, Rat.add_zero]
  rw [e1, e2, e3, Rat.add_zero, sum_gain, ← hy, Rat.intCast_add, wsum_nat]
  grind
/-- one thing more -/
theorem low_stepQ {B w p : Rat} {T : Rat} {qs : List Rat} {os : List Nat} {t : Nat} (hT : 0 < T) (hw : 0 < w) (hp : p = qs.getD t 0) (ht : B / T < p) (hord : ∀ s ∈ os, p ≤ qs.getD s 0) : ∀ s ∈ os ++ [t], (B + w * p) / (T + w) < qs.getD s 0 := by
  have hT0 : T ≠ 0 := by grind
  have hTw : T + w ≠ 0 := by grind
  have h1 : B < p * T := by
    have := Rat.mul_lt_mul_of_pos_right ht hT
    rwa [Rat.div_mul_cancel hT0] at this
  have h2 : (B + w * p) / (T + w) < p := by
    apply Classical.byContradiction
    intro c
    have h3 : p ≤ (B + w * p) / (T + w) := by grind
    have h4 := Rat.mul_le_mul_of_nonneg_right h3 (show (0 : Rat) ≤ T + w by grind)
    rw [Rat.div_mul_cancel hTw, Rat.mul_add] at h4
    grind
  intro s hs
  rcases List.mem_append.mp hs with hs | hs
  · have := hord s hs
    grind
  · rw [List.mem_singleton] at hs
    subst hs
    rw [← hp]
    exact h2
theorem ahd_leQ {qs : List Rat} {s t : Nat} (h : Ahd (ltQ qs) s t) : qs.getD t 0 ≤ qs.getD s 0 := by
  unfold Ahd ltQ at h
  rcases h with h | h
  · exact Rat.le_of_lt h
  · grind
/-- how great a sum of weights times prices is -/
theorem mul_bd {w q W P : Rat} (h0 : 0 ≤ w) (h1 : w ≤ W) (h2 : -P ≤ q) (h3 : q ≤ P) (hP : 0 ≤ P) : -(W * P) ≤ w * q ∧ w * q ≤ W * P := by
  have a1 := Rat.mul_le_mul_of_nonneg_left h3 h0
  have a2 := Rat.mul_le_mul_of_nonneg_right h1 hP
  have a3 := Rat.mul_le_mul_of_nonneg_left h2 h0
  rw [Rat.mul_neg] at a3
  constructor
  · grind
  · grind
theorem brQ_bd {ws : List Int} {qs : List Rat} {W P : Int} (hP : 0 ≤ P) : ∀ {os : List Nat}, (∀ t ∈ os, 0 ≤ ws.getD t 0 ∧ ws.getD t 0 ≤ W) → (∀ t ∈ os, -(P : Rat) ≤ qs.getD t 0 ∧ qs.getD t 0 ≤ (P : Rat)) → -(((os.length * (W * P) : Int)) : Rat) ≤ brQ ws qs os ∧ brQ ws qs os ≤ ((os.length * (W * P) : Int) : Rat)
  | [], _, _ => by
    have e : ((([] : List Nat).length * (W * P) : Int)) = 0 := by simp
    rw [e]
    show -(0 : Rat) ≤ 0 ∧ (0 : Rat) ≤ 0
    grind
  | t :: r, hw, hq => by
    obtain ⟨i1, i2⟩ := brQ_bd (ws := ws) (qs := qs) (W := W) (P := P) hP (os := r) (fun t ht => hw t (List.mem_cons_of_mem _ ht)) (fun t ht => hq t (List.mem_cons_of_mem _ ht))
    obtain ⟨w0, w1⟩ := hw t List.mem_cons_self
    obtain ⟨q0, q1⟩ := hq t List.mem_cons_self
    have w0' : (0 : Rat) ≤ rt ws t := by show (0 : Rat) ≤ ((ws.getD t 0 : Int) : Rat); exact_mod_cast w0
    have w1' : rt ws t ≤ (W : Rat) := by show ((ws.getD t 0 : Int) : Rat) ≤ (W : Rat); exact_mod_cast w1
    obtain ⟨b1, b2⟩ := mul_bd w0' w1' q0 q1 (by exact_mod_cast hP)
    have e : (((t :: r).length * (W * P) : Int)) = r.length * (W * P) + W * P := by rw [List.length_cons]; push_cast; grind
    have e2 : brQ ws qs (t :: r) = rt ws t * qs.getD t 0 + brQ ws qs r := by unfold brQ; rw [List.map_cons, List.sum_cons]
    rw [e, e2, Rat.intCast_add, Rat.intCast_mul W P]
    constructor
    · grind
    · grind
theorem brQ_ov {ws : List Int} {qs : List Rat} {D : Int} : ∀ {os : List Nat}, (∀ t ∈ os, Ov (qs.getD t 0) D) → Ov (brQ ws qs os) D
  | [], _ => Ov.zero
  | t :: r, h => by
    have e2 : brQ ws qs (t :: r) = rt ws t * qs.getD t 0 + brQ ws qs r := by unfold brQ; rw [List.map_cons, List.sum_cons]
    rw [e2]
    exact ((h t List.mem_cons_self).mulI _).add (brQ_ov fun s hs => h s (List.mem_cons_of_mem _ hs))

--lib
/-! ### lists of fractions: ints or Ratios -/
theorem RZ.nl {C : Addr} {H H' : Hp} {v : V} {q : Rat} {n : Nat} (h : RZ C H v q n) (e : Nl H H') : RZ C H' v q n := by
  cases h with
  | int h => exact .int h
  | rat h => exact .rat (h.nl e)
def RZL (C : Addr) (H : Hp) (xs : List V) (qs : List Rat) (b : Nat) : Prop := xs.length = qs.length ∧ ∀ i, i < qs.length → ∃ v, xs[i]? = some v ∧ RZ C H v (qs.getD i 0) b
theorem RZL.ex {C : Addr} {H H' : Hp} {xs : List V} {qs : List Rat} {b : Nat} (h : RZL C H xs qs b) (e : Ex H H') : RZL C H' xs qs b := ⟨h.1, fun i hi => by
  obtain ⟨v, h1, h2⟩ := h.2 i hi
  exact ⟨v, h1, h2.ex e⟩⟩
theorem RZL.ints {C : Addr} {H : Hp} {ps : List Int} {b : Nat} (h : ∀ p ∈ ps, p.natAbs < 2 ^ b) : RZL C H (ps.map V.int) (ps.map fun p : Int => (p : Rat)) b := ⟨by simp, fun i hi => by
  rw [List.length_map] at hi
  refine ⟨.int ps[i], by rw [List.getElem?_map, List.getElem?_eq_getElem hi]; rfl, ?_⟩
  rw [getD_get _ _ _ (by rw [List.length_map]; exact hi), List.getElem_map]
  exact .int (h _ (List.getElem_mem hi))⟩
theorem RL.rzl {C : Addr} {H : Hp} {xs : List V} {qs : List Rat} {b : Nat} (h : RL C H xs qs b) : RZL C H xs qs b := ⟨h.1, fun i hi => by
  obtain ⟨a, h1, h2⟩ := h.2 i hi
  exact ⟨.ref a, h1, .rat h2⟩⟩
theorem RZL.at {C : Addr} {H : Hp} {xs : List V} {qs : List Rat} {b i : Nat} (h : RZL C H xs qs b) (h1 : i < qs.length) : ∃ v, atI xs (i : Int) = some v ∧ RZ C H v (qs.getD i 0) b := by
  obtain ⟨v, g1, g2⟩ := h.2 i h1
  refine ⟨v, ?_, g2⟩
  have hl := h.1
  unfold atI ixN
  rw [if_pos (by omega), if_pos (by omega)]
  show xs[((i : Nat) : Int).toNat]? = _
  rw [Int.toNat_natCast]
  exact g1
section
variable {K : PySem.W.Frag} {C : Addr} {H : Hp} {Q : VK} {E E1 E2 E3 : XK} {x y : V} {a b : Addr} {q r : Rat} {n m : Nat} {i : Int} {f f1 : Rat → Rat → Rat} {fc fd : Rat → Rat → Bool}
/-- prices[t] -/
theorem u_ixZ {l : Addr} {xs : List V} {qs : List Rat} {b i : Nat} (hl : SqL K H l xs) (h : RZL C H xs qs b) (h1 : i < qs.length) (k : ∀ v, RZ C H v (qs.getD i 0) b → Q v H) : rIx K (.ref l) (.int (i : Nat)) H Q := by
  obtain ⟨v, h2, h3⟩ := h.at h1
  exact w_ixL hl h2 (k v h3)
theorem dec_cast {i j : Int} : decide (i < j) = decide ((i : Rat) < (j : Rat)) := decide_eq_decide.mpr (by constructor <;> intro h <;> exact_mod_cast h)
/-- x < y, both ints or Ratios -/
theorem u_ltZZ (hx : RZ C H x q n) (hy : RZ C H y r m) (hn : n ≤ 50000) (hm : m ≤ 50000) (k : Q (.bl (decide (q < r))) H) :
    rOO C (spCmp C fun q r => decide (q < r)) E x y H Q ∨ rOI C (spCmp C fun q r => decide (q < r)) E1 x y H Q ∨ rIO C (spCmp C fun q r => decide (r < q)) E2 x y H Q ∨ rI0 (fun i j => .bl (decide (i < j))) x y H Q := by
  cases hx with
  | rat hx =>
    cases hy with
    | rat hy => exact .inl (u_cOO hx hy k)
    | int hy => exact .inr (.inl (u_cOI hx hy hm k))
  | int hx =>
    cases hy with
    | rat hy => exact .inr (.inr (.inl (u_cIO hy hx hn k)))
    | int hy => exact .inr (.inr (.inr (w_I0 (by rw [dec_cast]; exact k))))
/-- x >= y, x a Ratio -/
theorem u_geRZ (hx : RN C H a q n) (hy : RZ C H y r m) (hm : m ≤ 50000) (k : Q (.bl (decide (r ≤ q))) H) :
    rOO C (spCmp C fun q r => decide (r ≤ q)) E (.ref a) y H Q ∨ rOI C (spCmp C fun q r => decide (r ≤ q)) E1 (.ref a) y H Q := by
  cases hy with
  | rat hy => exact .inl (u_cOO hx hy k)
  | int hy => exact .inr (u_cOI hx hy hm k)
/-- i * y -/
theorem u_mulIZ (hi : i.natAbs < 2 ^ m) (hy : RZ C H y q n) (hs : n + m + 1 ≤ 13400) (k : ∀ v H', Ex H H' → RZ C H' v ((i : Rat) * q) (n + m + 1) → Q v H') :
    rIO C (spRev C fun i q => i * q) E (.int i) y H Q ∨ rMulZ (.int i) y H Q := by
  cases hy with
  | rat hy => exact .inl (u_IO hy hi hs fun p H2 hn he hr => k _ H2 he (.rat hr))
  | int hy =>
    refine .inr (w_mulI (cm hi hy (by omega)) (k _ H (Ex.refl _) ?_))
    rw [← Rat.intCast_mul]
    exact .int (bt_mono (bt_mul hi hy) (by omega))
/-- x + y, x a Ratio -/
theorem u_addRZ (hx : RN C H a q n) (hy : RZ C H y r m) (hs : n + m + 1 ≤ 13400) (k : ∀ p H', Fr H p → Ex H H' → RN C H' p (q + r) (n + m + 1) → Q (.ref p) H') :
    rOO C (spBin C fun q r => q + r) E (.ref a) y H Q ∨ rOI C (spBin C fun q r => q + r) E1 (.ref a) y H Q := by
  cases hy with
  | rat hy => exact .inl (u_OO hx hy hs k)
  | int hy => exact .inr (u_OI hx hy hs k)
end

--lib
/-! ### a season's table -/
abbrev Wt (tb : List (List Rat)) : Nat → Nat → Rat := fun b s => (tb.getD b []).getD s 0
theorem getD_appL {α : Type} {l r : List α} {i : Nat} {d : α} (h : i < l.length) : (l ++ r).getD i d = l.getD i d := by
  rw [List.getD_eq_getElem?_getD, List.getElem?_append_left h, ← List.getD_eq_getElem?_getD]
theorem getD_end {α : Type} {l : List α} {x d : α} : (l ++ [x]).getD l.length d = x := by
  rw [List.getD_eq_getElem?_getD, List.getElem?_append_right (Nat.le_refl _), Nat.sub_self]
  rfl
theorem Wt_app {tb : List (List Rat)} {row : List Rat} {b s : Nat} (h : b < tb.length) : Wt (tb ++ [row]) b s = Wt tb b s := by
  show ((tb ++ [row]).getD b []).getD s 0 = _
  rw [getD_appL h]
theorem Wt_end {tb : List (List Rat)} {row : List Rat} {s : Nat} : Wt (tb ++ [row]) tb.length s = row.getD s 0 := by
  show ((tb ++ [row]).getD tb.length []).getD s 0 = _
  rw [getD_end]
section
variable {w p : Nat → Rat} {n : Nat} {a : Rat} {S b : Nat} {tb : List (List Rat)}
theorem Sea.snoc {row : List Rat} (h : Sea w p n a (Wt tb) S b) (hl : tb.length = b + 1) (hz : row.getD 0 0 = 0)
    (hr : ∀ s, 1 ≤ s → s ≤ S → Root w (fun t => p t - (Wt tb b s - Wt tb b (s - 1))) n a (row.getD s 0 - Wt tb b s)) : Sea w p n a (Wt (tb ++ [row])) S (b + 1) where
  w0 := h.w0
  a0 := h.a0
  zb := fun s hs => by rw [Wt_app (by omega)]; exact h.zb s hs
  zs := fun c hc => by
    by_cases e : c = b + 1
    · subst e
      rw [← hl, Wt_end]
      exact hz
    · rw [Wt_app (by omega)]
      exact h.zs c (by omega)
  st := fun c s hc h1 hs => by
    by_cases e : c = b
    · subst e
      rw [Wt_app (by omega), Wt_app (by omega)]
      have e2 : Wt (tb ++ [row]) (c + 1) s = row.getD s 0 := by rw [← hl, Wt_end]
      rw [e2]
      exact hr s h1 hs
    · rw [Wt_app (by omega), Wt_app (by omega), Wt_app (by omega)]
      exact h.st c s (by omega) h1 hs
theorem Sea.one (w0 : ∀ t, t < n → 0 < w t) (a0 : 0 < a) : Sea w p n a (Wt [List.replicate (S + 1) 0]) S 0 where
  w0 := w0
  a0 := a0
  zb := fun s hs => by
    show (List.replicate (S + 1) (0 : Rat)).getD s 0 = 0
    rw [List.getD_eq_getElem?_getD, List.getElem?_replicate]
    split <;> rfl
  zs := fun c hc => by
    have : c = 0 := by omega
    subst this
    rfl
  st := fun c s hc _ _ => by omega
end
/-- the totals of the first things; M is a common multiple of MB bits -/
structure CMl (ws : List Int) (a : Int) (os : List Nat) (M : Int) (MB : Nat) : Prop where
  M0 : 0 < M
  bt : M.natAbs < 2 ^ MB
  dv : ∀ k, k ≤ os.length → (a + wsum ws (castL (os.take k))) ∣ M
theorem pow_bt {M : Int} {MB : Nat} (h : M.natAbs < 2 ^ MB) : ∀ b : Nat, (M ^ b).natAbs < 2 ^ (b * MB + 1)
  | 0 => by rw [Int.pow_zero, Nat.zero_mul]; decide
  | b + 1 => by
    have i := pow_bt h b
    rw [Int.pow_succ, Int.natAbs_mul, show (b + 1) * MB + 1 = (b * MB + 1) + MB by rw [Nat.add_mul]; omega, Nat.pow_add]
    exact Nat.mul_lt_mul'' i h
/-- there is such an M -/
theorem mul_ex {ws : List Int} {a : Int} {os : List Nat} {e : Nat} (h : ∀ k, k ≤ os.length → 1 ≤ a + wsum ws (castL (os.take k)) ∧ (a + wsum ws (castL (os.take k))).natAbs < 2 ^ e) : ∃ M, CMl ws a os M ((os.length + 1) * e + 1) := by
  have go : ∀ m, m ≤ os.length + 1 → ∃ M : Int, 0 < M ∧ M.natAbs < 2 ^ (m * e + 1) ∧ ∀ k, k < m → (a + wsum ws (castL (os.take k))) ∣ M := fun m => by
    induction m with
    | zero => exact fun _ => ⟨1, by decide, by rw [Nat.zero_mul]; decide, fun k hk => by omega⟩
    | succ m ih =>
      intro hm
      obtain ⟨M, h1, h2, h3⟩ := ih (by omega)
      obtain ⟨t1, t2⟩ := h m (by omega)
      refine ⟨M * (a + wsum ws (castL (os.take m))), Int.mul_pos h1 (by omega), ?_, fun k hk => ?_⟩
      · rw [Int.natAbs_mul, show (m + 1) * e + 1 = (m * e + 1) + e by rw [Nat.add_mul]; omega, Nat.pow_add]
        exact Nat.mul_lt_mul'' h2 t2
      · by_cases e' : k = m
        · subst e'
          exact Int.dvd_mul_left _ _
        · exact Int.dvd_trans (h3 k (by omega)) (Int.dvd_mul_right _ _)
  obtain ⟨M, h1, h2, h3⟩ := go (os.length + 1) (Nat.le_refl _)
  exact ⟨M, h1, h2, fun k hk => h3 k (by omega)⟩
/-- the price less the margin -/
abbrev lessM (ps : List Int) (m : Rat) : List Rat := ps.map fun p : Int => (p : Rat) - m
theorem lessM_get {ps : List Int} {m : Rat} {t : Nat} (h : t < ps.length) : (lessM ps m).getD t 0 = rt ps t - m := by
  show (ps.map fun p : Int => (p : Rat) - m).getD t 0 = _
  rw [getD_get _ _ _ (by rw [List.length_map]; exact h), List.getElem_map]
  show _ = ((ps.getD t 0 : Int) : Rat) - m
  rw [getD_get ps _ _ h]
/-- the order does not hang on the margin -/
theorem ord_less {ps : List Int} {m : Rat} {os os' : List Nat} (d : DOrd (ltI ps) ps.length os) (d' : DOrd (ltQ (lessM ps m)) (lessM ps m).length os') : os' = os := by
  rw [List.length_map] at d'
  refine dord_uq (ps := ps) (d'.congr fun x y hx hy => ?_) d
  show (lessM ps m).getD x 0 < (lessM ps m).getD y 0 ↔ ps.getD x 0 < ps.getD y 0
  rw [lessM_get hx, lessM_get hy]
  show ((ps.getD x 0 : Int) : Rat) - m < ((ps.getD y 0 : Int) : Rat) - m ↔ _
  have e : ((ps.getD x 0 : Int) : Rat) < ((ps.getD y 0 : Int) : Rat) ↔ ps.getD x 0 < ps.getD y 0 := by
    constructor <;> intro z <;> exact_mod_cast z
  rw [← e]
  constructor <;> intro z <;> grind

--lib
/-! ### a season as an object -/
/-- a row of worths -/
def TbR (C : Addr) (H : Hp) (rows : List V) (tb : List (List Rat)) (MB : Nat) : Prop := rows.length = tb.length ∧ ∀ i, i < tb.length → ∃ r xs, rows[i]? = some (.ref r) ∧ At H r (.lst xs) ∧ RL C H xs (tb.getD i []) (i * MB + 70)
/-- a row of bars -/
def BarR (C : Addr) (H : Hp) (xs : List V) (tb : List (List Rat)) (S i MB : Nat) : Prop := xs.length = S + 1 ∧ ∀ s, s ≤ S → if i = 0 ∨ s = 0 then xs[s]? = some .non else ∃ r, xs[s]? = some (.ref r) ∧ RN C H r (Wt tb i s - Wt tb (i - 1) (s - 1)) (i * MB + 70)
def TbB (C : Addr) (H : Hp) (rows : List V) (tb : List (List Rat)) (S MB : Nat) : Prop := rows.length = tb.length ∧ ∀ i, i < tb.length → ∃ r xs, rows[i]? = some (.ref r) ∧ At H r (.lst xs) ∧ BarR C H xs tb S i MB
theorem TbR.ex {C : Addr} {H H' : Hp} {rows : List V} {tb : List (List Rat)} {MB : Nat} (h : TbR C H rows tb MB) (e : Ex H H') : TbR C H' rows tb MB := ⟨h.1, fun i hi => by
  obtain ⟨r, xs, h1, h2, h3⟩ := h.2 i hi
  exact ⟨r, xs, h1, e.get h2, h3.ex e⟩⟩
theorem BarR.ex {C : Addr} {H H' : Hp} {xs : List V} {tb : List (List Rat)} {S i MB : Nat} (h : BarR C H xs tb S i MB) (e : Ex H H') : BarR C H' xs tb S i MB := ⟨h.1, fun s hs => by
  have := h.2 s hs
  split at this
  · rename_i c
    rw [if_pos c]; exact this
  · rename_i c
    rw [if_neg c]
    obtain ⟨r, h1, h2⟩ := this
    exact ⟨r, h1, h2.ex e⟩⟩
theorem BarR.nl {C : Addr} {H H' : Hp} {xs : List V} {tb : List (List Rat)} {S i MB : Nat} (h : BarR C H xs tb S i MB) (e : Nl H H') : BarR C H' xs tb S i MB := ⟨h.1, fun s hs => by
  have := h.2 s hs
  split at this
  · rename_i c
    rw [if_pos c]; exact this
  · rename_i c
    rw [if_neg c]
    obtain ⟨r, h1, h2⟩ := this
    exact ⟨r, h1, h2.nl e⟩⟩
theorem TbB.ex {C : Addr} {H H' : Hp} {rows : List V} {tb : List (List Rat)} {S MB : Nat} (h : TbB C H rows tb S MB) (e : Ex H H') : TbB C H' rows tb S MB := ⟨h.1, fun i hi => by
  obtain ⟨r, xs, h1, h2, h3⟩ := h.2 i hi
  exact ⟨r, xs, h1, e.get h2, h3.ex e⟩⟩
/-- a list that is not in the table changes -/
theorem TbR.mut {C : Addr} {H H' : Hp} {rows : List V} {tb : List (List Rat)} {MB : Nat} {l : Addr} (h : TbR C H rows tb MB) (hn : Nl H H') (ho : ∀ b o, b ≠ l → At H b o → At H' b o) (hl : V.ref l ∉ rows) : TbR C H' rows tb MB := ⟨h.1, fun i hi => by
  obtain ⟨r, xs, h1, h2, h3⟩ := h.2 i hi
  exact ⟨r, xs, h1, ho r _ (fun z => hl (by rw [← z]; exact List.mem_of_getElem? h1)) h2, h3.nl hn⟩⟩
theorem TbB.mut {C : Addr} {H H' : Hp} {rows : List V} {tb : List (List Rat)} {S MB : Nat} {l : Addr} (h : TbB C H rows tb S MB) (hn : Nl H H') (ho : ∀ b o, b ≠ l → At H b o → At H' b o) (hl : V.ref l ∉ rows) : TbB C H' rows tb S MB := ⟨h.1, fun i hi => by
  obtain ⟨r, xs, h1, h2, h3⟩ := h.2 i hi
  exact ⟨r, xs, h1, ho r _ (fun z => hl (by rw [← z]; exact List.mem_of_getElem? h1)) h2, h3.nl hn⟩⟩
theorem TbR.snoc {C : Addr} {H : Hp} {rows xs : List V} {tb : List (List Rat)} {row : List Rat} {MB : Nat} {r : Addr} (h : TbR C H rows tb MB) (h1 : At H r (.lst xs)) (h2 : RL C H xs row (tb.length * MB + 70)) : TbR C H (rows ++ [.ref r]) (tb ++ [row]) MB := ⟨by simp [h.1], fun i hi => by
  rw [List.length_append, List.length_singleton] at hi
  by_cases e : i < tb.length
  · obtain ⟨r', xs', g1, g2, g3⟩ := h.2 i e
    exact ⟨r', xs', by rw [List.getElem?_append_left (by rw [h.1]; exact e)]; exact g1, g2, by rw [getD_appL e]; exact g3⟩
  · have ei : i = tb.length := by omega
    subst ei
    exact ⟨r, xs, by rw [← h.1]; simp, h1, by rw [getD_end]; exact h2⟩⟩
theorem BarR.app {C : Addr} {H : Hp} {xs : List V} {tb : List (List Rat)} {row : List Rat} {S i MB : Nat} (h : BarR C H xs tb S i MB) (hi : i < tb.length) : BarR C H xs (tb ++ [row]) S i MB := ⟨h.1, fun s hs => by
  have := h.2 s hs
  rw [Wt_app hi, Wt_app (by omega)]
  exact this⟩
theorem TbB.snoc {C : Addr} {H : Hp} {rows xs : List V} {tb : List (List Rat)} {row : List Rat} {S MB : Nat} {r : Addr} (h : TbB C H rows tb S MB) (h1 : At H r (.lst xs)) (h2 : BarR C H xs (tb ++ [row]) S tb.length MB) : TbB C H (rows ++ [.ref r]) (tb ++ [row]) S MB := ⟨by simp [h.1], fun i hi => by
  rw [List.length_append, List.length_singleton] at hi
  by_cases e : i < tb.length
  · obtain ⟨r', xs', g1, g2, g3⟩ := h.2 i e
    exact ⟨r', xs', by rw [List.getElem?_append_left (by rw [h.1]; exact e)]; exact g1, g2, g3.app e⟩
  · have ei : i = tb.length := by omega
    subst ei
    exact ⟨r, xs, by rw [← h.1]; simp, h1, h2⟩⟩
/-- the numbers of a season -/
structure SeaN (ws : List Int) (a : Int) (ps : List Int) (os : List Nat) (M : Int) (MB : Nat) : Prop where
  len : ps.length = ws.length
  le : ws.length ≤ 24
  wb : ∀ w ∈ ws, 1 ≤ w ∧ w < 2 ^ 60
  ab : 1 ≤ a ∧ a < 2 ^ 60
  pb : ∀ p ∈ ps, 0 ≤ p ∧ p < 2 ^ 60
  ord : DOrd (ltI ps) ps.length os
  mul : CMl ws a os M MB
/-- the table is right; b buyers are in it -/
structure SeaT (ws : List Int) (a : Int) (ps : List Int) (M : Int) (tb : List (List Rat)) (S b : Nat) : Prop where
  sea : Sea (rt ws) (rt ps) ps.length (a : Rat) (Wt tb) S b
  len : tb.length = b + 1
  row : ∀ i, i < tb.length → (tb.getD i []).length = S + 1
  ov : ∀ i, i ≤ b → ∀ s, s ≤ S → Ov (Wt tb i s) (M ^ i)
abbrev sF (r t : Addr) (S B : Int) (wl bl : Addr) : List (Str × V) := [("rule", .ref r), ("prices", .ref t), ("seats", .int S), ("buyers", .int B), ("_worths", .ref wl), ("_bars", .ref bl)]
/-- a Season stands at x -/
def SR (K : PySem.W.Frag) (H : Hp) (x : Addr) (ws : List Int) (a : Int) (ps : List Int) (S B : Nat) (tb : List (List Rat)) (MB : Nat) : Prop :=
  ∃ dx r t wl bl rows brows, At H x (.ins (He.ga K "Season") dx (sF r t S B wl bl)) ∧ WR K H r ws a ∧ At H t (.tup (ps.map V.int)) ∧ At H wl (.lst rows) ∧ At H bl (.lst brows) ∧ TbR (He.ga K "Ratio") H rows tb MB ∧ TbB (He.ga K "Ratio") H brows tb S MB ∧ tb.length = B + 1
theorem SR.ex {K : PySem.W.Frag} {H H' : Hp} {x : Addr} {ws : List Int} {a : Int} {ps : List Int} {S B : Nat} {tb : List (List Rat)} {MB : Nat} (h : SR K H x ws a ps S B tb MB) (e : Ex H H') : SR K H' x ws a ps S B tb MB := by
  obtain ⟨dx, r, t, wl, bl, rows, brows, h1, h2, h3, h4, h5, h6, h7, h8⟩ := h
  exact ⟨dx, r, t, wl, bl, rows, brows, e.get h1, h2.ex e, e.get h3, e.get h4, e.get h5, h6.ex e, h7.ex e, h8⟩
theorem atI_of {xs : List V} {i : Int} {v : V} (h0 : 0 ≤ i) (h : xs[i.toNat]? = some v) : atI xs i = some v := by
  have h1 : i.toNat < xs.length := (List.getElem?_eq_some_iff.mp h).1
  unfold atI ixN
  rw [if_pos h0, if_pos (by omega)]
  exact h
/-- an instance with other than two fields changes: Ratios stand -/
theorem RN.other {C D a x dx : Addr} {H H' : Hp} {q : Rat} {n : Nat} {fs : List (Str × V)} (h : RN C H a q n) (hx : At H x (.ins D dx fs)) (hl : fs.length ≠ 2) (ho : ∀ b o, b ≠ x → At H b o → At H' b o) : RN C H' a q n := by
  obtain ⟨dy, ha⟩ := h.at_
  refine ⟨⟨dy, ho a _ (fun z => ?_) ha⟩, h.sz, h.le⟩
  subst z
  have := ha.inj hx
  injection this with _ _ e
  apply hl
  rw [← e]
  rfl
theorem RL.other {C D x dx : Addr} {H H' : Hp} {xs : List V} {qs : List Rat} {b : Nat} {fs : List (Str × V)} (h : RL C H xs qs b) (hx : At H x (.ins D dx fs)) (hl : fs.length ≠ 2) (ho : ∀ b o, b ≠ x → At H b o → At H' b o) : RL C H' xs qs b := ⟨h.1, fun i hi => by
  obtain ⟨a, h1, h2⟩ := h.2 i hi
  exact ⟨a, h1, h2.other hx hl ho⟩⟩

--lib
/-! ### laws of a season: the numbers -/
abbrev shown (ps : List Int) (y : Rat) : List Int := castL ((List.range ps.length).filter fun t => decide (y < rt ps t))
theorem wp_app {ws ps : List Int} (l r : List Int) : wpsum ws ps (l ++ r) = wpsum ws ps l + wpsum ws ps r := by unfold wpsum; simp
theorem w_app' {ws : List Int} (l r : List Int) : wsum ws (l ++ r) = wsum ws l + wsum ws r := by unfold wsum; simp
/-- what the things dearer than y gain -/
theorem F_shown {ws ps : List Int} {y : Rat} : ∀ n : Nat, G (fun t => mx (rt ws t) (rt ps t) y) n = ((wpsum ws ps (castL ((List.range n).filter fun t => decide (y < rt ps t))) : Int) : Rat) - y * ((wsum ws (castL ((List.range n).filter fun t => decide (y < rt ps t))) : Int) : Rat)
  | 0 => by show (0 : Rat) = ((0 : Int) : Rat) - y * ((0 : Int) : Rat); rw [show ((0 : Int) : Rat) = 0 from rfl]; grind
  | n + 1 => by
    rw [G_succ, F_shown n, List.range_succ, List.filter_append]
    by_cases h : y < rt ps n
    · have e : ([n].filter fun t => decide (y < rt ps t)) = [n] := by simp [h]
      rw [e]
      have e2 : castL (List.filter (fun t => decide (y < rt ps t)) (List.range n) ++ [n]) = castL (List.filter (fun t => decide (y < rt ps t)) (List.range n)) ++ [(n : Int)] := by simp [castL]
      rw [e2, wp_app, w_app']
      have e3 : wpsum ws ps [(n : Int)] = ws.getD n 0 * ps.getD n 0 := by unfold wpsum; simp
      have e4 : wsum ws [(n : Int)] = ws.getD n 0 := by unfold wsum; simp
      have e5 : mx (rt ws n) (rt ps n) y = rt ws n * (rt ps n - y) := if_pos h
      rw [e3, e4, e5, Rat.intCast_add, Rat.intCast_add, Rat.intCast_mul]
      show _ + ((ws.getD n 0 : Int) : Rat) * (((ps.getD n 0 : Int) : Rat) - y) = _
      grind
    · have e : ([n].filter fun t => decide (y < rt ps t)) = [] := by simp [h]
      have e5 : mx (rt ws n) (rt ps n) y = 0 := if_neg h
      rw [e, List.append_nil, e5, Rat.add_zero]
/-- no lot gains more -/
theorem F_any {ws ps lot : List Int} {y : Rat} {n : Nat} (hw : ∀ t, t < n → 0 < rt ws t) (hd : lot.Nodup) (hl : ∀ x ∈ lot, 0 ≤ x ∧ x < n) : ((wpsum ws ps lot : Int) : Rat) - y * ((wsum ws lot : Int) : Rat) ≤ G (fun t => mx (rt ws t) (rt ps t) y) n := by
  have e : ∀ l : List Int, ((wpsum ws ps l : Int) : Rat) - y * ((wsum ws l : Int) : Rat) = (l.map fun x => rt ws x.toNat * (rt ps x.toNat - y)).sum := fun l => by
    induction l with
    | nil => show ((0 : Int) : Rat) - y * ((0 : Int) : Rat) = 0; rw [show ((0 : Int) : Rat) = 0 from rfl]; grind
    | cons x r ih =>
      have e1 : wpsum ws ps (x :: r) = ws.getD x.toNat 0 * ps.getD x.toNat 0 + wpsum ws ps r := by unfold wpsum; simp
      have e2 : wsum ws (x :: r) = ws.getD x.toNat 0 + wsum ws r := by unfold wsum; simp
      rw [e1, e2, List.map_cons, List.sum_cons, ← ih, Rat.intCast_add, Rat.intCast_add, Rat.intCast_mul]
      show _ = ((ws.getD x.toNat 0 : Int) : Rat) * (((ps.getD x.toNat 0 : Int) : Rat) - y) + _
      grind
  rw [e]
  have h1 : (lot.map fun x => rt ws x.toNat * (rt ps x.toNat - y)).sum ≤ ((lot.map Int.toNat).map fun t => mx (rt ws t) (rt ps t) y).sum := by
    have : ∀ l : List Int, (∀ x ∈ l, 0 ≤ x ∧ x < n) → (l.map fun x => rt ws x.toNat * (rt ps x.toNat - y)).sum ≤ ((l.map Int.toNat).map fun t => mx (rt ws t) (rt ps t) y).sum := fun l => by
      induction l with
      | nil => intro _; exact Rat.le_refl
      | cons x r ih =>
        intro h
        have i := ih fun z hz => h z (List.mem_cons_of_mem _ hz)
        have hx := h x List.mem_cons_self
        have hwx := hw x.toNat (by omega)
        have k : rt ws x.toNat * (rt ps x.toNat - y) ≤ mx (rt ws x.toNat) (rt ps x.toNat) y := by
          unfold mx
          split
          · exact Rat.le_refl
          · rename_i c
            have := Rat.mul_le_mul_of_nonneg_left (show rt ps x.toNat - y ≤ 0 by grind) (Rat.le_of_lt hwx)
            rw [Rat.mul_zero] at this
            exact this
        simp only [List.map_cons, List.sum_cons]
        grind
    exact this lot hl
  refine Rat.le_trans h1 ?_
  have nd : (lot.map Int.toNat).Nodup := by
    rw [List.nodup_iff_pairwise_ne, List.pairwise_map]
    refine (List.nodup_iff_pairwise_ne.mp hd).imp_of_mem fun {a b} ha hb h => ?_
    have := hl a ha
    have := hl b hb
    omega
  have sub : ∀ x ∈ lot.map Int.toNat, x < n := fun x hx => by
    obtain ⟨z, hz, rfl⟩ := List.mem_map.mp hx
    have := hl z hz
    omega
  generalize lot.map Int.toNat = os at nd sub
  show _ ≤ ((List.range n).map fun t => mx (rt ws t) (rt ps t) y).sum
  have perm : ((List.range n).filter fun t => decide (t ∈ os)).Perm os := by
    refine (List.perm_ext_iff_of_nodup (List.nodup_range.sublist List.filter_sublist) nd).mpr fun t => ?_
    rw [List.mem_filter, List.mem_range, decide_eq_true_iff]
    exact ⟨fun h => h.2, fun h => ⟨sub t h, h⟩⟩
  rw [← sumQ_perm (perm.map _)]
  have gen : ∀ l : List Nat, (∀ t ∈ l, t < n) → ((l.filter fun t => decide (t ∈ os)).map fun t => mx (rt ws t) (rt ps t) y).sum ≤ (l.map fun t => mx (rt ws t) (rt ps t) y).sum := fun l => by
    induction l with
    | nil => intro _; exact Rat.le_refl
    | cons t r ih =>
      intro h
      have i := ih fun z hz => h z (List.mem_cons_of_mem _ hz)
      have h0 := mx_nn (w := rt ws t) (p := rt ps t) (z := y) (Rat.le_of_lt (hw t (h t List.mem_cons_self)))
      rw [List.filter_cons]
      split
      · rw [List.map_cons, List.sum_cons, List.map_cons, List.sum_cons]
        grind
      · rw [List.map_cons, List.sum_cons]
        grind
  exact gen _ fun t ht => List.mem_range.mp ht
/-- what a lot brings with the worths behind it -/
def stX (ws ps lot : List Int) (a t0 t1 l0 l1 : Int) : Int := wpsum ws ps lot * t1 * l1 + wsum ws lot * t0 * l1 + a * l0 * t1
def stY (ws lot : List Int) (a t1 l1 : Int) : Int := (a + wsum ws lot) * t1 * l1
theorem st_val {ws ps lot : List Int} {a : Int} (u v : Rat) : ((stX ws ps lot a u.num u.den v.num v.den : Int) : Rat) = (((wpsum ws ps lot : Int) : Rat) + u * ((wsum ws lot : Int) : Rat) + v * (a : Rat)) * ((u.den : Rat) * (v.den : Rat)) := by
  unfold stX
  have hu := num_of u
  have hv := num_of v
  simp only [Rat.intCast_add, Rat.intCast_mul]
  rw [← hu, ← hv]
  show _ * (u.den : Rat) * (v.den : Rat) + _ * (u * (u.den : Rat)) * (v.den : Rat) + _ * (v * (v.den : Rat)) * (u.den : Rat) = _
  generalize (u.den : Rat) = d
  generalize (v.den : Rat) = e
  grind
theorem st_bot {ws lot : List Int} {a : Int} (u v : Rat) : ((stY ws lot a u.den v.den : Int) : Rat) = ((a : Rat) + ((wsum ws lot : Int) : Rat)) * ((u.den : Rat) * (v.den : Rat)) := by
  unfold stY
  simp only [Rat.intCast_add, Rat.intCast_mul]
  show _ * (u.den : Rat) * (v.den : Rat) = _
  grind
section
variable {ws ps : List Int} {a : Int} {S B b s : Nat} {W : Nat → Nat → Rat}
/-- the state's worth, from the lot that is shown -/
theorem state_eq (h : Sea (rt ws) (rt ps) ps.length (a : Rat) W S B) (hb : b < B) (h1 : 1 ≤ s) (hs : s ≤ S) :
    ((wpsum ws ps (shown ps (W (b + 1) s - W b (s - 1))) : Int) : Rat) + W b (s - 1) * ((wsum ws (shown ps (W (b + 1) s - W b (s - 1))) : Int) : Rat) + W b s * (a : Rat) = W (b + 1) s * ((a : Rat) + ((wsum ws (shown ps (W (b + 1) s - W b (s - 1))) : Int) : Rat)) := by
  have r := h.st b s hb h1 hs
  have e := root_F r
  rw [show W b s - W b (s - 1) + (W (b + 1) s - W b s) = W (b + 1) s - W b (s - 1) by grind] at e
  rw [show Fg (rt ws) (rt ps) ps.length (W (b + 1) s - W b (s - 1)) = _ from F_shown ps.length] at e
  generalize ((wpsum ws ps _ : Int) : Rat) = X at *
  generalize ((wsum ws _ : Int) : Rat) = Y at *
  grind
/-- no lot brings more -/
theorem state_le (h : Sea (rt ws) (rt ps) ps.length (a : Rat) W S B) (hb : b < B) (h1 : 1 ≤ s) (hs : s ≤ S) {lot : List Int} (hd : lot.Nodup) (hl : ∀ x ∈ lot, 0 ≤ x ∧ x < ps.length) :
    ((wpsum ws ps lot : Int) : Rat) + W b (s - 1) * ((wsum ws lot : Int) : Rat) + W b s * (a : Rat) ≤ W (b + 1) s * ((a : Rat) + ((wsum ws lot : Int) : Rat)) := by
  have r := h.st b s hb h1 hs
  have e := root_F r
  rw [show W b s - W b (s - 1) + (W (b + 1) s - W b s) = W (b + 1) s - W b (s - 1) by grind] at e
  have g := F_any (ws := ws) (ps := ps) (y := W (b + 1) s - W b (s - 1)) h.w0 hd hl
  rw [show G (fun t => mx (rt ws t) (rt ps t) (W (b + 1) s - W b (s - 1))) ps.length = Fg (rt ws) (rt ps) ps.length (W (b + 1) s - W b (s - 1)) from rfl, e] at g
  generalize ((wpsum ws ps lot : Int) : Rat) = X at *
  generalize ((wsum ws lot : Int) : Rat) = Y at *
  grind
theorem eq_divI' {q : Rat} {X Y : Int} (hY : Y ≠ 0) (h : (X : Rat) = q * (Y : Rat)) : q = Rat.divInt X Y := by
  have hY' : (Y : Rat) ≠ 0 := fun z => hY (by exact_mod_cast z)
  rw [Rat.divInt_eq_div, h, Rat.mul_div_cancel hY']
end

--lib
/-! ### a choice: a rule by weights and prices -/
abbrev chF (r t : Addr) : List (Str × V) := [("rule", .ref r), ("prices", .ref t)]
/-- a Choice stands at x -/
def ChR (K : PySem.W.Frag) (H : Hp) (x : Addr) (ws : List Int) (a : Int) (ps : List Int) : Prop :=
  ∃ dx r t, At H x (.ins (He.ga K "Choice") dx (chF r t)) ∧ WR K H r ws a ∧ At H t (.tup (ps.map V.int)) ∧ ps.length = ws.length
theorem ChR.ex {K : PySem.W.Frag} {H H' : Hp} {x : Addr} {ws : List Int} {a : Int} {ps : List Int} (h : ChR K H x ws a ps) (e : Ex H H') : ChR K H' x ws a ps := by
  obtain ⟨dx, r, t, h1, h2, h3, h4⟩ := h
  exact ⟨dx, r, t, e.get h1, h2.ex e, e.get h3, h4⟩
theorem ChR.nl {K : PySem.W.Frag} {H H' : Hp} {x : Addr} {ws : List Int} {a : Int} {ps : List Int} (h : ChR K H x ws a ps) (e : Nl H H') : ChR K H' x ws a ps := by
  obtain ⟨dx, r, t, h1, h2, h3, h4⟩ := h
  exact ⟨dx, r, t, e.get (fun l z => by cases z) h1, h2.nl e, e.get (fun l z => by cases z) h3, h4⟩
/-- what a thing gains at a rate -/
abbrev gn (ws ps : List Int) (q : Rat) : Nat → Rat := fun t => rt ws t * (rt ps t - q)
abbrev gnL (ws ps : List Int) (q : Rat) (n : Nat) : List Rat := (List.range n).map (gn ws ps q)
/-- the lot of the things that gain -/
abbrev pkL (ws ps : List Int) (q : Rat) : List Int := castL ((List.range ps.length).filter fun t => decide (0 < gn ws ps q t))
theorem gn_eq {w p t b : Int} {q : Rat} (hb : b ≠ 0) (hq : q = Rat.divInt t b) : Rat.divInt (w * (p * b - t)) b = (w : Rat) * ((p : Rat) - q) := by
  have hb' : (b : Rat) ≠ 0 := fun z => hb (by exact_mod_cast z)
  rw [hq, Rat.divInt_eq_div, Rat.divInt_eq_div, Rat.intCast_mul, Rat.intCast_sub, Rat.intCast_mul]
  rw [Rat.div_def, Rat.div_def, Rat.mul_assoc]
  congr 1
  have h1 : (b : Rat) * (b : Rat)⁻¹ = 1 := Rat.mul_inv_cancel _ hb'
  generalize (b : Rat)⁻¹ = c at *
  clear hq hb'
  grind
theorem gn_pos {w p t b : Int} {q : Rat} (hb : 0 < b) (hq : q = Rat.divInt t b) : 0 < w * (p * b - t) ↔ (0 : Rat) < (w : Rat) * ((p : Rat) - q) := by
  rw [← gn_eq (by omega) hq]
  have h := div_lt (a := 0) (b := 1) (c := w * (p * b - t)) (d := b) (by decide) hb
  rw [Rat.zero_divInt] at h
  rw [h]
  omega
/-- sums of what gains -/
def gnS (ws ps : List Int) (q : Rat) (lot : List Int) : Rat := (lot.map fun t => gn ws ps q t.toNat).sum
theorem gnS_snoc (ws ps : List Int) (q : Rat) (lot : List Int) (t : Int) : gnS ws ps q (lot ++ [t]) = gnS ws ps q lot + gn ws ps q t.toNat := by
  unfold gnS
  rw [List.map_append, List.map_singleton, sum_snocQ]
/-- as ints over b -/
theorem gnS_int {ws ps : List Int} {t b : Int} {q : Rat} (hb : b ≠ 0) (hq : q = Rat.divInt t b) (lot : List Int) : gnS ws ps q lot * (b : Rat) = (((lot.map fun x => ws.getD x.toNat 0 * (ps.getD x.toNat 0 * b - t)).sum : Int) : Rat) := by
  have hb' : (b : Rat) ≠ 0 := fun z => hb (by exact_mod_cast z)
  induction lot with
  | nil => exact Rat.zero_mul _
  | cons x r ih =>
    unfold gnS at *
    rw [List.map_cons, List.sum_cons, List.map_cons, List.sum_cons, Rat.add_mul, ih, Rat.intCast_add]
    congr 1
    show ((ws.getD x.toNat 0 : Int) : Rat) * (((ps.getD x.toNat 0 : Int) : Rat) - q) * (b : Rat) = _
    rw [← gn_eq hb hq, Rat.divInt_eq_div, Rat.div_mul_cancel hb']

--lib
/-! ### choices with limits -/
abbrev xf_Choice (g : Addr) (m : Int) : List (Str × V) := []
abbrev xf_AtMost (g : Addr) (m : Int) : List (Str × V) := [("most", .int m)]
abbrev xf_OneEach (g : Addr) (m : Int) : List (Str × V) := [("groups", .ref g)]
abbrev xf_Limited (g : Addr) (m : Int) : List (Str × V) := [("groups", .ref g), ("most", .int m)]
def ChX (K : PySem.W.Frag) (C : Addr) (ex : List (Str × V)) (H : Hp) (x : Addr) (ws : List Int) (a : Int) (ps : List Int) : Prop :=
  ∃ dx r t, At H x (.ins C dx (("rule", .ref r) :: ("prices", .ref t) :: ex)) ∧ WR K H r ws a ∧ At H t (.tup (ps.map V.int)) ∧ ps.length = ws.length
section
variable {K : PySem.W.Frag} {C : Addr} {exf : List (Str × V)} {H H' : Hp} {x : Addr} {ws ps gs : List Int} {a m : Int}
theorem ChX.ex (h : ChX K C exf H x ws a ps) (e : Ex H H') : ChX K C exf H' x ws a ps := by
  obtain ⟨dx, r, t, h1, h2, h3, h4⟩ := h
  exact ⟨dx, r, t, e.get h1, h2.ex e, e.get h3, h4⟩
theorem ChX.nl (h : ChX K C exf H x ws a ps) (e : Nl H H') : ChX K C exf H' x ws a ps := by
  obtain ⟨dx, r, t, h1, h2, h3, h4⟩ := h
  exact ⟨dx, r, t, e.get (fun l z => by cases z) h1, h2.nl e, e.get (fun l z => by cases z) h3, h4⟩
/-- the groups stand at g -/
def GrX (H : Hp) (g : Addr) (gs : List Int) (n : Nat) : Prop := At H g (.tup (gs.map V.int)) ∧ gs.length = n
theorem GrX.ex {g : Addr} {n : Nat} (h : GrX H g gs n) (e : Ex H H') : GrX H' g gs n := ⟨e.get h.1, h.2⟩
theorem GrX.nl {g : Addr} {n : Nat} (h : GrX H g gs n) (e : Nl H H') : GrX H' g gs n := ⟨e.get (fun l z => by cases z) h.1, h.2⟩
def Rp_Choice (K : PySem.W.Frag) (H : Hp) (x : Addr) (ws : List Int) (a : Int) (ps : List Int) (m : Int) (gs : List Int) : Prop := ChX K (He.ga K "Choice") (xf_Choice 0 m) H x ws a ps
def Rp_AtMost (K : PySem.W.Frag) (H : Hp) (x : Addr) (ws : List Int) (a : Int) (ps : List Int) (m : Int) (gs : List Int) : Prop := ChX K (He.ga K "AtMost") (xf_AtMost 0 m) H x ws a ps ∧ 0 ≤ m
def Rp_OneEach (K : PySem.W.Frag) (H : Hp) (x : Addr) (ws : List Int) (a : Int) (ps : List Int) (m : Int) (gs : List Int) : Prop := ∃ g, ChX K (He.ga K "OneEach") (xf_OneEach g m) H x ws a ps ∧ GrX H g gs ws.length
def Rp_Limited (K : PySem.W.Frag) (H : Hp) (x : Addr) (ws : List Int) (a : Int) (ps : List Int) (m : Int) (gs : List Int) : Prop := ∃ g, ChX K (He.ga K "Limited") (xf_Limited g m) H x ws a ps ∧ GrX H g gs ws.length ∧ 0 ≤ m
theorem Rp_Choice.ex (h : Rp_Choice K H x ws a ps m gs) (e : Ex H H') : Rp_Choice K H' x ws a ps m gs := ChX.ex h e
theorem Rp_Choice.nl (h : Rp_Choice K H x ws a ps m gs) (e : Nl H H') : Rp_Choice K H' x ws a ps m gs := ChX.nl h e
theorem Rp_AtMost.ex (h : Rp_AtMost K H x ws a ps m gs) (e : Ex H H') : Rp_AtMost K H' x ws a ps m gs := ⟨h.1.ex e, h.2⟩
theorem Rp_AtMost.nl (h : Rp_AtMost K H x ws a ps m gs) (e : Nl H H') : Rp_AtMost K H' x ws a ps m gs := ⟨h.1.nl e, h.2⟩
theorem Rp_OneEach.ex (h : Rp_OneEach K H x ws a ps m gs) (e : Ex H H') : Rp_OneEach K H' x ws a ps m gs := let ⟨g, h1, h2⟩ := h; ⟨g, h1.ex e, h2.ex e⟩
theorem Rp_OneEach.nl (h : Rp_OneEach K H x ws a ps m gs) (e : Nl H H') : Rp_OneEach K H' x ws a ps m gs := let ⟨g, h1, h2⟩ := h; ⟨g, h1.nl e, h2.nl e⟩
theorem Rp_Limited.ex (h : Rp_Limited K H x ws a ps m gs) (e : Ex H H') : Rp_Limited K H' x ws a ps m gs := let ⟨g, h1, h2, h3⟩ := h; ⟨g, h1.ex e, h2.ex e, h3⟩
theorem Rp_Limited.nl (h : Rp_Limited K H x ws a ps m gs) (e : Nl H H') : Rp_Limited K H' x ws a ps m gs := let ⟨g, h1, h2, h3⟩ := h; ⟨g, h1.nl e, h2.nl e, h3⟩
theorem Rp_Choice.un (h : Rp_Choice K H x ws a ps m gs) : ∃ g, ChX K (He.ga K "Choice") (xf_Choice g m) H x ws a ps := ⟨0, h⟩
theorem Rp_AtMost.un (h : Rp_AtMost K H x ws a ps m gs) : ∃ g, ChX K (He.ga K "AtMost") (xf_AtMost g m) H x ws a ps := ⟨0, h.1⟩
theorem Rp_OneEach.un (h : Rp_OneEach K H x ws a ps m gs) : ∃ g, ChX K (He.ga K "OneEach") (xf_OneEach g m) H x ws a ps := let ⟨g, h1, _⟩ := h; ⟨g, h1⟩
theorem Rp_Limited.un (h : Rp_Limited K H x ws a ps m gs) : ∃ g, ChX K (He.ga K "Limited") (xf_Limited g m) H x ws a ps := let ⟨g, h1, _⟩ := h; ⟨g, h1⟩
end
/-- by Ratios -/
abbrev ltF (f : Nat → Rat) : Nat → Nat → Prop := fun a b => f a < f b
theorem wk_ratF (f : Nat → Rat) : Wk (ltF f) := ⟨fun {a b} h g => by have h : f a < f b := h; have g : f b < f a := g; grind, fun {a b c} h g z => by have h : ¬ f a < f b := h; have g : ¬ f b < f c := g; have z : f a < f c := z; grind⟩
/-- how many of those below n stand ahead of t -/
def ahN (f : Nat → Rat) (n t : Nat) : Nat := ((List.range n).filter fun k => decide (f t < f k)).length + ((List.range t).filter fun k => decide (f k = f t)).length
/-- the first m of those that gain -/
def amF (f : Nat → Rat) (n : Nat) (m : Int) : List Nat := (List.range n).filter fun t => decide (0 < f t) && decide ((ahN f n t : Int) < m)
/-- those that gain -/
def posF (f : Nat → Rat) (n : Nat) : List Nat := (List.range n).filter fun t => decide (0 < f t)
theorem posF_pw (f : Nat → Rat) (n : Nat) : (posF f n).Pairwise (· < ·) := List.pairwise_lt_range.filter _
theorem posF_mem {f : Nat → Rat} {n t : Nat} : t ∈ posF f n ↔ t < n ∧ 0 < f t := by unfold posF; rw [List.mem_filter, List.mem_range, decide_eq_true_eq]
theorem cntA {lt : Nat → Nat → Prop} {n : Nat} {os : List Nat} (W : Wk lt) (d : DOrd lt n os) (c : Nat → Nat → Bool) (hc : ∀ a b, c a b = true ↔ Ahd lt a b) {j : Nat} (hj : j < os.length) : (List.range n).countP (fun a => c a os[j]) = j := by
  rw [← d.perm.countP_eq]
  have e : os = os.take j ++ os[j] :: os.drop (j + 1) := by rw [← List.drop_eq_getElem_cons hj, List.take_append_drop]
  have s := d.srt
  rw [e, List.pairwise_append, List.pairwise_cons] at s
  obtain ⟨_, ⟨s2, _⟩, s3⟩ := s
  generalize ht : os[j] = t at *
  have na : ∀ a, Ahd lt t a → c a t = false := fun a h => by
    rw [Bool.eq_false_iff]
    intro z
    rcases (hc a t).mp z with z | ⟨z1, z2, z3⟩ <;> rcases h with h | ⟨h1, h2, h3⟩
    · exact W.asym h z
    · exact h1 z
    · exact z1 h
    · omega
  have irr : ¬ lt t t := fun z => W.asym z z
  rw [e, List.countP_append, List.countP_cons]
  have c1 : (os.take j).countP (fun a => c a t) = j := by
    rw [List.countP_eq_length.mpr fun a ha => (hc a t).mpr (s3 a ha t (by simp))]
    simp; omega
  have c2 : (os.drop (j + 1)).countP (fun a => c a t) = 0 := List.countP_eq_zero.mpr fun a ha => by rw [na a (s2 a ha)]; simp
  have c3 : c t t = false := by
    rw [Bool.eq_false_iff]
    intro z
    rcases (hc t t).mp z with z | ⟨_, _, z⟩
    · exact irr z
    · omega
  rw [c1, c2, c3]
  simp
theorem countP_range_map (L : List Nat) (p : Nat → Bool) : (List.range L.length).countP (fun a => p (L.getD a 0)) = L.countP p := by
  have e : (List.range L.length).map (fun a => L.getD a 0) = L := by
    apply List.ext_getElem
    · simp
    · intro i h1 h2
      rw [List.getElem_map, List.getElem_range, getD_get _ _ _ h2]
  conv => rhs; rw [← e, List.countP_map]
  rfl
theorem countP_split (f : Nat → Rat) (t : Nat) : ∀ l : List Nat, l.countP (fun s => decide (f t < f s ∨ (f s = f t ∧ s < t))) = l.countP (fun s => decide (f t < f s)) + l.countP (fun s => decide (f s = f t ∧ s < t))
  | [] => rfl
  | a :: r => by
    rw [List.countP_cons, List.countP_cons, List.countP_cons, countP_split f t r]
    by_cases h1 : f t < f a
    · have h2 : ¬ (f a = f t ∧ a < t) := fun z => by rw [z.1] at h1; exact Rat.lt_irrefl h1
      simp [h1, h2]; omega
    · by_cases h2 : f a = f t ∧ a < t <;> simp [h1, h2] <;> omega
theorem ahN_eq (f : Nat → Rat) {n t : Nat} (ht : t < n) (hp : 0 < f t) : (posF f n).countP (fun s => decide (f t < f s ∨ (f s = f t ∧ s < t))) = ahN f n t := by
  unfold posF ahN
  rw [List.countP_filter]
  have e1 : (List.range n).countP (fun a => decide (f t < f a ∨ (f a = f t ∧ a < t)) && decide (0 < f a)) = (List.range n).countP (fun s => decide (f t < f s ∨ (f s = f t ∧ s < t))) := by
    refine List.countP_congr fun a _ => ?_
    rw [Bool.and_eq_true, decide_eq_true_eq, decide_eq_true_eq]
    refine ⟨fun h => h.1, fun h => ⟨h, ?_⟩⟩
    rcases h with h | ⟨h, _⟩
    · grind
    · rw [h]; exact hp
  rw [e1, countP_split, List.countP_eq_length_filter, List.countP_eq_length_filter]
  congr 1
  have e2 : List.range n = List.range t ++ (List.range (n - t)).map (t + ·) := by rw [← List.range_add]; congr 1; omega
  rw [e2, List.filter_append, List.length_append]
  have e3 : ((List.range (n - t)).map (t + ·)).filter (fun s => decide (f s = f t ∧ s < t)) = [] := by
    rw [List.filter_eq_nil_iff]
    intro a ha
    obtain ⟨b, _, rfl⟩ := List.mem_map.mp ha
    simp
  rw [e3]
  have e4 : (List.range t).filter (fun s => decide (f s = f t ∧ s < t)) = (List.range t).filter (fun s => decide (f s = f t)) := by
    refine List.filter_congr fun a ha => ?_
    have := List.mem_range.mp ha
    simp [this]
  rw [e4]
  simp
theorem pw_getD {L : List Nat} (h : L.Pairwise (· < ·)) {a b : Nat} (ha : a < L.length) (hb : b < L.length) : L.getD a 0 < L.getD b 0 ↔ a < b := by
  rw [getD_get _ _ _ ha, getD_get _ _ _ hb]
  have p := List.pairwise_iff_getElem.mp h
  constructor
  · intro z
    by_cases e : a < b
    · exact e
    · by_cases e2 : a = b
      · subst e2; omega
      · have := p b a hb ha (by omega); omega
  · exact fun z => p a b ha hb z
theorem am_of {f : Nat → Rat} {n : Nat} {os : List Nat} {m : Int} {ms : List Int} (d : DOrd (ltF fun j => f ((posF f n).getD j 0)) (posF f n).length os) (h0 : 0 ≤ m) (hp : ms.Perm (castL ((os.take m.toNat).map fun j => (posF f n).getD j 0))) (hs : ms.Pairwise (· ≤ ·)) : ms = castL (amF f n m) := by
  have hL := posF_pw f n
  have hm : ∀ j, j < (posF f n).length → (posF f n).getD j 0 < n ∧ 0 < f ((posF f n).getD j 0) := fun j hj => by
    rw [getD_get _ _ _ hj]
    exact posF_mem.mp (List.getElem_mem hj)
  have key : ∀ j, j < os.length → ahN f n ((posF f n).getD (os.getD j 0) 0) = j := fun j hj => by
    have hjl : os.getD j 0 < (posF f n).length := by rw [getD_get _ _ _ hj]; exact d.lt (List.getElem_mem hj)
    obtain ⟨g1, g2⟩ := hm _ hjl
    rw [← ahN_eq f g1 g2, ← countP_range_map]
    have z := cntA (wk_ratF _) d (fun a b => decide (f ((posF f n).getD b 0) < f ((posF f n).getD a 0) ∨ (f ((posF f n).getD a 0) = f ((posF f n).getD b 0) ∧ a < b))) (fun a b => by
      rw [decide_eq_true_eq]
      show _ ↔ (f ((posF f n).getD b 0) < f ((posF f n).getD a 0) ∨ ¬ f ((posF f n).getD a 0) < f ((posF f n).getD b 0) ∧ ¬ f ((posF f n).getD b 0) < f ((posF f n).getD a 0) ∧ a < b)
      generalize f ((posF f n).getD a 0) = u
      generalize f ((posF f n).getD b 0) = v
      grind) hj
    rw [← getD_get os j 0 hj] at z
    refine Eq.trans (List.countP_congr fun a ha => ?_) z
    have hal := List.mem_range.mp ha
    rw [decide_eq_true_eq, decide_eq_true_eq, pw_getD hL hal hjl]
  have memT : ∀ t, t ∈ (os.take m.toNat).map (fun j => (posF f n).getD j 0) ↔ t ∈ amF f n m := fun t => by
    unfold amF
    rw [List.mem_filter, List.mem_range, Bool.and_eq_true, decide_eq_true_eq, decide_eq_true_eq, List.mem_map]
    constructor
    · rintro ⟨j, hj, rfl⟩
      obtain ⟨i, hi, rfl⟩ := List.mem_iff_getElem.mp hj
      rw [List.length_take] at hi
      rw [List.getElem_take]
      have hio : i < os.length := by omega
      obtain ⟨g1, g2⟩ := hm _ (d.lt (List.getElem_mem hio))
      have k := key i hio
      rw [getD_get os i 0 hio] at k
      exact ⟨g1, g2, by rw [k]; omega⟩
    · rintro ⟨g1, g2, g3⟩
      obtain ⟨j, hj, e⟩ := List.mem_iff_getElem.mp (posF_mem.mpr ⟨g1, g2⟩)
      obtain ⟨i, hi, ei⟩ := List.mem_iff_getElem.mp (d.mem hj)
      have k := key i hi
      rw [getD_get os i 0 hi, ei, getD_get _ _ _ hj, e] at k
      exact ⟨j, List.mem_iff_getElem.mpr ⟨i, by rw [List.length_take]; omega, by rw [List.getElem_take]; exact ei⟩, by rw [getD_get _ _ _ hj]; exact e⟩
  have nd1 : ((os.take m.toNat).map fun j => (posF f n).getD j 0).Nodup := by
    rw [List.nodup_iff_pairwise_ne, List.pairwise_map]
    have q : (os.take m.toNat).Nodup := d.nodup.sublist (List.take_sublist _ _)
    refine (List.Pairwise.and_mem.mp (List.nodup_iff_pairwise_ne.mp q)).imp fun {a b} ⟨ha, hb, hne⟩ e => ?_
    have h1 := d.lt (List.mem_of_mem_take ha)
    have h2 := d.lt (List.mem_of_mem_take hb)
    have p1 := pw_getD hL h1 h2
    have p2 := pw_getD hL h2 h1
    omega
  refine List.Perm.eq_of_pairwise (le := (· ≤ ·)) (fun a b _ _ h g => by omega) hs ?_ (hp.trans (List.Perm.map _ ((List.perm_ext_iff_of_nodup nd1 (List.nodup_range.sublist List.filter_sublist)).mpr memT)))
  unfold amF
  rw [List.pairwise_map]
  exact (List.pairwise_lt_range.filter _).imp fun h => by omega
/-- what pick tells -/
abbrev pk_Choice (ws ps : List Int) (q : Rat) (m : Int) (gs : List Int) : List Int := pkL ws ps q
abbrev pk_AtMost (ws ps : List Int) (q : Rat) (m : Int) (gs : List Int) : List Int := castL (amF (gn ws ps q) ps.length m)
theorem fil_ok {n : Nat} {p : Nat → Bool} : (castL ((List.range n).filter p)).length ≤ n ∧ ∀ t ∈ castL ((List.range n).filter p), 0 ≤ t ∧ t < n := by
  refine ⟨?_, fun t ht => ?_⟩
  · rw [List.length_map]
    have := List.length_filter_le p (List.range n)
    rwa [List.length_range] at this
  · obtain ⟨m, hm, rfl⟩ := List.mem_map.mp ht
    have := List.mem_range.mp (List.mem_filter.mp hm).1
    omega
theorem pko_Choice {ws ps gs : List Int} {q : Rat} {m : Int} : (pk_Choice ws ps q m gs).length ≤ ps.length ∧ ∀ t ∈ pk_Choice ws ps q m gs, 0 ≤ t ∧ t < ps.length := fil_ok
theorem pko_AtMost {ws ps gs : List Int} {q : Rat} {m : Int} : (pk_AtMost ws ps q m gs).length ≤ ps.length ∧ ∀ t ∈ pk_AtMost ws ps q m gs, 0 ≤ t ∧ t < ps.length := fil_ok
theorem range_getD' {α : Type} {f : Nat → α} {n i : Nat} {d : α} (h : i < n) : ((List.range n).map f).getD i d = f i := by
  rw [getD_get _ _ _ (by rw [List.length_map, List.length_range]; exact h)]
  simp
theorem sum_swap (x y z : Rat) : x - y + z = x + z - y := by grind
theorem gnX_bt {ws ps : List Int} {t b : Int} (hw : ∀ w ∈ ws, w.natAbs < 2 ^ 64) (hp : ∀ p ∈ ps, p.natAbs < 2 ^ 64) (ht : t.natAbs < 2 ^ 200) (hb : b.natAbs < 2 ^ 200) (lot : List Int) : (lot.map fun x => ws.getD x.toNat 0 * (ps.getD x.toNat 0 * b - t)).sum.natAbs ≤ lot.length * 2 ^ 330 := by
  have g : ∀ {l : List Int} (_ : ∀ w ∈ l, w.natAbs < 2 ^ 64) (i : Nat), (l.getD i 0).natAbs < 2 ^ 64 := fun {l} h i => by
    rw [List.getD_eq_getElem?_getD]
    cases e : l[i]? with
    | none => decide
    | some w => exact h w (List.mem_of_getElem? e)
  induction lot with
  | nil => simp
  | cons x r ih =>
    rw [List.map_cons, List.sum_cons, List.length_cons, Nat.add_mul]
    have h1 : (ws.getD x.toNat 0 * (ps.getD x.toNat 0 * b - t)).natAbs < 2 ^ (64 + 265) := bt_mul (g hw _) (bt_subL (k := 264) (bt_mul (g hp _) hb) ht (by decide) (by decide))
    have h2 := Int.natAbs_add_le (ws.getD x.toNat 0 * (ps.getD x.toNat 0 * b - t)) (r.map fun x => ws.getD x.toNat 0 * (ps.getD x.toNat 0 * b - t)).sum
    have h3 : 2 ^ (64 + 265) ≤ 2 ^ 330 := Nat.pow_le_pow_right (by decide) (by decide)
    omega
theorem sur_sz {ws ps : List Int} {a : Int} {q : Rat} {n : Nat} (hw : ∀ w ∈ ws, w.natAbs < 2 ^ 64) (hp : ∀ p ∈ ps, p.natAbs < 2 ^ 64) (ha : a.natAbs < 2 ^ 64) (hq : Sz q n) (hn : n ≤ 200) (lot : List Int) (hl : lot.length ≤ 100) :
    gnS ws ps q lot - q * (a : Rat) = Rat.divInt ((lot.map fun x => ws.getD x.toNat 0 * (ps.getD x.toNat 0 * q.den - q.num)).sum - a * q.num) q.den ∧ Sz (gnS ws ps q lot - q * (a : Rat)) 400 := by
  have b1 := bt_mono hq.num hn
  have b2 := bt_mono hq.den hn
  have e : gnS ws ps q lot - q * (a : Rat) = Rat.divInt ((lot.map fun x => ws.getD x.toNat 0 * (ps.getD x.toNat 0 * q.den - q.num)).sum - a * q.num) q.den := by
    refine eq_divI' (by have := den1 q; omega) ?_
    have h1 := gnS_int (ws := ws) (ps := ps) (t := q.num) (b := q.den) (q := q) (by have := den1 q; omega) (rat_eq q) lot
    have h2 : q * ((q.den : Int) : Rat) = ((q.num : Int) : Rat) := num_of q
    rw [Rat.intCast_sub, ← h1, Rat.intCast_mul, ← h2]
    generalize ((q.den : Int) : Rat) = d
    generalize gnS ws ps q lot = g
    clear h1 h2 b1 b2
    grind
  refine ⟨e, ?_⟩
  rw [e]
  have h3 := gnX_bt hw hp b1 b2 lot
  have h4 : lot.length * 2 ^ 330 ≤ 100 * 2 ^ 330 := Nat.mul_le_mul_right _ hl
  have h5 : 100 * 2 ^ 330 < 2 ^ 338 := by decide
  have b3 : ((lot.map fun x => ws.getD x.toNat 0 * (ps.getD x.toNat 0 * q.den - q.num)).sum).natAbs < 2 ^ 338 := Nat.lt_of_le_of_lt h3 (Nat.lt_of_le_of_lt h4 h5)
  exact sz_div (by have := den1 q; omega) (bt_mono (bt_subL (k := 338) b3 (bt_mul ha b1) (by decide) (by decide)) (by decide)) (bt_mono b2 (by decide))
theorem castL_getD (l : List Nat) (i : Nat) : (castL l).getD i 0 = ((l.getD i 0 : Nat) : Int) := by
  rw [List.getD_eq_getElem?_getD, List.getD_eq_getElem?_getD, List.getElem?_map]
  cases l[i]? <;> rfl
/-! the same of ints over one bottom -/
def ahZ (g : Nat → Int) (n t : Nat) : Nat := ((List.range n).filter fun k => decide (g t < g k)).length + ((List.range t).filter fun k => decide (g k = g t)).length
def amB (g : Nat → Int) (n : Nat) (m : Int) (t : Nat) : Bool := decide (0 < g t) && decide ((ahZ g n t : Int) < m)
def amZ (g : Nat → Int) (n : Nat) (m : Int) : List Nat := (List.range n).filter fun t => amB g n m t
theorem divB_lt {x y b : Int} (hb : 0 < b) : Rat.divInt x b < Rat.divInt y b ↔ x < y := by
  rw [div_lt hb hb]
  constructor
  · intro h; exact Int.lt_of_mul_lt_mul_right h (by omega)
  · intro h; exact Int.mul_lt_mul_of_pos_right h hb
theorem amF_Z {f : Nat → Rat} {g : Nat → Int} {b : Int} (hb : 0 < b) (h : ∀ i, f i = Rat.divInt (g i) b) (n : Nat) (m : Int) : amF f n m = amZ g n m := by
  have e1 : ∀ i j, f i < f j ↔ g i < g j := fun i j => by rw [h, h]; exact divB_lt hb
  have e2 : ∀ i j, f i = f j ↔ g i = g j := fun i j => by
    constructor
    · intro z
      have a1 : ¬ f i < f j := by rw [z]; exact Rat.lt_irrefl
      have a2 : ¬ f j < f i := by rw [z]; exact Rat.lt_irrefl
      rw [e1] at a1 a2
      omega
    · intro z; rw [h, h, z]
  have e3 : ∀ i, 0 < f i ↔ 0 < g i := fun i => by
    have z := divB_lt (x := 0) (y := g i) hb
    rw [Rat.zero_divInt] at z
    rw [h]
    exact z
  have e4 : ∀ t, ahN f n t = ahZ g n t := fun t => by
    unfold ahN ahZ
    congr 2
    · exact List.filter_congr fun k _ => decide_eq_decide.mpr (e1 t k)
    · exact List.filter_congr fun k _ => decide_eq_decide.mpr (e2 k t)
  unfold amF amZ amB
  exact List.filter_congr fun t _ => by rw [e4, decide_eq_decide.mpr (e3 t)]
theorem amZ_len (g : Nat → Int) (n : Nat) {m : Int} (h0 : 0 ≤ m) : ((amZ g n m).length : Int) ≤ m := by
  obtain ⟨f, hf⟩ : ∃ f : Nat → Rat, f = fun i => Rat.divInt (g i) 1 := ⟨_, rfl⟩
  have hfi : ∀ i, f i = Rat.divInt (g i) 1 := fun i => by rw [hf]
  rw [← amF_Z (b := 1) (by decide) hfi n m]
  obtain ⟨os, d⟩ := dord_ex ((posF f n).map g) (posF f n).length
  have d2 : DOrd (ltF fun j => f ((posF f n).getD j 0)) (posF f n).length os := by
    refine d.congr fun a b ha hb => ?_
    show ((posF f n).map g).getD a 0 < ((posF f n).map g).getD b 0 ↔ f ((posF f n).getD a 0) < f ((posF f n).getD b 0)
    rw [getD_get _ a _ (by rw [List.length_map]; exact ha), getD_get _ b _ (by rw [List.length_map]; exact hb), List.getElem_map, List.getElem_map, getD_get _ _ _ ha, getD_get _ _ _ hb, hfi, hfi]
    exact (divB_lt (by decide)).symm
  have z := am_of (ms := (castL ((os.take m.toNat).map fun j => (posF f n).getD j 0)).mergeSort (fun a b => decide (a ≤ b))) d2 h0 (List.mergeSort_perm _ _) (by
    have := List.pairwise_mergeSort (le := fun a b : Int => decide (a ≤ b)) (fun a b c h1 h2 => by simp at *; omega) (fun a b => by simp; omega) (castL ((os.take m.toNat).map fun j => (posF f n).getD j 0))
    exact this.imp fun h => by simpa using h)
  have l := congrArg List.length z
  rw [(List.mergeSort_perm _ _).length_eq, List.length_map, List.length_map, List.length_map, List.length_take] at l
  omega
theorem filLot (n : Nat) (p : Nat → Bool) : IsLot (n : Int) (castL ((List.range n).filter p)) := by
  constructor
  · rw [List.pairwise_map]
    exact (List.pairwise_lt_range.filter _).imp fun h => by omega
  · intro x hx
    exact fil_ok.2 x hx

--lib
/-! ### a choice whose things need one another -/
abbrev xf_Closed (g : Addr) : List (Str × V) := [("needs", .ref g)]
/-- the needs stand at g -/
def NdX (H : Hp) (g : Addr) (nd : List (Int × Int)) : Prop := ∃ xs, At H g (.tup xs) ∧ PL H xs nd
theorem NdX.ex {H H' : Hp} {g : Addr} {nd : List (Int × Int)} (h : NdX H g nd) (e : Ex H H') : NdX H' g nd := let ⟨xs, h1, h2⟩ := h; ⟨xs, e.get h1, h2.ex e⟩
theorem NdX.nl {H H' : Hp} {g : Addr} {nd : List (Int × Int)} (h : NdX H g nd) (e : Nl H H') : NdX H' g nd := let ⟨xs, h1, h2⟩ := h; ⟨xs, e.get (fun l z => by cases z) h1, h2.nl e⟩
def Rp_Closed (K : PySem.W.Frag) (H : Hp) (x : Addr) (ws : List Int) (a : Int) (ps : List Int) (nd : List (Int × Int)) : Prop := ∃ g, ChX K (He.ga K "Closed") (xf_Closed g) H x ws a ps ∧ NdX H g nd
section
variable {K : PySem.W.Frag} {H H' : Hp} {x : Addr} {ws ps : List Int} {a : Int} {nd : List (Int × Int)}
theorem Rp_Closed.ex (h : Rp_Closed K H x ws a ps nd) (e : Ex H H') : Rp_Closed K H' x ws a ps nd := let ⟨g, h1, h2⟩ := h; ⟨g, h1.ex e, h2.ex e⟩
theorem Rp_Closed.nl (h : Rp_Closed K H x ws a ps nd) (e : Nl H H') : Rp_Closed K H' x ws a ps nd := let ⟨g, h1, h2⟩ := h; ⟨g, h1.nl e, h2.nl e⟩
end
/-- a need is right -/
def NdOk (n : Nat) (p : Int × Int) : Prop := 0 ≤ p.1 ∧ p.1 < n ∧ 0 ≤ p.2 ∧ p.2 < n ∧ p.1 ≠ p.2
instance {n : Nat} {p : Int × Int} : Decidable (NdOk n p) := by unfold NdOk; infer_instance
def NdGood (n : Nat) (nd : List (Int × Int)) : Prop := ∀ j, j < nd.length → NdOk n (nd.getD j (0, 0))
/-- the first wrong need -/
def NdRes (n : Nat) (nd : List (Int × Int)) (i : Nat) : Prop := i < nd.length ∧ ¬ NdOk n (nd.getD i (0, 0)) ∧ ∀ j, j < i → NdOk n (nd.getD j (0, 0))
theorem NdRes.det {n : Nat} {nd : List (Int × Int)} {i j : Nat} (h : NdRes n nd i) (g : NdRes n nd j) : i = j := by
  rcases Nat.lt_trichotomy i j with q | q | q
  · exact absurd (g.2.2 i q) h.2.1
  · exact q
  · exact absurd (h.2.2 j q) g.2.1
theorem NdRes.bad {n : Nat} {nd : List (Int × Int)} {i : Nat} (h : NdRes n nd i) : ¬ NdGood n nd := fun g => h.2.1 (g i h.1)
/-- the lot holds what it needs -/
def ndB (nd : List (Int × Int)) (lot : List Int) : Bool := nd.all fun p => !decide (p.1 ∈ lot) || decide (p.2 ∈ lot)
theorem ndB_iff {nd : List (Int × Int)} {lot : List Int} : ndB nd lot = true ↔ ∀ i, i < nd.length → (nd.getD i (0, 0)).1 ∈ lot → (nd.getD i (0, 0)).2 ∈ lot := by
  unfold ndB
  rw [List.all_eq_true]
  constructor
  · intro h i hi h1
    have := h _ (List.getElem_mem hi)
    rw [getD_get _ _ _ hi] at h1 ⊢
    rw [decide_eq_true h1] at this
    simpa using this
  · intro h z hz
    obtain ⟨j, hj, rfl⟩ := List.mem_iff_getElem.mp hz
    have := h j hj
    rw [getD_get _ _ _ hj] at this
    by_cases h1 : (nd[j]).1 ∈ lot
    · rw [decide_eq_true (this h1)]; exact Bool.or_true _
    · rw [decide_eq_false h1]; rfl
theorem nd_all (nd : List (Int × Int)) (lot : List Int) : ((((List.range nd.length).filter fun i => decide ((nd.getD i (0, 0)).1 ∈ lot)).map fun i => decide ((nd.getD i (0, 0)).2 ∈ lot)).all id) = ndB nd lot := by
  rw [Bool.eq_iff_iff, ndB_iff, List.all_eq_true]
  constructor
  · intro h i hi h1
    have := h _ (List.mem_map.2 ⟨i, List.mem_filter.2 ⟨List.mem_range.2 hi, decide_eq_true h1⟩, rfl⟩)
    exact of_decide_eq_true this
  · intro h b hb
    obtain ⟨i, hi, rfl⟩ := List.mem_map.1 hb
    obtain ⟨hi1, hi2⟩ := List.mem_filter.1 hi
    exact decide_eq_true (h i (List.mem_range.1 hi1) (of_decide_eq_true hi2))
/-- what a Closed says of wrong needs -/
def NdErr (K : PySem.W.Frag) (n : Nat) (nd : List (Int × Int)) (E : XK) (H : Hp) : Prop := ∀ i, NdRes n nd i → ∀ d H', Fr H d → Ex H H' → At H' d (.xd [("at", .int (i : Nat))]) → E (.ref (He.ga K "BadNeed")) (some d) H'
/-- an element of a list of bools -/
theorem ix_bl {bs : List Bool} {u : Int} (h0 : 0 ≤ u) (h1 : u < bs.length) : atI (bs.map V.bl) u = some (.bl (bs.getD u.toNat false)) := by
  unfold atI
  rw [ixN_pos h0 (by rw [List.length_map]; exact h1)]
  have h2 : u.toNat < bs.length := by omega
  show (bs.map V.bl)[u.toNat]? = _
  rw [List.getElem?_map, List.getElem?_eq_getElem h2, getD_get _ _ _ h2]
  rfl
theorem nd_pair {u r n : Int} (hu0 : 0 ≤ u) (hu : u < n) (hr0 : 0 ≤ r) (hr : r < n - 1) : 0 ≤ (u + 1 + r) % n ∧ (u + 1 + r) % n < n ∧ u ≠ (u + 1 + r) % n := by
  by_cases h : u + 1 + r < n
  · rw [Int.emod_eq_of_lt (by omega) h]; omega
  · have e : (u + 1 + r) % n = u + 1 + r - n := by
      rw [show u + 1 + r = (u + 1 + r - n) + n by omega, Int.add_emod_right, Int.emod_eq_of_lt (by omega) (by omega)]; omega
    rw [e]; omega
theorem NdGood.snoc {n : Nat} {nd : List (Int × Int)} {p : Int × Int} (h : NdGood n nd) (g : NdOk n p) : NdGood n (nd ++ [p]) := fun j hj => by
  by_cases e : j < nd.length
  · rw [List.getD_eq_getElem?_getD, List.getElem?_append_left e, ← List.getD_eq_getElem?_getD]
    exact h j e
  · have ej : j = nd.length := by simp at hj; omega
    subst ej
    rw [List.getD_eq_getElem?_getD]
    simpa using g

--lib
/-! ### wrong prices -/
theorem pres_set {n z : Int} {ps : List Int} {j : Nat} (h : PricesOk n ps) (hj : j < ps.length) (hz : z < 0) : PRes n (ps.set j z) (.int (j : Nat)) (j : Nat) := by
  refine .neg (by rw [List.length_set]; exact h.1) j (by rw [List.length_set]; exact hj) ?_ fun i hi => ?_
  · rw [List.getD_eq_getElem?_getD, List.getElem?_set_self hj]; exact hz
  · rw [List.getD_eq_getElem?_getD, List.getElem?_set_ne (by omega), ← List.getD_eq_getElem?_getD, getD_get _ _ _ (by omega)]
    exact h.2 _ (List.getElem_mem _)
theorem pres_snoc {n z : Int} {ps : List Int} (h : PricesOk n ps) : PRes n (ps ++ [z]) .non (-1) := .len (by rw [List.length_append, List.length_singleton]; have := h.1; omega)
theorem bt_set {z : Int} {ps : List Int} {j : Nat} (h : ∀ p ∈ ps, p.natAbs < 2 ^ 64) (hz : z.natAbs < 2 ^ 64) : ∀ p ∈ ps.set j z, p.natAbs < 2 ^ 64 := fun p hp => by
  rcases List.mem_or_eq_of_mem_set hp with hp | hp
  · exact h p hp
  · rw [hp]; exact hz
theorem bt_snoc {z : Int} {ps : List Int} (h : ∀ p ∈ ps, p.natAbs < 2 ^ 64) (hz : z.natAbs < 2 ^ 64) : ∀ p ∈ ps ++ [z], p.natAbs < 2 ^ 64 := fun p hp => by
  rcases List.mem_append.mp hp with hp | hp
  · exact h p hp
  · rw [List.mem_singleton.mp hp]; exact hz

local macro_rules | `(tactic| walk_at "ex") => `(tactic| first | with_reducible assumption | ((with_reducible apply Z.exE); exact inferInstance))
local macro_rules | `(tactic| walk_at "fr") => `(tactic| first | with_reducible assumption | ((with_reducible apply Z.frE); (with_reducible assumption); exact inferInstance))
local macro_rules | `(tactic| walk_at "fx") => `(tactic| first | with_reducible assumption | ((with_reducible apply Z.getE); (with_reducible assumption); exact inferInstance) | ((with_reducible apply Z.getTN); (with_reducible assumption); exact inferInstance) | ((with_reducible apply Z.getIN); (with_reducible assumption); exact inferInstance))
local macro_rules | `(tactic| walk_at "fl") => `(tactic| first | with_reducible assumption | ((with_reducible apply Z.lA); (with_reducible assumption); exact inferInstance) | ((with_reducible apply Z.lE); (with_reducible assumption); exact inferInstance))
local macro_rules | `(tactic| walk_at "fi") => `(tactic| first | walk_at "fl" | ((with_reducible apply Z.lU); (walk_at "fl"); exact rfl))
local macro_rules | `(tactic| walk_at "ti") => `(tactic| first | walk_at "ft" | ((with_reducible apply Z.tU); (walk_at "ft"); exact rfl))
local macro_rules | `(tactic| walk_at "ft") => `(tactic| first | with_reducible assumption | ((with_reducible apply Z.tA); (with_reducible assumption); exact inferInstance) | ((with_reducible apply Z.tE); (with_reducible assumption); exact inferInstance) | ((with_reducible apply Z.tNA); (with_reducible assumption); exact inferInstance) | ((with_reducible apply Z.tEN); (with_reducible assumption); exact inferInstance))
local macro_rules | `(tactic| walk_at "fa") => `(tactic| first | with_reducible assumption | ((with_reducible apply Z.aE); (with_reducible assumption); exact inferInstance) | ((with_reducible apply Or.inl); (walk_at "fl")) | ((with_reducible apply Or.inr); (walk_at "ft")))
local macro_rules | `(tactic| walk_at "num") => `(tactic| first | with_reducible assumption | omega | (simp only [List.length_map, List.length_append, List.length_cons, List.length_nil, List.length_range, List.length_take, List.length_drop, List.length_replicate]; omega) | (simp only [List.length_map, List.length_append, List.length_cons, List.length_nil, List.length_range, List.length_take, List.length_drop, List.length_replicate] at *; omega) | decide | exact rfl)
local macro_rules | `(tactic| walk_at "nat") => `(tactic| first | with_reducible assumption | (simp only [Int.reduceToNat]; exact rfl) | (simp only [Int.toNat_natCast]; exact rfl) | exact rfl)
local macro_rules | `(tactic| walk_at "sz") => `(tactic| first | with_reducible assumption | (show _ ≤ 16777216; walk_at "num") | (show _ < 16777216; walk_at "num"))
local macro_rules | `(tactic| walk_at "div") => `(tactic| first | with_reducible assumption | ((with_reducible apply Z.CDivZ.of); with_reducible assumption) | exact Z.CDivZ.of (L2.wide_div (b := 64) (by omega) (by omega) (by decide) (by decide)) | exact Z.CDivZ.of (L2.wide_div (b := 64) (by decide) (by decide) (by decide) (by decide)))
local macro_rules | `(tactic| walk_at "look") => `(tactic| first | with_reducible assumption | exact R.rF_top _ _ | exact R.rF_bottom _ _ | exact rfl)
local macro_rules | `(tactic| walk_at "call") => `(tactic| fail)
local macro_rules | `(tactic| walk_at "rn") => `(tactic| (first | with_reducible assumption | ((with_reducible apply R.rnE); (with_reducible assumption); exact inferInstance) | ((with_reducible apply R.rnN); (with_reducible assumption); exact inferInstance)))
local macro_rules | `(tactic| walk_at "rb") => `(tactic| (first | with_reducible assumption | ((with_reducible apply R.rbE); (with_reducible assumption); exact inferInstance) | ((with_reducible apply R.rbN); (with_reducible assumption); exact inferInstance)))
local macro_rules | `(tactic| walk_at "rl") => `(tactic| (first | with_reducible assumption | ((with_reducible apply R.rlE); (with_reducible assumption); exact inferInstance) | ((with_reducible apply R.rlN); (with_reducible assumption); exact inferInstance)))
local macro_rules | `(tactic| walk_at "call") => `(tactic| ((with_reducible apply R.u_rme); (walk_at "rb"); (decide +kernel)))
local macro_rules | `(tactic| walk_at "call") => `(tactic| ((with_reducible apply R.u_rmany); (walk_at "rb"); (with_reducible assumption); (with_reducible assumption)))
local macro_rules | `(tactic| walk_at "call") => `(tactic| ((with_reducible apply R.u_rcon); (walk_at "rb"); (with_reducible assumption); (with_reducible assumption); (decide +kernel)))
local macro_rules | `(tactic| walk_at "call") => `(tactic| ((with_reducible apply R.u_risC2); (walk_at "rb"); (with_reducible assumption); (with_reducible assumption)))
local macro_rules | `(tactic| walk_at "call") => `(tactic| ((with_reducible apply R.u_risO2); (walk_at "rb"); (with_reducible assumption)))
local macro_rules | `(tactic| walk_at "call") => `(tactic| ((with_reducible apply R.u_ixR); (walk_at "fl"); (walk_at "rl"); (walk_at "num"); (walk_at "num"); (intro ra hra)))
local macro_rules | `(tactic| walk_at "pl") => `(tactic| (first | with_reducible assumption | ((with_reducible apply R.plE); (with_reducible assumption); exact inferInstance) | ((with_reducible apply R.plN); (with_reducible assumption); exact inferInstance)))
local macro_rules | `(tactic| walk_at "call") => `(tactic| ((with_reducible apply R.u_ixP); (walk_at "fl"); (walk_at "pl"); (walk_at "num"); (walk_at "num"); (intro pa hpa)))
local macro_rules | `(tactic| walk_at "wr") => `(tactic| (first | with_reducible assumption | ((with_reducible apply R.wrE); (with_reducible assumption); exact inferInstance) | ((with_reducible apply R.wrN); (with_reducible assumption); exact inferInstance)))
local macro_rules | `(tactic| walk_at "call") => `(tactic| ((with_reducible apply R.u_meW); (walk_at "wr"); (decide +kernel); (decide +kernel); (decide +kernel)))
local macro_rules | `(tactic| walk_at "call") => `(tactic| ((with_reducible apply R.u_wts); (walk_at "wr"); (with_reducible assumption); (with_reducible assumption); (intro tw htw htw2)))
local macro_rules | `(tactic| walk_at "call") => `(tactic| ((with_reducible apply R.u_asd); (walk_at "wr"); (with_reducible assumption); (with_reducible assumption)))
local macro_rules | `(tactic| walk_at "call") => `(tactic| ((with_reducible apply R.u_many); (walk_at "wr"); (with_reducible assumption); (with_reducible assumption)))
local macro_rules | `(tactic| walk_at "call") => `(tactic| ((with_reducible apply R.u_isW); (walk_at "wr"); (with_reducible assumption)))
local macro_rules | `(tactic| walk_at "call") => `(tactic| ((with_reducible apply R.u_OO); (walk_at "rn"); (walk_at "rn"); (first | decide | omega); (intro p H2 hn he hr)))
local macro_rules | `(tactic| walk_at "call") => `(tactic| ((with_reducible apply R.u_OI); (walk_at "rn"); (walk_at "bt"); (first | decide | omega); (intro p H2 hn he hr)))
local macro_rules | `(tactic| walk_at "call") => `(tactic| ((with_reducible apply R.u_IO); (walk_at "rn"); (walk_at "bt"); (first | decide | omega); (intro p H2 hn he hr)))
local macro_rules | `(tactic| walk_at "call") => `(tactic| ((with_reducible apply R.u_UO); (walk_at "rn"); (intro p H2 hn he hr)))
local macro_rules | `(tactic| walk_at "call") => `(tactic| ((with_reducible apply R.u_C1); (walk_at "rn"); (intro p H2 hn he hr)))
local macro_rules | `(tactic| walk_at "call") => `(tactic| ((with_reducible apply R.u_eOO); (walk_at "rn"); (walk_at "rn")))
local macro_rules | `(tactic| walk_at "call") => `(tactic| ((with_reducible apply R.u_eOI); (walk_at "rn")))
local macro_rules | `(tactic| walk_at "call") => `(tactic| ((with_reducible apply R.u_eIO); (walk_at "rn")))
local macro_rules | `(tactic| walk_at "call") => `(tactic| ((with_reducible apply R.u_bO); (walk_at "rn")))
local macro_rules | `(tactic| walk_at "call") => `(tactic| ((with_reducible apply R.u_cIO); (walk_at "rn"); (walk_at "bt"); (first | decide | omega)))
local macro_rules | `(tactic| walk_at "call") => `(tactic| ((with_reducible apply R.u_cOO); (walk_at "rn"); (walk_at "rn")))
local macro_rules | `(tactic| walk_at "call") => `(tactic| ((with_reducible apply R.u_cOI); (walk_at "rn"); (walk_at "bt"); (first | decide | omega)))
local macro_rules | `(tactic| walk_at "call") => `(tactic| ((with_reducible apply R.u_me); (walk_at "rn"); (decide +kernel); (decide +kernel)))
local macro_rules | `(tactic| walk_at "call") => `(tactic| ((with_reducible apply R.u_top); (walk_at "rn"); (with_reducible assumption); (with_reducible assumption)))
local macro_rules | `(tactic| walk_at "call") => `(tactic| ((with_reducible apply R.u_bot); (walk_at "rn"); (with_reducible assumption); (with_reducible assumption)))
local macro_rules | `(tactic| walk_at "call") => `(tactic| ((with_reducible apply R.u_isR); (walk_at "rn"); (with_reducible assumption)))
local macro_rules | `(tactic| walk_at "st1") => `(tactic| (first
  | ((with_reducible apply Z.w_var); exact rfl)
  | with_reducible refine Z.w_c ?_
  | with_reducible refine Z.w_op ?_
  | with_reducible refine Z.w_un ?_
  | with_reducible refine Z.w_cb ?_
  | with_reducible refine Z.w_nil ?_
  | with_reducible refine Z.w_cons ?_
  | with_reducible refine Z.w_tup ?_
  | with_reducible refine Z.w_lst ?_
  | with_reducible refine Z.w_call0 ?_
  | with_reducible refine Z.w_call ?_
  | with_reducible refine Z.w_test ?_
  | with_reducible refine Z.w_B ?_
  | with_reducible refine Z.w_bl ?_
  | with_reducible refine Z.w_and ?_
  | with_reducible refine Z.w_or ?_
  | with_reducible refine Z.w_not ?_
  | with_reducible refine Z.w_andV ?_
  | with_reducible refine Z.w_orV ?_
  | with_reducible refine Z.w_notV ?_
  | with_reducible refine Z.w_ifE ?_
  | with_reducible refine Z.w_isN2 ?_
  | with_reducible refine Z.w_notN2 ?_
  | with_reducible refine Z.isN_n ?_
  | with_reducible refine Z.isN_i ?_
  | with_reducible refine Z.isN_s ?_
  | with_reducible refine Z.isN_r ?_
  | with_reducible refine Z.isN_b ?_
  | with_reducible refine Z.notN_n ?_
  | with_reducible refine Z.notN_i ?_
  | with_reducible refine Z.notN_s ?_
  | with_reducible refine Z.notN_r ?_
  | with_reducible refine Z.notN_b ?_
  | with_reducible refine Z.w_seq ?_
  | with_reducible refine Z.w_asg ?_
  | with_reducible refine Z.w_gnS ?_
  | with_reducible refine Z.w_gn ?_
  | with_reducible refine Z.w_ret ?_
  | with_reducible refine Z.w_retN ?_
  | with_reducible refine Z.w_drop ?_
  | with_reducible refine Z.w_next ?_
  | with_reducible refine Z.w_brk ?_
  | with_reducible refine Z.w_cnt ?_
  | with_reducible refine Z.w_if ?_
  | with_reducible refine Z.w_enx ?_
  | with_reducible refine Z.w_ert ?_
  | with_reducible refine Z.w_ebk ?_
  | with_reducible refine Z.w_ect ?_
  | ((with_reducible show L2.Ends.nx _ _ _); with_reducible refine Z.w_nx ?_)
  | ((with_reducible show L2.Ends.bk _ _ _); with_reducible refine Z.w_bk ?_)
  | ((with_reducible show L2.Ends.ct _ _ _); with_reducible refine Z.w_ct ?_)
  | ((with_reducible show L2.Ends.rt _ _ _); with_reducible refine Z.w_rt ?_)
  | ((with_reducible apply Z.w_aug); exact rfl)
  | with_reducible refine Z.w_for ?_
  | with_reducible refine Z.w_lc ?_
  | with_reducible refine Z.w_iL ?_
  | with_reducible refine Z.w_iT ?_
  | with_reducible refine Z.w_iA ?_
  | with_reducible refine Z.w_iR1 ?_
  | with_reducible refine Z.w_iR2 ?_
  | with_reducible refine Z.w_iE ?_
  | with_reducible refine Z.w_iEA ?_
  | with_reducible refine Z.w_iZA ?_
  | with_reducible refine Z.w_tSAdd ?_
  | with_reducible refine Z.w_tCO ?_
  | with_reducible refine Z.w_dCO ?_
  | with_reducible refine Z.w_bm ?_
  | with_reducible refine Z.w_bm0 ?_
  | with_reducible refine Z.w_yes ?_
  | with_reducible refine Z.w_par ?_
  | with_reducible refine Z.w_exP ?_
  | with_reducible refine Z.w_fld ?_
  | with_reducible refine Z.w_sfld ?_
  | with_reducible refine Z.w_make ?_
  | with_reducible refine Z.w_raise ?_
  | with_reducible refine Z.w_mkO ?_
  | with_reducible refine Z.w_xf ?_
  | with_reducible refine Z.w_gSub ?_
  | with_reducible refine Z.w_revT ?_
  | with_reducible refine Z.w_revL ?_
  | with_reducible refine Z.w_tryA ?_
  | with_reducible refine Z.w_tryO ?_
  | with_reducible refine Z.w_tryM ?_
  | with_reducible refine Z.w_con ?_
  | with_reducible refine Z.w_callZ0 ?_
  | with_reducible refine Z.w_callZ ?_
  | with_reducible refine Z.w_methZ ?_
  | with_reducible refine Z.w_meth ?_
  | with_reducible refine Z.w_makeZ ?_
  | with_reducible refine Z.w_makeK ?_
  | with_reducible refine Z.w_makeKZ ?_
  | with_reducible refine Z.w_opS ?_
  | with_reducible refine Z.w_chain ?_
  | with_reducible refine Z.w_sl ?_
  | with_reducible refine Z.w_noPart ?_
  | with_reducible refine Z.w_part ?_
  | ((with_reducible refine Z.w_wp ?_ ?_); exact rfl)))
local macro_rules | `(tactic| walk_at "st2") => `(tactic| (first
  | walk_at "call"
  | with_reducible refine Z.w_ipI ?_
  | with_reducible refine Z.w_I0 ?_
  | with_reducible refine Z.w_U ?_
  | with_reducible refine Z.w_addI ?_
  | ((with_reducible refine Z.w_mulI ?_ ?_); (walk_at "mul"))
  | with_reducible refine Z.w_eqIr ?_
  | with_reducible refine Z.w_neIr ?_
  | with_reducible refine Z.w_eqSr ?_
  | with_reducible refine Z.w_neSr ?_
  | with_reducible refine Z.w_eqZB ?_
  | with_reducible refine Z.w_neZB ?_
  | with_reducible refine Z.w_bool1 ?_
  | with_reducible refine Z.w_eqZI ?_
  | with_reducible refine Z.w_neZI ?_
  | with_reducible refine Z.w_eqZS ?_
  | with_reducible refine Z.w_neZS ?_
  | with_reducible refine Z.w_T ?_
  | with_reducible refine Z.w_F ?_
  | with_reducible refine Z.w_nT ?_
  | with_reducible refine Z.w_nF ?_
  | with_reducible refine Z.w_int1 ?_
  | with_reducible refine Z.w_exI ?_
  | with_reducible refine Z.w_max2 ?_
  | with_reducible refine Z.w_min2 ?_
  | with_reducible refine Z.w_gcd ?_
  | with_reducible refine Z.w_absI ?_
  | ((with_reducible apply Z.w_dF); (walk_at "fx"); (with_reducible assumption); (with_reducible assumption); (walk_at "look"))
  | ((with_reducible apply Z.w_dCon); (walk_at "fx"); (with_reducible assumption); (with_reducible assumption); (first | with_reducible assumption | rfl | decide +kernel))
  | ((with_reducible apply Z.w_sup); (exact rfl); (walk_at "fx"))
  | ((with_reducible apply Z.w_dMe0); (walk_at "fx"); (exact rfl))
  | with_reducible refine Z.w_isB ?_
  | with_reducible refine Z.w_isnB ?_
  | with_reducible refine Z.w_isiII ?_
  | with_reducible refine Z.w_isiIB ?_
  | ((with_reducible apply Z.w_cl); (with_reducible assumption); (intro ea hea))
  | ((with_reducible apply Z.w_clN); (with_reducible assumption))
  | ((with_reducible apply Z.w_clO); (with_reducible assumption); (intro ea hea))
  | ((with_reducible apply Z.w_clON); (with_reducible assumption))
  | with_reducible refine Z.w_cl0 ?_
  | ((with_reducible apply Z.w_as); (with_reducible assumption); (intro ea hea))
  | ((with_reducible apply Z.w_only); (with_reducible assumption); (intro ea hea))
  | ((with_reducible apply Z.w_asN); (with_reducible assumption))
  | ((with_reducible apply Z.w_onlyN); (with_reducible assumption))
  | ((with_reducible apply Z.w_isY); (with_reducible assumption); (with_reducible assumption))
  | ((with_reducible apply Z.w_isYt); (with_reducible assumption); (with_reducible assumption))
  | ((with_reducible apply Z.w_isYd); (with_reducible assumption); (walk_at "fx"); (with_reducible assumption))
  | ((with_reducible apply Z.w_isYdt); (with_reducible assumption); (walk_at "fx"); (with_reducible assumption))
  | ((with_reducible apply Z.w_dXf); (walk_at "fx"); (first | rfl | (simp only [List.zip_cons_cons, List.zip_nil_right, List.zip_nil_left, List.reverse_cons, List.reverse_nil, List.nil_append, List.singleton_append, List.cons_append, List.lookup]; rfl) | decide +kernel))
  | ((with_reducible apply Z.w_dMX); (exact rfl); (decide); (intro d H2 hn he hp))
  | ((with_reducible apply Z.w_isiOC2); (walk_at "fx"); (with_reducible assumption))
  | ((with_reducible apply Z.w_isiOA2); (walk_at "fx"); (with_reducible assumption); (with_reducible assumption))
  | ((with_reducible apply Z.w_isiOI2); (walk_at "fx"); (with_reducible assumption))
  | ((with_reducible apply Z.w_isiIC); (with_reducible assumption))
  | ((with_reducible apply Z.w_OO); (walk_at "fx"); (walk_at "fx"))
  | ((with_reducible apply Z.w_OI); (walk_at "fx"))
  | ((with_reducible apply Z.w_IO); (walk_at "fx"))
  | ((with_reducible apply Z.w_UO); (walk_at "fx"))
  | ((with_reducible apply Z.w_C1); (walk_at "fx"))
  | ((with_reducible refine Z.w_shl ?_ ?_); (walk_at "num"))
  | with_reducible refine Z.w_shr ?_
  | with_reducible refine Z.w_odd ?_
  | ((with_reducible apply Z.w_sum); (walk_at "fl"))
  | ((with_reducible apply Z.w_eqLr); (walk_at "fi"); (walk_at "fi"))
  | ((with_reducible apply Z.w_neLr); (walk_at "fi"); (walk_at "fi"))
  | ((with_reducible apply Z.w_eqTr); (walk_at "ti"); (walk_at "ti"))
  | ((with_reducible apply Z.w_neTr); (walk_at "ti"); (walk_at "ti"))
  | ((with_reducible apply Z.w_eqLI); (walk_at "fi"); (walk_at "fi"))
  | ((with_reducible apply Z.w_neLI); (walk_at "fi"); (walk_at "fi"))
  | ((with_reducible apply Z.w_eqTI); (walk_at "ti"); (walk_at "ti"))
  | ((with_reducible apply Z.w_neTI); (walk_at "ti"); (walk_at "ti"))
  | ((with_reducible apply Z.w_eqLFr); (walk_at "fl"); (walk_at "fl"); (exact rfl); (kernel_rfl))
  | ((with_reducible apply Z.w_neLFr); (walk_at "fl"); (walk_at "fl"); (exact rfl); (kernel_rfl))
  | ((with_reducible apply Z.w_eqTFr); (walk_at "ft"); (walk_at "ft"); (exact rfl); (kernel_rfl))
  | ((with_reducible apply Z.w_neTFr); (walk_at "ft"); (walk_at "ft"); (exact rfl); (kernel_rfl))
  | ((with_reducible apply Z.w_eqLF); (walk_at "fl"); (walk_at "fl"); (exact rfl); (exact rfl); (kernel_rfl); (kernel_rfl))
  | ((with_reducible apply Z.w_neLF); (walk_at "fl"); (walk_at "fl"); (exact rfl); (exact rfl); (kernel_rfl); (kernel_rfl))
  | ((with_reducible apply Z.w_eqTF); (walk_at "ft"); (walk_at "ft"); (exact rfl); (exact rfl); (kernel_rfl); (kernel_rfl))
  | ((with_reducible apply Z.w_neTF); (walk_at "ft"); (walk_at "ft"); (exact rfl); (exact rfl); (kernel_rfl); (kernel_rfl))
  | ((with_reducible apply Z.w_inT); (walk_at "ft"))
  | ((with_reducible apply Z.w_ninT); (walk_at "ft"))
  | ((with_reducible apply Z.w_inL); (walk_at "fl"))
  | ((with_reducible apply Z.w_ninL); (walk_at "fl"))
  | with_reducible refine Z.wb_F ?_
  | with_reducible refine Z.wb_T ?_
  | ((with_reducible apply Z.w_ins); (walk_at "fx"); (walk_at "sz"); (walk_at "nat"); (walk_at "num"); (walk_at "num"); (intro H2 hp hnl hk ho); (try (have hke := Z.kmut hk (by with_reducible assumption) inferInstance; clear hk)))
  | ((with_reducible apply Z.w_popI); (walk_at "fx"); (walk_at "num"); (walk_at "num"); (walk_at "num"); (intro H2 hp hnl hk ho); (try (have hke := Z.kmut hk (by with_reducible assumption) inferInstance; clear hk)))
  | ((with_reducible apply Z.w_pop0); (walk_at "fx"); (walk_at "num"); (intro H2 hp hnl hk ho); (try (have hke := Z.kmut hk (by with_reducible assumption) inferInstance; clear hk)))
  | ((with_reducible apply Z.w_setI); (walk_at "fx"); (walk_at "num"); (walk_at "num"); (intro H2 hp hnl hk ho); (try (have hke := Z.kmut hk (by with_reducible assumption) inferInstance; clear hk)))
  | ((with_reducible apply Z.w_setV); (walk_at "fx"); (walk_at "num"); (walk_at "num"); (intro H2 hp hnl hk ho); (try (have hke := Z.kmut hk (by with_reducible assumption) inferInstance; clear hk)))
  | ((with_reducible apply Z.w_gT); (walk_at "ft"); (exact rfl))
  | with_reducible refine Z.w_gC ?_
  | with_reducible refine Z.w_gN ?_
  | with_reducible refine Z.w_isiBI ?_
  | with_reducible refine Z.w_isiBB ?_
  | with_reducible refine Z.w_isiSS ?_
  | with_reducible refine Z.w_isiIS ?_
  | with_reducible refine Z.w_isiSI ?_
  | ((with_reducible refine Z.w_two ?_ ?_ ?_); (exact rfl); (exact rfl))
  | ((with_reducible apply Z.w_isiTT); (walk_at "fx"))
  | ((with_reducible apply Z.w_isiLL); (walk_at "fx"))
  | ((with_reducible apply Z.w_addL); (walk_at "fx"); (walk_at "fx"); (walk_at "sz"); (intro p H2 hn he hp))
  | ((with_reducible apply Z.w_dRevT); (walk_at "ti"); (intro p H2 hn he hp))
  | ((with_reducible apply Z.w_dRevL); (walk_at "fi"); (intro p H2 hn he hp))
  | ((with_reducible apply Z.w_catI); (walk_at "ti"); (walk_at "ti"); (walk_at "num"); (intro p H2 he hp))
  | ((with_reducible apply Z.w_slTo); (walk_at "ti"); (walk_at "num"); (intro p H2 he hp))
  | ((with_reducible apply Z.w_slFrom); (walk_at "ti"); (walk_at "num"); (intro p H2 he hp))
  | ((with_reducible apply Z.w_slBack); (walk_at "ti"); (walk_at "num"); (intro p H2 he hp))
  | ((with_reducible apply Z.w_slAny); (walk_at "ti"); (intro p H2 ms he hsub hp))
  | ((with_reducible apply Z.w_sortI); (walk_at "fi"); (intro p H2 ms hn he hp hperm hsort))
  | ((with_reducible apply Z.w_slLIf); (walk_at "fl"); (walk_at "num"); (intro p H2 hn he hp))
  | ((with_reducible apply Z.w_slLIt); (walk_at "fl"); (walk_at "num"); (intro p H2 hn he hp))
  | ((with_reducible apply Z.w_slLIft); (walk_at "fl"); (walk_at "num"); (walk_at "num"); (intro p H2 hn he hp))
  | ((with_reducible apply Z.w_slLVt); (walk_at "fl"); (walk_at "num"); (intro p H2 hn he hp))
  | ((with_reducible apply Z.w_slLVf); (walk_at "fl"); (walk_at "num"); (intro p H2 hn he hp))
  | ((with_reducible apply Z.w_app); (walk_at "fx"); (walk_at "sz"); (intro H2 hp hnl hk ho); (try (have hke := Z.kmut hk (by with_reducible assumption) inferInstance; clear hk)))
  | ((with_reducible apply Z.w_ext); (walk_at "fx"); (walk_at "fx"); (walk_at "sz"); (intro H2 hp hnl hk ho); (try (have hke := Z.kmut hk (by with_reducible assumption) inferInstance; clear hk)))
  | ((with_reducible apply Z.w_rep); (walk_at "fx"); (walk_at "num"); (walk_at "num"); (walk_at "num"); (intro p H2 hn he hp))
  | ((with_reducible apply Z.ele); (with_reducible assumption); (walk_at "sz"); (walk_at "ex"))
  | ((with_reducible apply Z.w_tupL); (walk_at "fl"); (intro p H2 hn he hp))
  | ((with_reducible apply Z.w_tupT); (walk_at "ft"))
  | ((with_reducible apply Z.w_listL); (walk_at "fl"); (intro p H2 hn he hp))
  | ((with_reducible apply Z.w_listT); (walk_at "ft"); (intro p H2 hn he hp))
  | ((with_reducible refine Z.w_newT ?_ (fun p H2 hn he hp => ?_)); (walk_at "sz"))
  | ((with_reducible refine Z.w_newL ?_ (fun p H2 hn he hp => ?_)); (walk_at "sz"))
  | ((with_reducible apply Z.w_lenLI); (walk_at "fl"))
  | ((with_reducible apply Z.w_lenTI); (walk_at "ft"))
  | ((with_reducible apply Z.w_lenL); (walk_at "fl"))
  | ((with_reducible apply Z.w_lenT); (walk_at "ft"))
  | ((with_reducible apply Z.w_pow); (exact ⟨by decide, by decide, by decide⟩); (simp only [Int.reduceToNat, Int.reducePow]; exact rfl))
  | ((with_reducible refine Z.w_I (C := Z.CDivZ) ?_ ?_); (walk_at "div"))
  | ((with_reducible refine Z.w_I (C := fun _ j => 0 < j) ?_ ?_); (first | assumption | omega | decide))
  | ((with_reducible apply Z.cgK); (with_reducible assumption); (intro H2 ex2; first | exact trivial | walk_at "fl"); (walk_at "sz"); (focus (intro Dl i x H2 acc hi ec cd hz y; walk_at "go"; done)); (intro p H2 hn he hp); (rotate_left); (exact rfl))
  | ((with_reducible apply Z.w_ixT); (walk_at "ft"); (exact rfl))
  | ((with_reducible apply Z.w_ixL); (walk_at "fl"); (exact rfl))
  | ((with_reducible apply Z.w_ixLN); (walk_at "fl"); (walk_at "nat"); (walk_at "num"); (walk_at "num"))
  | ((with_reducible apply Z.w_ixTN); (walk_at "ft"); (walk_at "nat"); (walk_at "num"); (walk_at "num"))
  | ((with_reducible apply Z.w_ixLI); (walk_at "fi"); (walk_at "nat"); (walk_at "num"); (walk_at "num"))
  | ((with_reducible apply Z.w_ixTI); (walk_at "ti"); (walk_at "nat"); (walk_at "num"); (walk_at "num"))
  | ((with_reducible apply Z.i_L); (walk_at "fl"); (intro J S))
  | ((with_reducible apply Z.i_A); (walk_at "fa"); (intro J S))
  | ((with_reducible apply Z.i_T); (walk_at "ft"); (intro J S))
  | ((with_reducible apply Z.i_E); (walk_at "fl"); (intro J S))
  | ((with_reducible apply Z.i_EA); (walk_at "fa"); (intro J S))
  | ((with_reducible apply Z.i_ZT); (walk_at "ft"); (walk_at "ft"); (walk_at "num"); (intro J S))
  | ((with_reducible refine Z.i_R1 ?_ ?_ (fun J S => ?_)); (walk_at "num"); (walk_at "num"))
  | ((with_reducible refine Z.i_R2 ?_ (fun J S => ?_)); (exact ⟨by walk_at "num", by walk_at "num", by walk_at "num", by walk_at "num"⟩))
  | ((with_reducible apply Z.w_tyL); (walk_at "fx"))
  | ((with_reducible apply Z.w_set0); (intro p H2 hn he hp))
  | ((with_reducible apply Z.w_tyS); (walk_at "fx"))
  | ((with_reducible apply Z.w_sin); (walk_at "fx"))
  | ((with_reducible apply Z.w_insC); (walk_at "fx"))
  | ((with_reducible apply Or.inl); (walk_at "st2"))
  | ((with_reducible apply Or.inr); (walk_at "st2"))))
local macro_rules | `(tactic| walk_at "go") => `(tactic| repeat (first | walk_at "st1" | walk_at "st2"))
local macro_rules | `(tactic| walk_at "numb") => `(tactic| first | with_reducible assumption | omega | (simp only [List.length_map, List.length_append, List.length_cons, List.length_nil, List.length_range, List.length_take, List.length_drop, List.length_replicate]; omega) | decide | exact rfl)
local macro_rules | `(tactic| walk_at "br") => `(tactic| (first
  | ((with_reducible refine Z.w_decT ?_ ?_); (walk_at "numb"))
  | ((with_reducible refine Z.w_decF ?_ ?_); (walk_at "numb"))
  | ((with_reducible refine Z.w_ndecF ?_ ?_); (walk_at "numb"))
  | ((with_reducible refine Z.w_ndecT ?_ ?_); (walk_at "numb"))))
local macro_rules | `(tactic| walk_at "run") => `(tactic| repeat (first | walk_at "st1" | walk_at "st2" | walk_at "br"))
local macro_rules | `(tactic| walk_at "bt") => `(tactic| (first | with_reducible assumption | ((with_reducible apply Z.bt_mul); (walk_at "bt"); (walk_at "bt")) | ((with_reducible apply Z.bt_add); (walk_at "bt"); (walk_at "bt")) | ((with_reducible apply Z.bt_sub); (walk_at "bt"); (walk_at "bt")) | ((with_reducible apply Z.bt_neg); (walk_at "bt")) | ((with_reducible apply Z.bt_abs); (walk_at "bt")) | ((with_reducible apply R.Sz.den); with_reducible assumption) | ((with_reducible apply R.Sz.num); with_reducible assumption) | (show _ < 2 ^ 64; omega) | (show _ < 2 ^ 200; omega)))
local macro_rules | `(tactic| walk_at "mul") => `(tactic| first | with_reducible assumption | exact Z.CM.of_right (by decide) | exact Z.CM.of_left (by decide) | exact Z.CM.of_right (by omega) | exact Z.CM.of_left (by omega) | ((with_reducible apply Z.cm); (walk_at "bt"); (walk_at "bt"); (first | decide | omega)))
local macro_rules | `(tactic| walk_at "st1") => `(tactic| (first
  | ((with_reducible apply Z.w_supD); (exact rfl); (walk_at "fx"))
  | ((with_reducible apply Z.w_supK); (exact rfl); (walk_at "fx"))))
def sp_check_lot (K : PySem.W.Frag) : Sp := fun vs H Q E => ∃ (a : Addr) (lot : List Int) (n : Int), vs = [.ref a, .int n] ∧ SqT K H a (lot.map V.int) ∧ (¬ IsLot n lot → ∀ H', Ex H H' → E (.ref (He.ga K "BadLot")) none H') ∧ (IsLot n lot → ∀ H', Ex H H' → Q .non H')
theorem ok_check_lot (T : Tx P K mg) : FnOk P w K mg base (L2.CX P w) 1 (He.ga K "check_lot") (Z.fdOf K (He.ga K "check_lot")) ["lot", "many"] (sp_check_lot K) := by
  refine T.F_check_lot.ok sc_check_lot (fun vs H Q E h => ?_) (fun cdv A outer s H vs Q E hr h => ?_)
  · obtain ⟨a, lot, n, rfl, _⟩ := h
    rfl
  · obtain ⟨a, lot, n, rfl, ha, hE, k⟩ := h
    rw [isLot_iff] at hE k
    refine ⟨_, (pss_cons (ps_set (i := 2) sc_check_lot.nd rfl (Or.inl rfl) (pe_un Z.un_neg pe_int))
      (pss_one (ps_for (passes_of rfl) rfl (Z.piT (K := K) rfl (pv 0)) (pg_name (i := 3) sc_check_lot.nd rfl (by first | exact Or.inl rfl | exact Or.inr rfl)) (pss_cons (ps_if (PW.pt (pw_or (pt_cmpR Z.op_le (pv 3) (pv 2) (nomark _)) (pw_or1 (pt_cmpR Z.op_ge (pv 3) (pv 1) (nomark _))))) (pss_one (ps_raise rfl (takes_of rfl rfl rfl rfl) (pmk_own PySem.F.excBase_ValueError T.x_BadLot.1 T.g_BadLot T.x_BadLot.2.1 (raises_own T.x_BadLot.2.2.1 T.x_BadLot.2.2.2) (by exact rfl)))) pss_nil)
      (pss_one (ps_set (i := 2) sc_check_lot.nd rfl (Or.inl rfl) (pv 3))))))), ?_⟩
    try dsimp only [cxOf, Cx.nox, Cx.wish]
    try (show (_ : TS) _ [some _, some _, none, none] _)
    walk_at "go"
    rename_i J S
    refine Z.fg S (fun i σ G => ∃ (b : Int) (v : Option V), σ = [some (.ref a), some (.int n), some (.int b), v] ∧ Ex H G ∧ (okFrom n b (lot.drop i) ↔ okFrom n (-1) lot)) ⟨-1, none, rfl, Ex.refl H, Iff.rfl⟩ (fun i σ' G _ ⟨_, _, _, e, _⟩ => e.t ha) ?_ ?_
    · rintro i y σ' G G2 hi ⟨b, v, rfl, eG, hiff⟩ e2 hy
      obtain ⟨hi2, rfl⟩ := get_int hy
      rw [List.drop_eq_getElem_cons hi2, ← getD_get lot i 0 hi2] at hiff
      have hiff : (b < lot.getD i 0 ∧ lot.getD i 0 < n ∧ okFrom n (lot.getD i 0) (lot.drop (i + 1))) ↔ okFrom n (-1) lot := hiff
      walk_at "go"
      refine Z.w_dec (fun h => ?_) (fun h => ?_)
      · walk_at "go"
        exact hE (fun z => by have := hiff.mpr z; omega) _ (by walk_at "ex")
      · walk_at "go"
        refine Z.w_dec (fun h' => ?_) (fun h' => ?_)
        · walk_at "go"
          exact hE (fun z => by have := hiff.mpr z; omega) _ (by walk_at "ex")
        · walk_at "go"
          exact ⟨_, _, rfl, eG.trans e2, ⟨fun z => hiff.mp ⟨by omega, by omega, z⟩, fun z => (hiff.mpr z).2.2⟩⟩
    · rintro σ' G ⟨b, v, rfl, eG, hiff⟩
      rw [List.length_map, List.drop_length] at hiff
      walk_at "go"
      exact k (hiff.mp trivial) G eG

theorem ok_BadNumber___init__ (T : Tx P K mg) : FnOk P w K mg base (L2.CX P w) 1 (He.ma K (He.ga K "BadNumber") "__init__") (Z.fdOf K (He.ma K (He.ga K "BadNumber") "__init__")) ["self", "what", "at"] (Z.spX (He.ga K "BadNumber") ["what", "at"]) := by
  refine Z.FunS.ok (x0 := "self") T.F_BadNumber___init__ sc_BadNumber___init__ (by decide +kernel) rfl rfl rfl (by decide +kernel) (by decide +kernel) T.p_top T.n_super T.c_BadNumber (fun vs H Q E h => ?_) (fun cc cda A outer s H vs Q E hr h S => ?_)
  · obtain ⟨a, ws, rfl, hl, _⟩ := h
    simpa using hl
  · obtain ⟨a, ws, rfl, hl, ha, k⟩ := h
    obtain ⟨v1, v2, rfl⟩ : ∃ v1 v2, ws = [v1, v2] := by
      match ws, hl with
      | [v1, v2], _ => exact ⟨v1, v2, rfl⟩
    refine ⟨_, _, Z.ps_supE (Z.pe_supX S T.mro_BadNumber_BadNumber T.third T.si_BadNumber.1 T.si_BadNumber.2.1 (pa_cons pe_str pa_nil)), (pss_cons (ps_ost (pv 0) (pv 1)) (pss_one (ps_ost (pv 0) (pv 2)))), ?_⟩
    refine ⟨a, rfl, T.oe_BadNumber, ha, by decide, ha, ?_⟩
    refine ⟨_, rfl, _, rfl, a, He.ga K "BadNumber", rfl, T.oe_BadNumber, T.nf_BadNumber_what, .inl ⟨ha, fun dx hd hne => ?_⟩⟩
    refine ⟨_, rfl, _, rfl, a, He.ga K "BadNumber", rfl, T.oe_BadNumber, T.nf_BadNumber_at, .inr ⟨dx, _, upd_same, by rw [upd_ne hne, upd_same], by simp, ?_⟩⟩
    rw [Z.upd_swap hne]
    exact k dx hd hne

def sp_check_prices (K : PySem.W.Frag) : Sp := fun vs H Q E => ∃ (a : Addr) (ps : List Int) (n : Int), vs = [.ref a, .int n] ∧ SqL K H a (ps.map V.int) ∧ PErr K n ps E H ∧ (PricesOk n ps → ∀ H', Ex H H' → Q .non H')
theorem ok_check_prices (T : Tx P K mg) : FnOk P w K mg base (L2.CX P w) 3 (He.ga K "check_prices") (Z.fdOf K (He.ga K "check_prices")) ["prices", "many"] (sp_check_prices K) := by
  refine T.F_check_prices.ok sc_check_prices (fun vs H Q E h => ?_) (fun cdv A outer s H vs Q E hr h => ?_)
  · obtain ⟨a, ps, n, rfl, _⟩ := h
    rfl
  · obtain ⟨a, ps, n, rfl, ha, hE, k⟩ := h
    refine ⟨_, (pss_cons (ps_if (pt_cmpR (Z.op_ne (K := K) rfl hr.units) (pe_callB (Z.call_len (K := K) rfl) (by rfl) T.n_len (by decide +kernel) (pa_cons (pv 0) pa_nil)) (pv 1) (nomark _)) (pss_one (Z.ps_raiseZ rfl (takes_of rfl rfl rfl rfl) (pmk_oex T.oe_BadNumber T.si_BadNumber.2.2.1 T.si_BadNumber.2.2.2 (ok_BadNumber___init__ T) (hr.mono (by decide)) T.b_BadNumber___init__ .nil passL (by rfl) T.g_BadNumber (pa_cons pe_str (pa_cons pe_non pa_nil))))) pss_nil)
      (pss_one (ps_for (passes_of rfl) rfl (pi_enum (by rfl) T.n_enumerate (pa_cons (pv 0) pa_nil)) (pg_tup (by rfl) (pgs_cons (pg_name (i := 2) sc_check_prices.nd rfl (by first | exact Or.inl rfl | exact Or.inr rfl)) (pgs_cons (pg_name (i := 3) sc_check_prices.nd rfl (by first | exact Or.inl rfl | exact Or.inr rfl)) pgs_nil))) (pss_one (ps_if (pt_cmpR Z.op_lt (pv 3) pe_int (nomark _)) (pss_one (Z.ps_raiseZ rfl (takes_of rfl rfl rfl rfl) (pmk_oex T.oe_BadNumber T.si_BadNumber.2.2.1 T.si_BadNumber.2.2.2 (ok_BadNumber___init__ T) (hr.mono (by decide)) T.b_BadNumber___init__ .nil passL (by rfl) T.g_BadNumber (pa_cons pe_str (pa_cons (pv 2) pa_nil))))) pss_nil))))), ?_⟩
    try dsimp only [cxOf, Cx.nox, Cx.wish]
    try (show (_ : TS) _ [some _, some _, none, none] _)
    walk_at "go"
    refine Z.w_ndec (fun h => ?_) (fun h => ?_)
    · walk_at "go"
      exact hE.1 h _ _ (by assumption) (by walk_at "ex") (by assumption)
    · walk_at "go"
      rename_i J S
      refine Z.fg S (fun i σ G => ∃ (v2 v3 : Option V), σ = [some (.ref a), some (.int n), v2, v3] ∧ Ex H G ∧ ∀ j, j < i → 0 ≤ ps.getD j 0) ⟨none, none, rfl, Ex.refl H, fun j hj => absurd hj (by omega)⟩ (fun i σ' G _ ⟨_, _, _, e, _⟩ => e.l ha) ?_ ?_
      · rintro i y σ' G G2 hi ⟨v2, v3, rfl, eG, hall⟩ e2 ⟨t, z, rfl, ht, hz⟩
        obtain ⟨hi2, rfl⟩ := get_int hz
        walk_at "go"
        refine Z.w_dec (fun h' => ?_) (fun h' => ?_)
        · walk_at "go"
          exact hE.2 h i hi2 h' hall _ _ (by walk_at "fr") (by walk_at "ex") (by assumption)
        · walk_at "go"
          refine ⟨_, _, rfl, eG.trans e2, fun j hj => ?_⟩
          by_cases e : j = i
          · subst e; omega
          · exact hall j (by omega)
      · rintro σ' G ⟨v2, v3, rfl, eG, hall⟩
        rw [List.length_map] at hall
        walk_at "go"
        exact k ⟨h, all_getD hall⟩ G eG

def sp_lot_at (K : PySem.W.Frag) : Sp := fun vs H Q _ => ∃ (n m : Nat), vs = [.int (n : Int), .int (m : Int)] ∧ m ≤ 1000 ∧ ∀ p H', Fr H p → Ex H H' → At H' p (.tup (nats (lotOf n m))) → Q (.ref p) H'
theorem ok_lot_at (T : Tx P K mg) : FnOk P w K mg base (L2.CX P w) 1 (He.ga K "lot_at") (Z.fdOf K (He.ga K "lot_at")) ["number", "many"] (sp_lot_at K) := by
  refine T.F_lot_at.ok sc_lot_at (fun vs H Q E h => ?_) (fun cdv A outer s H vs Q E hr h => ?_)
  · obtain ⟨n, m, rfl, _⟩ := h
    rfl
  · obtain ⟨n, m, rfl, hm, k⟩ := h
    refine ⟨_, PSs.nox (pss_one (ps_ret (pe_callTy (Z.call_tuple (K := K) rfl) (by rfl) T.n_tuple (by decide +kernel) (pa_cons (pe_lc (own := [("thing", 2)]) rfl sc_lot_at.nd (pi_range1 (by rfl) T.n_range (pa_cons (pv 1) pa_nil)) (blkOk_by (N := ["number", "many", "thing"]) (sc := defScope s_lot_at) (by decide +kernel)) (fun _ _ _ _ _ => (pg_name (i := 2) sc_lot_at.nd rfl (by first | exact Or.inl rfl | exact Or.inr rfl))) (fun _ _ _ _ _ => (pts_one (pt_cmpR (Z.op_eq (K := K) rfl hr.units) (pe_op Z.op_and1 (pe_op Z.op_shr (pv 0) (pv 2)) pe_int) pe_int (nomark _)))) (fun _ _ _ _ _ => (pv 2))) pa_nil)))), ?_⟩
    try dsimp only [cxOf, Cx.nox, Cx.wish]
    try (show (_ : TS) _ [some _, some _, none] _)
    walk_at "go"
    refine Z.cgP (by assumption) (tb n) (fun i => V.int (i : Nat)) (fun _ _ => trivial) (by walk_at "sz") (fun Dl i x H' hi ec c hz y => ?_) (fun p H2 hn he hp => ?_)
    · subst y
      walk_at "go"
      refine Z.w_dec (fun hc => ?_) (fun hc => ?_)
      · rw [Z.fr_T (by unfold tb; simpa using (by omega : n / 2 ^ i % 2 = 1))]
        walk_at "go"
      · rw [Z.fr_F (by unfold tb; simpa using (by omega : ¬ n / 2 ^ i % 2 = 1))]
        exact c
    · walk_at "go"
      rename_i p2 H3 hn3 he3 hp3
      refine k p2 H3 (he.back hn3) (he.trans he3) ?_
      refine hp3.t ?_
      simp [lotOf, nats]

theorem ok_Ratio___lt__ (T : Tx P K mg) : FnOk P w K mg base (L2.CX P w) 1 (He.ma K (He.ga K "Ratio") "__lt__") (Z.fdOf K (He.ma K (He.ga K "Ratio") "__lt__")) ["self", "other"] (spCmp (He.ga K "Ratio") fun q r => decide (q < r)) := by
  refine T.F_Ratio___lt__.ok sc_Ratio___lt__ (fun vs H Q E h => ?_) (fun cdv A outer s H vs Q E hr h => ?_)
  · obtain ⟨a, v, q, r, n, m, rfl, _⟩ := h
    rfl
  · obtain ⟨a, v, q, r, n, m, rfl, ha, hv, hnm, k⟩ := h
    have O := T.o_Ratio
    have cl := T.o_Ratio.cl
    have na1 := T.na_Ratio_top
    have na2 := T.na_Ratio_bottom
    obtain ⟨⟨dx, hx⟩, sq, h9⟩ := ha
    have b1 := sq.1
    have b2 := sq.den
    cases hv with
    | @int i _ hi =>
      simp only [lt_int] at k
      have fx0 := T.o_Ratio
      have fx1 := T.o_Choice
      have fx2 := T.o_Closed
      have fx3 := T.o_Rule
      have fx4 := T.o_Weighted
      refine ⟨_, PSs.nox (pss_cons (ps_if (pt_val (pe_callB (Z.call_isi (K := K) rfl) (by rfl) T.n_isinstance (by decide +kernel) (pa_cons (pv 1) (pa_cons (pe_bltn (v := .ty "int") (u := .type "int") (by rfl) T.n_int (by decide +kernel) rfl) pa_nil)))) (pss_one (ps_ret (pe_cmpR Z.op_lt (Z.fld (K := K) rfl (pv 0) rfl) (pe_op Z.op_mul (pv 1) (Z.fld (K := K) rfl (pv 0) rfl)) (nomark _)))) pss_nil)
      (pss_cons (ps_if (pt_not (pt_val (pe_callB (Z.call_isi (K := K) rfl) (by rfl) T.n_isinstance (by decide +kernel) (pa_cons (pv 1) (pa_cons (pe_glob (v := .ref (He.ga K "Ratio")) (by rfl) T.g_Ratio rfl) pa_nil))))) (pss_one ps_never) pss_nil)
      (pss_one (ps_ret (pe_cmpR Z.op_lt (pe_op Z.op_mul (Z.fld (K := K) rfl (pv 0) rfl) (Z.fld (K := K) rfl (pv 1) rfl)) (pe_op Z.op_mul (Z.fld (K := K) rfl (pv 1) rfl) (Z.fld (K := K) rfl (pv 0) rfl)) (nomark _)))))), ?_⟩
      try dsimp only [cxOf, Cx.nox, Cx.wish]
      try (show (_ : TS) _ [some _, some _] _)
      walk_at "go"
      exact k
    | @rat b r _ hb =>
      obtain ⟨⟨dy, hy⟩, sr, g9⟩ := hb
      have b3 := sr.1
      have b4 := sr.den
      simp only [lt_rat] at k
      have fx0 := T.o_Ratio
      have fx1 := T.o_Choice
      have fx2 := T.o_Closed
      have fx3 := T.o_Rule
      have fx4 := T.o_Weighted
      refine ⟨_, PSs.nox (pss_cons (ps_if (pt_val (pe_callB (Z.call_isi (K := K) rfl) (by rfl) T.n_isinstance (by decide +kernel) (pa_cons (pv 1) (pa_cons (pe_bltn (v := .ty "int") (u := .type "int") (by rfl) T.n_int (by decide +kernel) rfl) pa_nil)))) (pss_one (ps_ret (pe_cmpR Z.op_lt (Z.fld (K := K) rfl (pv 0) rfl) (pe_op Z.op_mul (pv 1) (Z.fld (K := K) rfl (pv 0) rfl)) (nomark _)))) pss_nil)
      (pss_cons (ps_if (pt_not (pt_val (pe_callB (Z.call_isi (K := K) rfl) (by rfl) T.n_isinstance (by decide +kernel) (pa_cons (pv 1) (pa_cons (pe_glob (v := .ref (He.ga K "Ratio")) (by rfl) T.g_Ratio rfl) pa_nil))))) (pss_one ps_never) pss_nil)
      (pss_one (ps_ret (pe_cmpR Z.op_lt (pe_op Z.op_mul (Z.fld (K := K) rfl (pv 0) rfl) (Z.fld (K := K) rfl (pv 1) rfl)) (pe_op Z.op_mul (Z.fld (K := K) rfl (pv 1) rfl) (Z.fld (K := K) rfl (pv 0) rfl)) (nomark _)))))), ?_⟩
      try dsimp only [cxOf, Cx.nox, Cx.wish]
      try (show (_ : TS) _ [some _, some _] _)
      walk_at "go"
      exact k

def sp_dearest_order (K : PySem.W.Frag) : Sp := fun vs H Q _ => ∃ (l : Addr) (xs : List V) (qs : List Rat) (b : Nat), vs = [.ref l] ∧ At H l (.lst xs) ∧ RL (He.ga K "Ratio") H xs qs b ∧ b ≤ 2000 ∧ qs.length ≤ 100 ∧
  ∀ (p : Addr) (H' : Hp) (os : List Nat), Fr H p → Ex H H' → At H' p (.tup ((castL os).map V.int)) → DOrd (ltF fun t => qs.getD t 0) qs.length os → Q (.ref p) H'
theorem ok_dearest_order (T : Tx P K mg) : FnOk P w K mg base (L2.CX P w) 2 (He.ga K "dearest_order") (Z.fdOf K (He.ga K "dearest_order")) ["prices"] (sp_dearest_order K) := by
  refine T.F_dearest_order.ok sc_dearest_order (fun vs H Q E h => ?_) (fun cdv A outer s H vs Q E hr h => ?_)
  · obtain ⟨l, xs, qs, b, rfl, _⟩ := h
    rfl
  · obtain ⟨l, xs, qs, b, rfl, hl, hR, hb, hlen, k⟩ := h
    have hxl := hR.1
    refine ⟨_, PSs.nox (pss_cons (ps_set (i := 1) sc_dearest_order.nd rfl (Or.inl rfl) (pe_lst pa_nil))
      (pss_cons (ps_for PassesOwn.never rfl (pi_enum (by rfl) T.n_enumerate (pa_cons (pv 0) pa_nil)) (pg_tup (by rfl) (pgs_cons (pg_name (i := 2) sc_dearest_order.nd rfl (by first | exact Or.inl rfl | exact Or.inr rfl)) (pgs_cons (pg_name (i := 3) sc_dearest_order.nd rfl (by first | exact Or.inl rfl | exact Or.inr rfl)) pgs_nil))) (pss_cons (ps_set (i := 4) sc_dearest_order.nd rfl (Or.inl rfl) (pe_callB (Z.call_len (K := K) rfl) (by rfl) T.n_len (by decide +kernel) (pa_cons (pv 1) pa_nil)))
      (pss_cons (ps_while PassesOwn.never (PW.pt (pw_and (pt_cmpR Z.op_gt (pv 4) pe_int (nomark _)) (pw_and1 (pt_cmpR (Z.cmp_OO (fun _ _ => rfl) T.o_Ratio T.me_Ratio___lt__.at_ T.me_Ratio___lt__.fn (Z.rawOk (ok_Ratio___lt__ T) T.b_Ratio___lt__) (hr.mono (by decide)) passL) (pe_ix (Z.ix (K := K) rfl) (pv 0) (pe_ix (Z.ix (K := K) rfl) (pv 1) (pe_op Z.op_sub (pv 4) pe_int) (fun _ _ => rfl)) (fun _ _ => rfl)) (pv 3) (nomark _))))) (pss_one (ps_aug (i := 4) sc_dearest_order.nd rfl (Or.inl rfl) pe_int ip_sub)))
      (pss_one (ps_expr (pe_bm PySem.F.plainAttrs_list PySem.F.slot_list_insert PySem.F.type_list_insert Z.mt_ins (pv 1) (pa_cons (pv 4) (pa_cons (pv 2) pa_nil))))))))
      (pss_one (ps_ret (pe_callTy (Z.call_tuple (K := K) rfl) (by rfl) T.n_tuple (by decide +kernel) (pa_cons (pv 1) pa_nil)))))), ?_⟩
    try dsimp only [cxOf, Cx.nox, Cx.wish]
    try (show (_ : TS) _ [some _, none, none, none, none] _)
    walk_at "go"
    rename_i F H1 hF e1 h1 J S
    refine Z.fg S (fun i σ H' => ∃ (os : List Nat) (v2 v3 v4 : Option V), σ = [some (.ref l), some (.ref F), v2, v3, v4] ∧ Ex H H' ∧ At H' F (.lst ((os.map fun n : Nat => (n : Int)).map V.int)) ∧ DOrd (ltF fun t => qs.getD t 0) i os)
      ⟨[], none, none, none, rfl, e1, h1, DOrd.nil _⟩ (fun i σ' H' _ ⟨_, _, _, _, _, e, _⟩ => by walk_at "fl") ?_ ?_
    · rintro i x σ' H' H'' hi ⟨os, v2, v3, v4, rfl, e, hF2, d⟩ e2 ⟨T2, y, rfl, hT, hy⟩
      have hi2 : i < qs.length := by omega
      have hF3 := e2.get hF2
      have hR2 := hR.ex (e.trans e2)
      obtain ⟨a, g1, g2⟩ := hR2.2 i hi2
      rw [g1] at hy
      cases hy
      walk_at "go"
      have hol : os.length = i := d.len
      refine Z.w_while (fun m σ G => σ = [some (.ref l), some (.ref F), some (.int (i : Nat)), some (.ref a), some (.int (m : Nat))] ∧ Ex H'' G ∧ At G F (.lst ((os.map fun n : Nat => (n : Int)).map V.int)) ∧ m ≤ os.length ∧ ∀ x ∈ os.drop m, qs.getD x 0 < qs.getD i 0) os.length ⟨by simp, Ex.refl _, hF3, Nat.le_refl _, by simp⟩ ?_
      rintro m σ' G ⟨rfl, eG, hFG, hm, hlow⟩
      have hend : (∀ x ∈ os.drop m, ltF (fun t => qs.getD t 0) x i) → (m = 0 ∨ ∃ x, os[m - 1]? = some x ∧ ¬ ltF (fun t => qs.getD t 0) x i) → DOrd (ltF fun t => qs.getD t 0) (i + 1) (os.take m ++ [i] ++ os.drop m) := fun a b => d.ins (wk_ratF _) hm a b
      have cast : ∀ m, ((os.map fun n : Nat => (n : Int)).map V.int).take m ++ [V.int (i : Nat)] ++ ((os.map fun n : Nat => (n : Int)).map V.int).drop m = ((os.take m ++ [i] ++ os.drop m).map fun n : Nat => (n : Int)).map V.int := fun m => by
        simp only [List.map_append, List.map_take, List.map_drop]; rfl
      have hRG := hR2.ex eG
      have g2G := g2.ex eG
      have hlG : At G l (.lst xs) := by walk_at "fx"
      have eHG : Ex H G := by walk_at "ex"
      clear hR2 g2 hF3 hF2 hT e1 h1 S hl hR
      walk_at "go"
      refine Z.w_dec (fun h0 => ?_) (fun h0 => ?_)
      · have em : ((m : Int) - 1).toNat = m - 1 := by omega
        have hm1 : m - 1 < os.length := by omega
        have hb2 : (os.getD (m - 1) 0) < qs.length := by
          rw [getD_get _ _ _ hm1]
          have := d.lt (List.getElem_mem hm1)
          omega
        walk_at "go"
        rename_i ra hra
        rw [Int.toNat_natCast]
        refine Z.wb_dec (fun h3 => ?_) (fun h3 => ?_)
        · walk_at "go"
          refine ⟨m - 1, by omega, by rw [← em]; simp; omega, eG, hFG, by omega, fun x hx => ?_⟩
          have ed : os.drop (m - 1) = os[m - 1] :: os.drop m := by
            rw [List.drop_eq_getElem_cons hm1, show m - 1 + 1 = m by omega]
          rw [ed] at hx
          rcases List.mem_cons.mp hx with rfl | hx
          · rw [getD_get os _ _ hm1] at h3
            exact h3
          · exact hlow x hx
        · walk_at "go"
          rename_i H2 hp hnl ho hke
          refine ⟨_, _, _, _, rfl, hke, hp.l (cast _), hend hlow (.inr ⟨os[m - 1], List.getElem?_eq_getElem hm1, ?_⟩)⟩
          rw [getD_get os _ _ hm1] at h3
          exact h3
      · have e0 : m = 0 := by omega
        subst e0
        walk_at "go"
        rename_i H2 hp hnl ho hke
        exact ⟨_, _, _, _, rfl, hke, hp.l (cast _), hend hlow (.inl rfl)⟩
    · rintro σ' H' ⟨os, v2, v3, v4, rfl, e, hF2, d⟩
      rw [hxl] at d
      walk_at "go"
      rename_i p H2 hn he hp
      exact k p H2 os (e.back hn) (e.trans he) hp d

/-- a cell of the script, or 0: some int -/
def sp__law_cell (K : PySem.W.Frag) : Sp := fun vs H Q _ => ∃ (l : Addr) (ns : List Int) (j : Int), vs = [.ref l, .int j] ∧ SqL K H l (ns.map V.int) ∧ 0 ≤ j ∧ ∀ i : Int, Q (.int i) H
theorem ok__law_cell (T : Tx P K mg) : FnOk P w K mg base (L2.CX P w) 1 (He.ga K "_law_cell") (Z.fdOf K (He.ga K "_law_cell")) ["_law_script", "_law_place"] (sp__law_cell K) := by
  refine T.F__law_cell.ok sc__law_cell (fun vs H Q E h => ?_) (fun cdv A outer s H vs Q E hr h => ?_)
  · obtain ⟨l, ns, j, rfl, _⟩ := h
    rfl
  · obtain ⟨l, ns, j, rfl, hl, hj, k⟩ := h
    refine ⟨_, PSs.nox (pss_cons (ps_if (pt_cmpR Z.op_lt (pv 1) (pe_callB (Z.call_len (K := K) rfl) (by rfl) T.n_len (by decide +kernel) (pa_cons (pv 0) pa_nil)) (nomark _)) (pss_one (ps_ret (pe_callTy Z.call_int (by rfl) T.n_int (by decide +kernel) (pa_cons (pe_ix (Z.ix (K := K) rfl) (pv 0) (pv 1) (fun _ _ => rfl)) pa_nil)))) pss_nil)
      (pss_one (ps_ret pe_int))), ?_⟩
    try dsimp only [cxOf, Cx.nox, Cx.wish]
    try (show (_ : TS) _ [some _, some _] _)
    walk_at "go"
    refine Z.w_dec (fun hc => ?_) (fun hc => ?_)
    · walk_at "go"
      exact k _
    · walk_at "go"
      exact k _
theorem u_cell {H : Hp} {Q : VK} {E : XK} {l : Addr} {ns : List Int} {j : Int} (h : SqL K H l (ns.map V.int)) (hj : 0 ≤ j) (k : ∀ i : Int, Q (.int i) H) : sp__law_cell K [.ref l, .int j] H Q E := ⟨l, ns, j, rfl, h, hj, k⟩
local macro_rules | `(tactic| walk_at "call") => `(tactic| ((with_reducible apply R.u_cell); (walk_at "fl"); (walk_at "num"); (intro cell)))

/-- as many numbers as sizes, each below its size -/
def Dr (sz ds : List Int) : Prop := ds.length = sz.length ∧ ∀ k, k < ds.length → 0 ≤ ds.getD k 0 ∧ ds.getD k 0 < sz.getD k 0
def sp__law_draws (K : PySem.W.Frag) : Sp := fun vs H Q _ => ∃ (c : Int) (l : Addr) (sz : List Int), vs = [.int c, .ref l] ∧ SqL K H l (sz.map V.int) ∧ sz.length ≤ 100000 ∧ (∀ z ∈ sz, 0 < z ∧ z < 2 ^ 250) ∧
  ∀ (p : Addr) (H' : Hp) (ds : List Int), Fr H p → Ex H H' → At H' p (.lst (ds.map V.int)) → Dr sz ds → Q (.ref p) H'
theorem dr_snoc {sz ds : List Int} {z : Int} (hl : ds.length < sz.length) (h : ∀ k, k < ds.length → 0 ≤ ds.getD k 0 ∧ ds.getD k 0 < sz.getD k 0) (h0 : 0 ≤ z) (h1 : z < sz.getD ds.length 0) :
    ∀ k, k < (ds ++ [z]).length → 0 ≤ (ds ++ [z]).getD k 0 ∧ (ds ++ [z]).getD k 0 < sz.getD k 0 := by
  intro k hk
  rw [List.length_append] at hk
  by_cases e : k < ds.length
  · have := h k e
    simp only [List.getD_eq_getElem?_getD, List.getElem?_append_left e] at this ⊢
    exact this
  · have ek : k = ds.length := by simp at hk; omega
    subst ek
    simp only [List.getD_eq_getElem?_getD] at h1 ⊢
    simp [h0, h1]
theorem ok__law_draws (T : Tx P K mg) : FnOk P w K mg base (L2.CX P w) 1 (He.ga K "_law_draws") (Z.fdOf K (He.ga K "_law_draws")) ["_law_cell_here", "_law_sizes"] (sp__law_draws K) := by
  refine T.F__law_draws.ok sc__law_draws (fun vs H Q E h => ?_) (fun cdv A outer s H vs Q E hr h => ?_)
  · obtain ⟨c, l, sz, rfl, _⟩ := h
    rfl
  · obtain ⟨c, l, sz, rfl, hl, hz, hp, k⟩ := h
    have gp : ∀ i, i < sz.length → 0 < sz.getD i 0 ∧ sz.getD i 0 < 2 ^ 250 := fun i hi => by
      rw [List.getD_eq_getElem?_getD, List.getElem?_eq_getElem hi]
      exact hp _ (List.getElem_mem hi)
    refine ⟨_, PSs.nox (pss_cons (ps_if (pt_cmpR (Z.op_eq (K := K) rfl hr.units) (pv 0) pe_int (nomark _)) (pss_one (ps_ret (pe_lc (own := [("_law_size", 4)]) rfl sc__law_draws.nd (Z.piL (K := K) rfl (pv 1)) (blkOk_by (N := ["_law_cell_here", "_law_sizes", "_law_left", "_law_found", "_law_size", "_law_k", "_law_low", "_law_high"]) (sc := defScope s__law_draws) (by decide +kernel)) (fun _ _ _ _ _ => (pg_name (i := 4) sc__law_draws.nd rfl (by first | exact Or.inl rfl | exact Or.inr rfl))) (fun _ _ _ _ _ => pts_nil) (fun _ _ _ _ _ => pe_int)))) pss_nil)
      (pss_cons (ps_if (pt_cmpR Z.op_ge (pv 0) (pe_op op_pow pe_int pe_int) (nomark _)) (pss_cons (ps_set (i := 2) sc__law_draws.nd rfl (Or.inl rfl) (pe_op Z.op_sub (pv 0) (pe_op op_pow pe_int pe_int)))
      (pss_cons (ps_set (i := 3) sc__law_draws.nd rfl (Or.inl rfl) (pe_lst pa_nil))
      (pss_cons (ps_for PassesOwn.never rfl (Z.piL (K := K) rfl (pv 1)) (pg_name (i := 4) sc__law_draws.nd rfl (by first | exact Or.inl rfl | exact Or.inr rfl)) (pss_cons (ps_expr (pe_bm PySem.F.plainAttrs_list PySem.F.slot_list_append PySem.F.type_list_append mt_append (pv 3) (pa_cons (pe_op Z.op_mod (pe_callTy Z.call_int (by rfl) T.n_int (by decide +kernel) (pa_cons (pv 2) pa_nil)) (pv 4)) pa_nil)))
      (pss_one (ps_set (i := 2) sc__law_draws.nd rfl (Or.inl rfl) (pe_op Z.op_fdivP (pv 2) (pv 4))))))
      (pss_one (ps_ret (pv 3)))))) pss_nil)
      (pss_cons (ps_set (i := 3) sc__law_draws.nd rfl (Or.inl rfl) (pe_lst pa_nil))
      (pss_cons (ps_for PassesOwn.never rfl (pi_range1 (by rfl) T.n_range (pa_cons (pe_callB (Z.call_len (K := K) rfl) (by rfl) T.n_len (by decide +kernel) (pa_cons (pv 1) pa_nil)) pa_nil)) (pg_name (i := 5) sc__law_draws.nd rfl (by first | exact Or.inl rfl | exact Or.inr rfl)) (pss_cons (ps_set (i := 6) sc__law_draws.nd rfl (Or.inl rfl) (pe_op Z.op_mod (pe_callTy Z.call_int (by rfl) T.n_int (by decide +kernel) (pa_cons (pe_op Z.op_add (pe_op Z.op_mul (pv 0) pe_int) (pe_op Z.op_mul (pe_op Z.op_add (pv 5) pe_int) pe_int)) pa_nil)) pe_int))
      (pss_cons (ps_set (i := 6) sc__law_draws.nd rfl (Or.inl rfl) (pe_op Z.op_mod (pe_callTy Z.call_int (by rfl) T.n_int (by decide +kernel) (pa_cons (pe_op Z.op_add (pe_op Z.op_mul (pv 6) pe_int) (pe_op Z.op_mul (pe_op Z.op_add (pv 5) pe_int) pe_int)) pa_nil)) pe_int))
      (pss_cons (ps_set (i := 7) sc__law_draws.nd rfl (Or.inl rfl) (pe_op Z.op_mod (pe_callTy Z.call_int (by rfl) T.n_int (by decide +kernel) (pa_cons (pe_op Z.op_add (pe_op Z.op_mul (pv 0) pe_int) (pe_op Z.op_mul (pe_op Z.op_add (pv 5) pe_int) pe_int)) pa_nil)) pe_int))
      (pss_cons (ps_set (i := 7) sc__law_draws.nd rfl (Or.inl rfl) (pe_op Z.op_mod (pe_callTy Z.call_int (by rfl) T.n_int (by decide +kernel) (pa_cons (pe_op Z.op_add (pe_op Z.op_mul (pv 7) pe_int) (pv 6)) pa_nil)) pe_int))
      (pss_one (ps_expr (pe_bm PySem.F.plainAttrs_list PySem.F.slot_list_append PySem.F.type_list_append mt_append (pv 3) (pa_cons (pe_op Z.op_mod (pe_callTy Z.call_int (by rfl) T.n_int (by decide +kernel) (pa_cons (pe_op Z.op_add (pe_op Z.op_mul (pv 7) pe_int) (pv 6)) pa_nil)) (pe_ix (Z.ix (K := K) rfl) (pv 1) (pv 5) (fun _ _ => rfl))) pa_nil)))))))))
      (pss_one (ps_ret (pv 3))))))), ?_⟩
    try dsimp only [cxOf, Cx.nox, Cx.wish]
    try (show (_ : TS) _ [some _, some _, none, none, none, none, none, none] _)
    walk_at "go"
    refine Z.w_dec (fun hc => ?_) (fun hc => ?_)
    · walk_at "go"
      rename_i J S p H2 hn he hp
      refine k p H2 (List.replicate sz.length 0) hn he (hp.l (by rw [List.length_map])) ⟨List.length_replicate, fun i hi => ?_⟩
      · rw [List.length_replicate] at hi
        simp only [List.getD_eq_getElem?_getD, List.getElem?_replicate, hi, if_true, Option.getD_some]
        have := (gp i hi).1
        rw [List.getD_eq_getElem?_getD] at this
        exact ⟨Int.le_refl 0, this⟩
    · walk_at "go"
      refine Z.w_dec (fun hd => ?_) (fun hd => ?_)
      · walk_at "go"
        rename_i F H1 hF e1 h1 J S
        refine Z.fg S (fun i σ H' => ∃ (left : Int) (ds : List Int) (v : Option V), σ = [some (.int c), some (.ref l), some (.int left), some (.ref F), v, none, none, none] ∧ Ex H H' ∧ At H' F (.lst (ds.map V.int)) ∧ ds.length = i ∧ ∀ k, k < ds.length → 0 ≤ ds.getD k 0 ∧ ds.getD k 0 < sz.getD k 0)
          ⟨_, [], none, rfl, e1, h1, rfl, fun k hk => absurd hk (by simp)⟩ (fun i σ' H' _ ⟨_, _, _, _, e, _⟩ => by walk_at "fl") ?_ ?_
        · rintro i x σ' H' H'' hi ⟨left, ds, v, rfl, e, hds, hlen, hall⟩ e2 hx
          rw [List.length_map] at hi
          rw [List.getElem?_map, List.getElem?_eq_getElem hi] at hx
          obtain rfl := (Option.some.inj hx).symm
          have g0 := gp i hi
          have ei : sz.getD i 0 = sz[i] := by rw [List.getD_eq_getElem?_getD, List.getElem?_eq_getElem hi]; rfl
          rw [ei] at g0
          have hds2 := e2.get hds
          have hdv : CDivW left sz[i] := wide_div (b := 250) g0.1 (by have := g0.2; have := g0.1; omega) (by decide) (by decide)
          walk_at "go"
          rename_i H2 hp2 hnl2 ho2 hke
          refine ⟨_, ds ++ [left % sz[i]], some _, rfl, hke, hp2.l (by rw [List.map_append]; rfl), by simp [hlen], dr_snoc (by omega) hall (Int.emod_nonneg _ (by omega)) ?_⟩
          rw [hlen, ei]
          exact Int.emod_lt_of_pos _ g0.1
        · rintro σ' H' ⟨left, ds, v, rfl, e, hds, hlen, hall⟩
          walk_at "go"
          exact k F H' ds hF e hds ⟨by simpa using hlen, hall⟩
      · walk_at "go"
        rename_i F H1 hF e1 h1 J S
        refine Z.fg S (fun i σ H' => ∃ (ds : List Int) (v5 v6 v7 : Option V), σ = [some (.int c), some (.ref l), none, some (.ref F), none, v5, v6, v7] ∧ Ex H H' ∧ At H' F (.lst (ds.map V.int)) ∧ ds.length = i ∧ ∀ k, k < ds.length → 0 ≤ ds.getD k 0 ∧ ds.getD k 0 < sz.getD k 0)
          ⟨[], none, none, none, rfl, e1, h1, rfl, fun k hk => absurd hk (by simp)⟩ (fun i σ' H' _ _ => trivial) ?_ ?_
        · rintro i x σ' H' H'' hi ⟨ds, v5, v6, v7, rfl, e, hds, hlen, hall⟩ e2 rfl
          have hi' : i < sz.length := by simpa using hi
          have g0 := gp i hi'
          have hds2 := e2.get hds
          have g1 : 0 < sz.getD (Int.toNat (i : Int)) 0 := by rw [Int.toNat_natCast]; exact g0.1
          walk_at "go"
          rename_i H2 hp2 hnl2 ho2 hke
          refine ⟨ds ++ [_], some _, some _, some _, rfl, hke, hp2.l (by rw [List.map_append]; rfl), by simp [hlen], dr_snoc (by omega) hall (Int.emod_nonneg _ (by omega)) ?_⟩
          rw [hlen]
          exact Int.emod_lt_of_pos _ g1
        · rintro σ' H' ⟨ds, v5, v6, v7, rfl, e, hds, hlen, hall⟩
          walk_at "go"
          exact k F H' ds hF e hds ⟨by simpa using hlen, hall⟩
theorem u_draws {H : Hp} {Q : VK} {E : XK} {l : Addr} {sz : List Int} {c : Int} (h : SqL K H l (sz.map V.int)) (hz : sz.length ≤ 100000 ∧ ∀ z ∈ sz, 0 < z ∧ z < 2 ^ 250) (k : ∀ (p : Addr) (H' : Hp) (ds : List Int), Fr H p → Ex H H' → At H' p (.lst (ds.map V.int)) → Dr sz ds → Q (.ref p) H') : sp__law_draws K [.int c, .ref l] H Q E :=
  ⟨c, l, sz, rfl, h, hz.1, hz.2, k⟩
theorem Dr.all {n : Nat} {c : Int} {ds : List Int} (h : Dr (List.replicate n c) ds) : ds.length = n ∧ ∀ x ∈ ds, 0 ≤ x ∧ x < c := by
  have hl : ds.length = n := by rw [h.1, List.length_replicate]
  refine ⟨hl, fun x hx => ?_⟩
  obtain ⟨i, hi, rfl⟩ := List.mem_iff_getElem.mp hx
  have q := h.2 i hi
  rw [getD_get _ _ _ hi, List.getD_eq_getElem?_getD, List.getElem?_replicate, if_pos (by omega)] at q
  exact q
/-- the bounds one by one -/
def Bs : List Int → List Int → Nat → Prop
  | [], _, _ => True
  | z :: r, ds, k => (0 ≤ ds.getD k 0 ∧ ds.getD k 0 < z) ∧ Bs r ds (k + 1)
theorem bs_of : ∀ (sz ds : List Int) (k : Nat), (∀ i, i < sz.length → 0 ≤ ds.getD (k + i) 0 ∧ ds.getD (k + i) 0 < sz.getD i 0) → Bs sz ds k
  | [], _, _, _ => trivial
  | z :: r, ds, k, h => ⟨by have := h 0 (by simp); simpa using this, bs_of r ds (k + 1) fun i hi => by
      have := h (i + 1) (by simpa using hi)
      rw [show k + 1 + i = k + (i + 1) by omega]
      simpa using this⟩
theorem Dr.bnd {sz ds : List Int} (h : Dr sz ds) : ds.length = sz.length ∧ Bs sz ds 0 := ⟨h.1, bs_of sz ds 0 fun i hi => by rw [Nat.zero_add]; exact h.2 i (by rw [h.1]; exact hi)⟩
theorem Dr.drop {sz ds : List Int} {j : Nat} {c : Int} (h : Dr sz ds) (hz : ∀ z ∈ sz.drop j, z ≤ c) : ∀ x ∈ ds.drop j, 0 ≤ x ∧ x < c := fun x hx => by
  obtain ⟨i, hi, rfl⟩ := List.mem_iff_getElem.mp hx
  have h1 : j + i < ds.length := by rw [List.length_drop] at hi; omega
  have h2 : j + i < sz.length := by rw [← h.1]; exact h1
  have q := h.2 (j + i) h1
  rw [getD_get _ _ _ h1, getD_get _ _ _ h2] at q
  have h3 : i < (sz.drop j).length := by rw [List.length_drop]; omega
  have := hz (sz.drop j)[i] (List.getElem_mem h3)
  rw [List.getElem_drop] at this ⊢
  omega
theorem Dr.whole {sz ds : List Int} {c : Int} (h : Dr sz ds) (hz : ∀ z ∈ sz, z ≤ c) : ∀ x ∈ ds, 0 ≤ x ∧ x < c := h.drop (j := 0) hz
local macro_rules | `(tactic| walk_at "call") => `(tactic| ((with_reducible apply R.u_draws); (walk_at "fi"); (first | decide | with_reducible assumption); (intro p H2 ds hn he hp hd); (try dsimp only at hd); (try (have hb := R.Dr.bnd hd; simp only [R.Bs, List.length_cons, List.length_nil, Nat.reduceAdd, and_true] at hb))))

def sp__law_row (K : PySem.W.Frag) : Sp := fun vs H Q _ => ∃ (c n : Int), vs = [.int c, .int n] ∧ 0 ≤ n ∧ n ≤ 50000 ∧
  ∀ (p : Addr) (H' : Hp) (ns : List Int), Fr H p → Ex H H' → At H' p (.lst (ns.map V.int)) → ns.length = n.toNat → (∀ x ∈ ns, 0 ≤ x ∧ x < 999999999999999999) → Q (.ref p) H'
theorem ok__law_row (T : Tx P K mg) : FnOk P w K mg base (L2.CX P w) 2 (He.ga K "_law_row") (Z.fdOf K (He.ga K "_law_row")) ["_law_cell_here", "_law_count"] (sp__law_row K) := by
  refine T.F__law_row.ok sc__law_row (fun vs H Q E h => ?_) (fun cdv A outer s H vs Q E hr h => ?_)
  · obtain ⟨c, n, rfl, _⟩ := h
    rfl
  · obtain ⟨c, n, rfl, hn0, hn1, k⟩ := h
    refine ⟨_, PSs.nox (pss_cons (ps_set (i := 2) sc__law_row.nd rfl (Or.inl rfl) (pe_call (ok__law_draws T) (hr.mono (by decide)) (by rfl) T.g__law_draws T.F__law_draws.kp T.b__law_draws .nil passL (pa_cons (pv 0) (pa_cons (pe_op Z.op_add (pe_lst (pa_cons pe_int pa_nil)) (pe_lc (own := [("_law_k", 4)]) rfl sc__law_row.nd (pi_range1 (by rfl) T.n_range (pa_cons (pv 1) pa_nil)) (blkOk_by (N := ["_law_cell_here", "_law_count", "_law_drawn", "_law_bound", "_law_k", "_law_value"]) (sc := defScope s__law_row) (by decide +kernel)) (fun _ _ _ _ _ => (pg_name (i := 4) sc__law_row.nd rfl (by first | exact Or.inl rfl | exact Or.inr rfl))) (fun _ _ _ _ _ => pts_nil) (fun _ _ _ _ _ => (pe_op op_pow pe_int pe_int)))) pa_nil))))
      (pss_cons (ps_set (i := 3) sc__law_row.nd rfl (Or.inr rfl) (pe_ix (Z.ix (K := K) rfl) (pe_lst (pa_cons pe_int (pa_cons pe_int (pa_cons (pe_op op_pow pe_int pe_int) (pa_cons (pe_op Z.op_sub (pe_op op_pow pe_int pe_int) pe_int) pa_nil))))) (pe_ix (Z.ix (K := K) rfl) (pv 2) pe_int (fun _ _ => rfl)) (fun _ _ => rfl)))
      (pss_one (ps_ret (pe_lc (own := [("_law_value", 5)]) rfl sc__law_row.nd (Z.piL (K := K) rfl (pe_slice (Z.slL (K := K) rfl) (pv 2) (po_some pe_int) po_none)) (blkOk_by (N := ["_law_cell_here", "_law_count", "_law_drawn", "_law_bound", "_law_k", "_law_value"]) (sc := defScope s__law_row) (by decide +kernel)) (fun _ _ _ _ _ => (pg_name (i := 5) sc__law_row.nd rfl (by first | exact Or.inl rfl | exact Or.inr rfl))) (fun _ _ _ _ _ => pts_nil) (fun _ _ _ _ _ => (pe_op Z.op_mod (pe_callTy Z.call_int (by rfl) T.n_int (by decide +kernel) (pa_cons (pv 5) pa_nil)) (pv 3)))))))), ?_⟩
    try dsimp only [cxOf, Cx.nox, Cx.wish]
    try (show (_ : TS) _ [some _, some _, none, none, none, none] _)
    walk_at "go"
    rename_i p0 H0 hn0 he0 hp0 J1 S1 p1 H1 hn1' he1 hp1 p2 H2 hn2 he2 hp2
    refine u_draws (sz := 4 :: List.replicate n.toNat 1000000000000000000) (sq_of hp2) ⟨by simp; omega, ?_⟩ fun p3 H3 ds hn3 he3 hp3 hd => ?_
    · intro z hz
      rcases List.mem_cons.mp hz with rfl | hz
      · decide
      · rw [List.eq_of_mem_replicate hz]; decide
    have hl : ds.length = n.toNat + 1 := by rw [hd.1]; simp
    have h0 := hd.2 0 (by omega)
    have h0' : ds.getD 0 0 < 4 := h0.2
    walk_at "go"
    rename_i p4 H4 hn4 he4 hp4 p5 H5 hn5 he5 hp5 J5 S5
    have hbd : ∃ bd : Int, ([4, 30, 1000000000, 1000000000000000000 - 1] : List Int).getD (ds.getD 0 0).toNat 0 = bd ∧ 0 < bd ∧ bd ≤ 999999999999999999 := by
      have : ds.getD 0 0 = 0 ∨ ds.getD 0 0 = 1 ∨ ds.getD 0 0 = 2 ∨ ds.getD 0 0 = 3 := by omega
      rcases this with e | e | e | e <;> rw [e] <;> exact ⟨_, rfl, by decide, by decide⟩
    obtain ⟨bd, ebd, hbd0, hbd1⟩ := hbd
    rw [ebd]
    have hlen : (ds.drop (Int.toNat 1)).length = n.toNat := by simp [hl]
    generalize hds : ds.drop (Int.toNat 1) = es at *
    refine Z.cgI S5 (fun i => es.getD i 0 % bd) (fun H' e => by walk_at "fl") (by rw [List.length_map, hlen]; show _ ≤ 16777216; omega) (fun Dl i x H' hi ec c y => ?_) (fun p8 H8 hn8 he8 hp8 => ?_) rfl
    · obtain ⟨hi2, rfl⟩ := get_int y
      walk_at "go"
    · rw [List.length_map, hlen] at hp8
      refine k p8 H8 _ (by walk_at "fr") (by walk_at "ex") hp8 (by simp) ?_
      intro x hx
      obtain ⟨i, _, rfl⟩ := List.mem_map.mp hx
      exact ⟨Int.emod_nonneg _ (by omega), Int.lt_of_lt_of_le (Int.emod_lt_of_pos _ hbd0) hbd1⟩
theorem u_row {H : Hp} {Q : VK} {E : XK} {c n : Int} (h0 : 0 ≤ n) (h1 : n ≤ 50000) (k : ∀ (p : Addr) (H' : Hp) (ns : List Int), Fr H p → Ex H H' → At H' p (.lst (ns.map V.int)) → ns.length = n.toNat → (∀ x ∈ ns, 0 ≤ x ∧ x < 999999999999999999) → Q (.ref p) H') : sp__law_row K [.int c, .int n] H Q E := ⟨c, n, rfl, h0, h1, k⟩
local macro_rules | `(tactic| walk_at "call") => `(tactic| ((with_reducible apply R.u_row); (walk_at "num"); (walk_at "num"); (intro p H2 ns hn he hp hl hx)))

def sp__law_ups (K : PySem.W.Frag) : Sp := fun vs H Q _ => ∃ (a : Addr) (ns : List Int), vs = [.ref a] ∧ SqL K H a (ns.map V.int) ∧ ns.length ≤ 100000 ∧ ∀ p H', Fr H p → Ex H H' → At H' p (.lst ((ns.map fun x => 1 + x).map V.int)) → Q (.ref p) H'
theorem ok__law_ups (T : Tx P K mg) : FnOk P w K mg base (L2.CX P w) 1 (He.ga K "_law_ups") (Z.fdOf K (He.ga K "_law_ups")) ["_law_row_here"] (sp__law_ups K) := by
  refine T.F__law_ups.ok sc__law_ups (fun vs H Q E h => ?_) (fun cdv A outer s H vs Q E hr h => ?_)
  · obtain ⟨a, ns, rfl, _⟩ := h
    rfl
  · obtain ⟨a, ns, rfl, ha, hl, k⟩ := h
    refine ⟨_, PSs.nox (pss_one (ps_ret (pe_lc (own := [("_law_number", 1)]) rfl sc__law_ups.nd (Z.piL (K := K) rfl (pv 0)) (blkOk_by (N := ["_law_row_here", "_law_number"]) (sc := defScope s__law_ups) (by decide +kernel)) (fun _ _ _ _ _ => (pg_name (i := 1) sc__law_ups.nd rfl (by first | exact Or.inl rfl | exact Or.inr rfl))) (fun _ _ _ _ _ => pts_nil) (fun _ _ _ _ _ => (pe_op Z.op_add pe_int (pv 1)))))), ?_⟩
    try dsimp only [cxOf, Cx.nox, Cx.wish]
    try (show (_ : TS) _ [some _, none] _)
    walk_at "go"
    rename_i J S
    refine Z.cgI S (fun i => 1 + ns.getD i 0) (fun H' e => by walk_at "fl") (by rw [List.length_map]; show _ ≤ 16777216; omega) (fun Dl i x H' hi ec c y => ?_) (fun p2 H2 hn2 he2 hp2 => ?_) rfl
    · obtain ⟨hi2, rfl⟩ := get_int y
      walk_at "go"
    · rw [List.length_map, range_map ns (fun x => 1 + x)] at hp2
      exact k p2 H2 hn2 he2 hp2
theorem u_ups {H : Hp} {Q : VK} {E : XK} {a : Addr} {ns : List Int} (h : SqL K H a (ns.map V.int)) (hl : ns.length ≤ 100000) (k : ∀ p H', Fr H p → Ex H H' → At H' p (.lst ((ns.map fun x => 1 + x).map V.int)) → Q (.ref p) H') : sp__law_ups K [.ref a] H Q E := ⟨a, ns, rfl, h, hl, k⟩
local macro_rules | `(tactic| walk_at "call") => `(tactic| ((with_reducible apply R.u_ups); (walk_at "fi"); (walk_at "num"); (intro p H2 hn he hp)))

def sp__law_lot (K : PySem.W.Frag) : Sp := fun vs H Q _ => ∃ (n m : Nat), vs = [.int (n : Int), .int (m : Int)] ∧ m ≤ 1000 ∧ ∀ p H', Fr H p → Ex H H' → At H' p (.tup (nats (lotOf n m))) → Q (.ref p) H'
theorem ok__law_lot (T : Tx P K mg) : FnOk P w K mg base (L2.CX P w) 1 (He.ga K "_law_lot") (Z.fdOf K (He.ga K "_law_lot")) ["_law_bits", "_law_many"] (sp__law_lot K) := by
  refine T.F__law_lot.ok sc__law_lot (fun vs H Q E h => ?_) (fun cdv A outer s H vs Q E hr h => ?_)
  · obtain ⟨n, m, rfl, _⟩ := h
    rfl
  · obtain ⟨n, m, rfl, hm, k⟩ := h
    refine ⟨_, PSs.nox (pss_cons (ps_set (i := 2) sc__law_lot.nd rfl (Or.inl rfl) (pe_lst pa_nil))
      (pss_cons (ps_set (i := 3) sc__law_lot.nd rfl (Or.inl rfl) (pe_callTy Z.call_int (by rfl) T.n_int (by decide +kernel) (pa_cons (pv 0) pa_nil)))
      (pss_cons (ps_for PassesOwn.never rfl (pi_range1 (by rfl) T.n_range (pa_cons (pv 1) pa_nil)) (pg_name (i := 4) sc__law_lot.nd rfl (by first | exact Or.inl rfl | exact Or.inr rfl)) (C8.pss_cut (ps_if (pt_cmpR (Z.op_eq (K := K) rfl hr.units) (pe_op Z.op_mod (pv 3) pe_int) pe_int (nomark _)) (pss_one (ps_expr (pe_bm PySem.F.plainAttrs_list PySem.F.slot_list_append PySem.F.type_list_append mt_append (pv 2) (pa_cons (pv 4) pa_nil)))) pss_nil)
      (pss_one (ps_set (i := 3) sc__law_lot.nd rfl (Or.inl rfl) (pe_op Z.op_fdivP (pv 3) pe_int)))))
      (pss_one (ps_ret (pe_callTy (Z.call_tuple (K := K) rfl) (by rfl) T.n_tuple (by decide +kernel) (pa_cons (pv 2) pa_nil))))))), ?_⟩
    try dsimp only [cxOf, Cx.nox, Cx.wish]
    try (show (_ : TS) _ [some _, some _, none, none, none] _)
    walk_at "go"
    rename_i F H1 hF e1 h1 J S
    have hlen : ∀ i, (lotOf n i).length ≤ i := fun i => by unfold lotOf; exact Nat.le_trans (List.length_filter_le _ _) (by simp)
    refine Z.fg S (fun i σ G => ∃ v, σ = [some (.int (n : Int)), some (.int (m : Int)), some (.ref F), some (.int ((n / 2 ^ i : Nat) : Int)), v] ∧ Ex H G ∧ At G F (.lst (nats (lotOf n i)))) ⟨none, by simp [L2.start], e1, h1⟩ (fun i σ' G _ _ => trivial) ?_ ?_
    · rintro i x σ' G G2 hi ⟨v, rfl, e, hG⟩ e2 rfl
      have hG2 := e2.get hG
      have hl2 := hlen i
      have hs := lotOf_succ n i
      walk_at "go"
      refine Z.w_cut (fun σ2 G3 => σ2 = [some (.int (n : Int)), some (.int (m : Int)), some (.ref F), some (.int ((n / 2 ^ i : Nat) : Int)), some (.int (i : Nat))] ∧ Ex H G3 ∧ At G3 F (.lst (nats (lotOf n (i + 1))))) ?_ ?_
      · walk_at "go"
        refine Z.w_dec (fun hc => ?_) (fun hc => ?_)
        · have ht : tb n i = true := by unfold tb; simp; omega
          rw [ht] at hs
          walk_at "go"
          rename_i H2 hp hnl ho hke
          exact ⟨rfl, hke, hp.l (by rw [hs]; simp [nats])⟩
        · have ht : tb n i = false := by unfold tb; simp; omega
          rw [ht] at hs
          walk_at "go"
          exact ⟨rfl, e.trans e2, hG2.l (by rw [hs]; simp [nats])⟩
      rintro σ2 G3 ⟨rfl, e3, h3⟩
      walk_at "go"
      refine ⟨some (.int (i : Nat)), ?_, e3, h3⟩
      have ed : ((n / 2 ^ i : Nat) : Int) / 2 = ((n / 2 ^ (i + 1) : Nat) : Int) := by
        rw [Nat.pow_succ, ← Nat.div_div_eq_div_mul]; rfl
      rw [← ed]
      try rfl
    · rintro σ' G ⟨v, rfl, e, hG⟩
      walk_at "go"
      rename_i p H2 hn he hp
      rw [Int.toNat_natCast] at hp
      exact k p H2 (e.back hn) (e.trans he) hp
/-- .. of ints -/
theorem u_lot {H : Hp} {Q : VK} {E : XK} {c m : Int} (hc : 0 ≤ c) (hm : 0 ≤ m) (hm2 : m ≤ 1000) (k : ∀ p H' (lot : List Int), Fr H p → Ex H H' → At H' p (.tup (lot.map V.int)) → lot = (lotOf c.toNat m.toNat).map (fun n : Nat => (n : Int)) → Q (.ref p) H') : sp__law_lot K [.int c, .int m] H Q E := by
  obtain ⟨c, rfl⟩ := Int.eq_ofNat_of_zero_le hc
  obtain ⟨m, rfl⟩ := Int.eq_ofNat_of_zero_le hm
  exact ⟨c, m, rfl, by omega, fun p H' h1 h2 h3 => k p H' _ h1 h2 h3 rfl⟩
local macro_rules | `(tactic| walk_at "call") => `(tactic| ((with_reducible apply R.u_lot); (walk_at "num"); (walk_at "num"); (walk_at "num"); (intro p H2 lot hn he hp hlot)))

def sp__law_power : Sp := fun vs H Q _ => ∃ m : Nat, vs = [.int (m : Int)] ∧ m ≤ 1000 ∧ ∀ H', Ex H H' → Q (.int ((2 ^ m : Nat) : Int)) H'
theorem ok__law_power (T : Tx P K mg) : FnOk P w K mg base (L2.CX P w) 1 (He.ga K "_law_power") (Z.fdOf K (He.ga K "_law_power")) ["_law_many"] sp__law_power := by
  refine T.F__law_power.ok sc__law_power (fun vs H Q E h => ?_) (fun cdv A outer s H vs Q E hr h => ?_)
  · obtain ⟨m, rfl, _⟩ := h
    rfl
  · obtain ⟨m, rfl, hm, k⟩ := h
    refine ⟨_, PSs.nox (pss_cons (ps_set (i := 1) sc__law_power.nd rfl (Or.inl rfl) pe_int)
      (pss_cons (ps_for PassesOwn.never rfl (pi_range1 (by rfl) T.n_range (pa_cons (pv 0) pa_nil)) (pg_name (i := 2) sc__law_power.nd rfl (by first | exact Or.inl rfl | exact Or.inr rfl)) (pss_one (ps_set (i := 1) sc__law_power.nd rfl (Or.inl rfl) (pe_op Z.op_mul (pv 1) pe_int))))
      (pss_one (ps_ret (pv 1))))), ?_⟩
    try dsimp only [cxOf, Cx.nox, Cx.wish]
    try (show (_ : TS) _ [some _, none, none] _)
    walk_at "go"
    refine Z.fg (by assumption) (fun i σ G => ∃ v, σ = [some (.int (m : Int)), some (.int ((2 ^ i : Nat) : Int)), v] ∧ Ex H G) ⟨none, rfl, Ex.refl _⟩ (fun i σ' G _ _ => trivial) ?_ ?_
    · rintro i x σ' G G2 hi ⟨v, rfl, e⟩ e2 y
      walk_at "go"
      refine ⟨some x, ?_, e.trans e2⟩
      rw [Nat.pow_succ, Int.natCast_mul]
      rfl
    · rintro σ' G ⟨v, rfl, e⟩
      walk_at "go"
      rw [Int.toNat_natCast]
      exact k _ e

def sp__law_is_int : Sp := fun vs H Q _ => ∃ i : Int, vs = [.int i] ∧ Q (.bl true) H
theorem ok__law_is_int (T : Tx P K mg) : FnOk P w K mg base (L2.CX P w) 1 (He.ga K "_law_is_int") (Z.fdOf K (He.ga K "_law_is_int")) ["_law_x"] sp__law_is_int := by
  refine T.F__law_is_int.ok sc__law_is_int (fun vs H Q E h => ?_) (fun cdv A outer s H vs Q E hr h => ?_)
  · obtain ⟨i, rfl, _⟩ := h
    rfl
  · obtain ⟨i, rfl, k⟩ := h
    refine ⟨_, PSs.nox (pss_one (ps_ret (pe_and (pe_callB (Z.call_isi (K := K) rfl) (by rfl) T.n_isinstance (by decide +kernel) (pa_cons (pv 0) (pa_cons (pe_bltn (v := .ty "int") (u := .type "int") (by rfl) T.n_int (by decide +kernel) rfl) pa_nil))) (pe_one (pe_not (pe_callB (Z.call_isi (K := K) rfl) (by rfl) T.n_isinstance (by decide +kernel) (pa_cons (pv 0) (pa_cons (pe_bltn (v := .ty "bool") (u := .type "bool") (by rfl) T.n_bool (by decide +kernel) rfl) pa_nil)))))))), ?_⟩
    try dsimp only [cxOf, Cx.nox, Cx.wish]
    try (show (_ : TS) _ [some _] _)
    walk_at "go"
    exact k
theorem u_isint {H : Hp} {Q : VK} {E : XK} {i : Int} (k : Q (.bl true) H) : sp__law_is_int [.int i] H Q E := ⟨i, rfl, k⟩
local macro_rules | `(tactic| walk_at "call") => `(tactic| ((with_reducible refine R.u_isint ?_)))

theorem w_isiTS {K : PySem.W.Frag} {H : Hp} {Q : VK} {a : Addr} {xs : List V} (h : SqT K H a xs) (q : Q (.bl true) H) : rIsi K [.ref a, .ty "tuple"] H Q := by
  rcases h with (h | ⟨o, h⟩) | ⟨o, its, n, h1, h2, h3⟩
  · exact w_isiTT h q
  · exact w_isiB (.fTuple h) (by decide +kernel) q
  · exact w_isiB (.kTuple h1 h2) (by decide +kernel) q
/-- the very same tuple of ints -/
def sp__law_same_lot (K : PySem.W.Frag) : Sp := fun vs H Q _ => ∃ (a b : Addr) (ns : List Int), vs = [.ref a, .ref b] ∧ SqT K H a (ns.map V.int) ∧ SqA K H b (ns.map V.int) ∧ ns.length ≤ 100000 ∧ ∀ H', Ex H H' → Q (.bl true) H'
theorem ok__law_same_lot (T : Tx P K mg) : FnOk P w K mg base (L2.CX P w) 2 (He.ga K "_law_same_lot") (Z.fdOf K (He.ga K "_law_same_lot")) ["_law_x", "_law_due_here"] (sp__law_same_lot K) := by
  refine T.F__law_same_lot.ok sc__law_same_lot (fun vs H Q E h => ?_) (fun cdv A outer s H vs Q E hr h => ?_)
  · obtain ⟨a, b, ns, rfl, _⟩ := h
    rfl
  · obtain ⟨a, b, ns, rfl, ha, hb, hl, k⟩ := h
    rcases hb with hb | hb
    · skip
      refine ⟨_, PSs.nox (pss_cons (ps_if (PW.pt (pw_or (pt_not (pt_val (pe_callB (Z.call_isi (K := K) rfl) (by rfl) T.n_isinstance (by decide +kernel) (pa_cons (pv 0) (pa_cons (pe_bltn (v := .ty "tuple") (u := .type "tuple") (by rfl) T.n_tuple (by decide +kernel) rfl) pa_nil))))) (pw_or1 (pt_cmpR (Z.op_ne (K := K) rfl hr.units) (pe_callB (Z.call_len (K := K) rfl) (by rfl) T.n_len (by decide +kernel) (pa_cons (pv 0) pa_nil)) (pe_callB (Z.call_len (K := K) rfl) (by rfl) T.n_len (by decide +kernel) (pa_cons (pv 1) pa_nil)) (nomark _))))) (pss_one (ps_ret pe_bl)) pss_nil)
      (pss_cons (ps_for PassesOwn.never rfl (pi_range1 (by rfl) T.n_range (pa_cons (pe_callB (Z.call_len (K := K) rfl) (by rfl) T.n_len (by decide +kernel) (pa_cons (pv 1) pa_nil)) pa_nil)) (pg_name (i := 2) sc__law_same_lot.nd rfl (by first | exact Or.inl rfl | exact Or.inr rfl)) (pss_one (ps_if (PW.pt (pw_or (pt_not (pt_val (pe_call (ok__law_is_int T) (hr.mono (by decide)) (by rfl) T.g__law_is_int T.F__law_is_int.kp T.b__law_is_int .nil passL (pa_cons (pe_ix (Z.ix (K := K) rfl) (pv 0) (pv 2) (fun _ _ => rfl)) pa_nil)))) (pw_or1 (pt_cmpR (Z.op_ne (K := K) rfl hr.units) (pe_ix (Z.ix (K := K) rfl) (pv 0) (pv 2) (fun _ _ => rfl)) (pe_ix (Z.ix (K := K) rfl) (pv 1) (pv 2) (fun _ _ => rfl)) (nomark _))))) (pss_one (ps_ret pe_bl)) pss_nil)))
      (pss_one (ps_ret pe_bl)))), ?_⟩
      try dsimp only [cxOf, Cx.nox, Cx.wish]
      try (show (_ : TS) _ [some _, some _, none] _)
      walk_at "go"
      walk_at "run"
      refine w_isiTS ha ?_
      walk_at "run"
      refine Z.fgE 2 (by assumption) rfl (fun G _ => trivial) (fun i x G v hi e hz => ?_) (fun v G e => ?_)
      · subst hz
        have hi' : i < ns.length := by simpa using hi
        walk_at "run"
        exact ⟨⟨_, rfl⟩, by walk_at "ex"⟩
      · walk_at "run"
        exact k _ e
    · skip
      refine ⟨_, PSs.nox (pss_cons (ps_if (PW.pt (pw_or (pt_not (pt_val (pe_callB (Z.call_isi (K := K) rfl) (by rfl) T.n_isinstance (by decide +kernel) (pa_cons (pv 0) (pa_cons (pe_bltn (v := .ty "tuple") (u := .type "tuple") (by rfl) T.n_tuple (by decide +kernel) rfl) pa_nil))))) (pw_or1 (pt_cmpR (Z.op_ne (K := K) rfl hr.units) (pe_callB (Z.call_len (K := K) rfl) (by rfl) T.n_len (by decide +kernel) (pa_cons (pv 0) pa_nil)) (pe_callB (Z.call_len (K := K) rfl) (by rfl) T.n_len (by decide +kernel) (pa_cons (pv 1) pa_nil)) (nomark _))))) (pss_one (ps_ret pe_bl)) pss_nil)
      (pss_cons (ps_for PassesOwn.never rfl (pi_range1 (by rfl) T.n_range (pa_cons (pe_callB (Z.call_len (K := K) rfl) (by rfl) T.n_len (by decide +kernel) (pa_cons (pv 1) pa_nil)) pa_nil)) (pg_name (i := 2) sc__law_same_lot.nd rfl (by first | exact Or.inl rfl | exact Or.inr rfl)) (pss_one (ps_if (PW.pt (pw_or (pt_not (pt_val (pe_call (ok__law_is_int T) (hr.mono (by decide)) (by rfl) T.g__law_is_int T.F__law_is_int.kp T.b__law_is_int .nil passL (pa_cons (pe_ix (Z.ix (K := K) rfl) (pv 0) (pv 2) (fun _ _ => rfl)) pa_nil)))) (pw_or1 (pt_cmpR (Z.op_ne (K := K) rfl hr.units) (pe_ix (Z.ix (K := K) rfl) (pv 0) (pv 2) (fun _ _ => rfl)) (pe_ix (Z.ix (K := K) rfl) (pv 1) (pv 2) (fun _ _ => rfl)) (nomark _))))) (pss_one (ps_ret pe_bl)) pss_nil)))
      (pss_one (ps_ret pe_bl)))), ?_⟩
      try dsimp only [cxOf, Cx.nox, Cx.wish]
      try (show (_ : TS) _ [some _, some _, none] _)
      walk_at "go"
      walk_at "run"
      refine w_isiTS ha ?_
      walk_at "run"
      refine Z.fgE 2 (by assumption) rfl (fun G _ => trivial) (fun i x G v hi e hz => ?_) (fun v G e => ?_)
      · subst hz
        have hi' : i < ns.length := by simpa using hi
        walk_at "run"
        exact ⟨⟨_, rfl⟩, by walk_at "ex"⟩
      · walk_at "run"
        exact k _ e
theorem u_samelot {H : Hp} {Q : VK} {E : XK} {a b : Addr} {ns : List Int} (ha : At H a (.tup (ns.map V.int))) (hb : SqT K H b (ns.map V.int)) (hl : ns.length ≤ 100000) (k : ∀ H', Ex H H' → Q (.bl true) H') : sp__law_same_lot K [.ref a, .ref b] H Q E := ⟨a, b, ns, rfl, st_of ha, .inr hb, hl, k⟩
theorem u_samelotA {H : Hp} {Q : VK} {E : XK} {a b : Addr} {ns : List Int} (ha : At H a (.tup (ns.map V.int))) (hb : SqA K H b (ns.map V.int)) (hl : ns.length ≤ 100000) (k : ∀ H', Ex H H' → Q (.bl true) H') : sp__law_same_lot K [.ref a, .ref b] H Q E := ⟨a, b, ns, rfl, st_of ha, hb, hl, k⟩
theorem u_samelotT {H : Hp} {Q : VK} {E : XK} {a b : Addr} {ns : List Int} (ha : SqT K H a (ns.map V.int)) (hb : SqT K H b (ns.map V.int)) (hl : ns.length ≤ 100000) (k : ∀ H', Ex H H' → Q (.bl true) H') : sp__law_same_lot K [.ref a, .ref b] H Q E := ⟨a, b, ns, rfl, ha, .inr hb, hl, k⟩

def sp__law_pairs (K : PySem.W.Frag) : Sp := fun vs H Q _ => ∃ (a : Addr) (ns : List Int) (n c : Nat), vs = [.ref a, .int (n : Int), .int (c : Int)] ∧ SqL K H a (ns.map V.int) ∧ n ≤ 24 ∧ c ≤ 60 ∧ ∀ p H' xs nd, Fr H p → Ex H H' → At H' p (.lst xs) → PL H' xs nd → nd.length ≤ c → NdGood n nd → Q (.ref p) H'
theorem ok__law_pairs (T : Tx P K mg) : FnOk P w K mg base (L2.CX P w) 2 (He.ga K "_law_pairs") (Z.fdOf K (He.ga K "_law_pairs")) ["_law_script", "_law_many", "_law_count"] (sp__law_pairs K) := by
  refine T.F__law_pairs.ok sc__law_pairs (fun vs H Q E h => ?_) (fun cdv A outer s H vs Q E hr h => ?_)
  · obtain ⟨a, ns, n, c, rfl, _⟩ := h
    rfl
  · obtain ⟨a, ns, n, c, rfl, hS, hn, hc, k⟩ := h
    refine ⟨_, PSs.nox (pss_cons (ps_set (i := 3) sc__law_pairs.nd rfl (Or.inl rfl) (pe_lst pa_nil))
      (pss_cons (ps_for PassesOwn.never rfl (pi_range1 (by rfl) T.n_range (pa_cons pe_int pa_nil)) (pg_name (i := 4) sc__law_pairs.nd rfl (by first | exact Or.inl rfl | exact Or.inr rfl)) (pss_one (ps_expr (pe_bm PySem.F.plainAttrs_list PySem.F.slot_list_extend PySem.F.type_list_extend mt_extend (pv 3) (pa_cons (pe_call (ok__law_draws T) (hr.mono (by decide)) (by rfl) T.g__law_draws T.F__law_draws.kp T.b__law_draws .nil passL (pa_cons (pe_call (ok__law_cell T) (hr.mono (by decide)) (by rfl) T.g__law_cell T.F__law_cell.kp T.b__law_cell .nil passL (pa_cons (pv 0) (pa_cons (pe_op Z.op_add pe_int (pv 4)) pa_nil))) (pa_cons (pe_op op_rep (pe_lst (pa_cons pe_int (pa_cons pe_int pa_nil))) pe_int) pa_nil))) pa_nil)))))
      (pss_cons (ps_set (i := 5) sc__law_pairs.nd rfl (Or.inl rfl) (pe_lst pa_nil))
      (C8.pss_cut (ps_if (pt_cmpR Z.op_gt (pv 1) pe_int (nomark _)) (pss_one (ps_for PassesOwn.never rfl (pi_range1 (by rfl) T.n_range (pa_cons (pv 2) pa_nil)) (pg_name (i := 6) sc__law_pairs.nd rfl (by first | exact Or.inl rfl | exact Or.inr rfl)) (pss_cons (ps_set (i := 7) sc__law_pairs.nd rfl (Or.inl rfl) (pe_op Z.op_mod (pe_callTy Z.call_int (by rfl) T.n_int (by decide +kernel) (pa_cons (pe_ix (Z.ix (K := K) rfl) (pv 3) (pe_op Z.op_mul pe_int (pv 6)) (fun _ _ => rfl)) pa_nil)) (pv 1)))
      (pss_one (ps_expr (pe_bm PySem.F.plainAttrs_list PySem.F.slot_list_append PySem.F.type_list_append mt_append (pv 5) (pa_cons (pe_tup (pa_cons (pv 7) (pa_cons (pe_op Z.op_mod (pe_op Z.op_add (pe_op Z.op_add (pv 7) pe_int) (pe_op Z.op_mod (pe_callTy Z.call_int (by rfl) T.n_int (by decide +kernel) (pa_cons (pe_ix (Z.ix (K := K) rfl) (pv 3) (pe_op Z.op_add (pe_op Z.op_mul pe_int (pv 6)) pe_int) (fun _ _ => rfl)) pa_nil)) (pe_op Z.op_sub (pv 1) pe_int))) (pv 1)) pa_nil))) pa_nil))))))) pss_nil)
      (pss_one (ps_ret (pv 5))))))), ?_⟩
    try dsimp only [cxOf, Cx.nox, Cx.wish]
    try (show (_ : TS) _ [some _, some _, some _, none, none, none, none, none] _)
    walk_at "go"
    rename_i p1 H1 hn1 he1 hp1 J S
    refine Z.fg S (fun i σ G => ∃ (ds : List Int) (v4 : Option V), σ = [some (.ref a), some (.int (n : Int)), some (.int (c : Int)), some (.ref p1), v4, none, none, none] ∧ Ex H G ∧ At G p1 (.lst (ds.map V.int)) ∧ ds.length = 40 * i ∧ ∀ x ∈ ds, 0 ≤ x) ⟨[], none, rfl, he1, hp1, rfl, fun x h => absurd h (by simp)⟩ (fun i σ' G _ _ => trivial) ?_ ?_
    · rintro i y σ' G G2 hi ⟨ds, v4, rfl, eG, hd, hdl, hdb⟩ e2 rfl
      have eG2 := eG.trans e2
      have hS2 := eG2.l hS
      have hd2 := e2.get hd
      clear hd hp1
      walk_at "go"
      rename_i cc q1 K1 m1 f1 a1 q2 K2 m2 f2 a2 q3 K3 es m3 f3 a3 hd3 hb3 K4 a4 nl4 ho4 hke4
      refine ⟨ds ++ es, _, rfl, hke4, by rw [List.map_append]; exact a4, by rw [List.length_append, hdl, hb3.1]; omega, fun x hx => ?_⟩
      rcases List.mem_append.1 hx with h | h
      · exact hdb x h
      · obtain ⟨j, hj, rfl⟩ := List.mem_iff_getElem.mp h
        have := (hd3.2 j (by first | exact hj | (rw [← hd3.1]; exact hj))).1
        rw [getD_get _ _ _ hj] at this
        exact this
    · rintro σ' G ⟨ds, v4, rfl, eG, hd, hdl, hdb⟩
      have hdl : ds.length = 120 := hdl
      clear hp1
      walk_at "go"
      rename_i p2 H2 hn2 he2 hp2
      refine Z.w_cut (fun σ G' => ∃ (xs : List V) (nd : List (Int × Int)) (v6 v7 : Option V), σ = [some (.ref a), some (.int (n : Int)), some (.int (c : Int)), some (.ref p1), v4, some (.ref p2), v6, v7] ∧ Ex G G' ∧ At G' p2 (.lst xs) ∧ PL G' xs nd ∧ nd.length ≤ c ∧ NdGood n nd) ?_ ?_
      · walk_at "go"
        refine Z.w_dec (fun h => ?_) (fun h => ?_)
        · walk_at "go"
          rename_i J2 S2
          refine Z.fg S2 (fun i σ G' => ∃ (xs : List V) (nd : List (Int × Int)) (v6 v7 : Option V), σ = [some (.ref a), some (.int (n : Int)), some (.int (c : Int)), some (.ref p1), v4, some (.ref p2), v6, v7] ∧ Ex G G' ∧ At G' p2 (.lst xs) ∧ PL G' xs nd ∧ nd.length = i ∧ NdGood n nd) ⟨[], [], none, none, rfl, he2, hp2, PL.nil, rfl, fun j hj => absurd hj (by simp)⟩ (fun i σ' G' _ _ => trivial) ?_ ?_
          · rintro i y σ' G1 G3 hi ⟨xs, nd, v6, v7, rfl, e1, hx1, hL1, hnl, hgd⟩ e3 rfl
            have hd3 := (e1.trans e3).get hd
            have hx3 := e3.get hx1
            have hL3 := hL1.ex e3
            have hi3 : i < 60 := by omega
            have hxl := hL1.1
            clear hx1 hL1 hp2
            have z1 : 0 ≤ ds.getD (2 * (i : Int)).toNat 0 % (n : Int) := Int.emod_nonneg _ (by omega)
            have z2 : ds.getD (2 * (i : Int)).toNat 0 % (n : Int) < n := Int.emod_lt_of_pos _ (by omega)
            have z3 : 0 ≤ ds.getD (2 * (i : Int) + 1).toNat 0 % ((n : Int) - 1) := Int.emod_nonneg _ (by omega)
            have z4 : ds.getD (2 * (i : Int) + 1).toNat 0 % ((n : Int) - 1) < n - 1 := Int.emod_lt_of_pos _ (by omega)
            have z5 := nd_pair z1 z2 z3 z4
            walk_at "go"
            rename_i pz Gz hnz hez hpz K4 a4 nl4 ho4 hke4
            exact ⟨_, nd ++ [(ds.getD (2 * (i : Int)).toNat 0 % (n : Int), (ds.getD (2 * (i : Int)).toNat 0 % (n : Int) + 1 + ds.getD (2 * (i : Int) + 1).toNat 0 % ((n : Int) - 1)) % (n : Int))], _, _, rfl, hke4, a4, ((hL3.ex hez).nl nl4).snoc (nl4.get (fun l z => by cases z) hpz), by simp [hnl], hgd.snoc ⟨z1, z2, z5.1, z5.2.1, z5.2.2⟩⟩
          · rintro σ' G1 ⟨xs, nd, v6, v7, rfl, e1, hx1, hL1, hnl, hgd⟩
            walk_at "go"
            exact ⟨xs, nd, _, _, rfl, e1, hx1, hL1, by omega, hgd⟩
        · walk_at "go"
          exact ⟨[], [], _, _, rfl, he2, hp2, PL.nil, Nat.zero_le _, fun j hj => absurd hj (by simp)⟩
      rintro σ G1 ⟨xs, nd, v6, v7, rfl, e1, hx1, hL1, hnl, hgd⟩
      walk_at "go"
      exact k p2 G1 xs nd (eG.back hn2) (eG.trans e1) hx1 hL1 hnl hgd

def sp__law_wrong (K : PySem.W.Frag) : Sp := fun vs H Q _ => ∃ (f : Addr) (fs : List Int) (n : Nat), vs = [.ref f, .int (n : Int)] ∧ At H f (.lst (fs.map V.int)) ∧ fs.length = 4 ∧ ∀ p H' (u v : Int), Fr H p → Ex H H' → At H' p (.tup [.int u, .int v]) → Q (.ref p) H'
theorem ok__law_wrong (T : Tx P K mg) : FnOk P w K mg base (L2.CX P w) 1 (He.ga K "_law_wrong") (Z.fdOf K (He.ga K "_law_wrong")) ["_law_fault", "_law_many"] (sp__law_wrong K) := by
  refine T.F__law_wrong.ok sc__law_wrong (fun vs H Q E h => ?_) (fun cdv A outer s H vs Q E hr h => ?_)
  · obtain ⟨f, fs, n, rfl, _⟩ := h
    rfl
  · obtain ⟨f, fs, n, rfl, hf, hl, k⟩ := h
    refine ⟨_, PSs.nox (pss_cons (ps_set (i := 2) sc__law_wrong.nd rfl (Or.inl rfl) pe_int)
      (C8.pss_cut (ps_if (pt_cmpR Z.op_gt (pv 1) pe_int (nomark _)) (pss_one (ps_set (i := 2) sc__law_wrong.nd rfl (Or.inl rfl) (pe_op Z.op_mod (pe_callTy Z.call_int (by rfl) T.n_int (by decide +kernel) (pa_cons (pe_ix (Z.ix (K := K) rfl) (pv 0) pe_int (fun _ _ => rfl)) pa_nil)) (pv 1)))) pss_nil)
      (pss_cons (ps_if (pt_cmpR (Z.op_eq (K := K) rfl hr.units) (pe_ix (Z.ix (K := K) rfl) (pv 0) pe_int (fun _ _ => rfl)) pe_int (nomark _)) (pss_one (ps_ret (pe_tup (pa_cons (pv 2) (pa_cons (pv 1) pa_nil))))) pss_nil)
      (pss_cons (ps_if (pt_cmpR (Z.op_eq (K := K) rfl hr.units) (pe_ix (Z.ix (K := K) rfl) (pv 0) pe_int (fun _ _ => rfl)) pe_int (nomark _)) (pss_one (ps_ret (pe_tup (pa_cons (pv 1) (pa_cons (pv 2) pa_nil))))) pss_nil)
      (pss_cons (ps_if (pt_cmpR (Z.op_eq (K := K) rfl hr.units) (pe_ix (Z.ix (K := K) rfl) (pv 0) pe_int (fun _ _ => rfl)) pe_int (nomark _)) (pss_one (ps_ret (pe_tup (pa_cons (pe_un Z.un_neg pe_int) (pa_cons (pv 2) pa_nil))))) pss_nil)
      (pss_cons (ps_if (pt_cmpR (Z.op_eq (K := K) rfl hr.units) (pe_ix (Z.ix (K := K) rfl) (pv 0) pe_int (fun _ _ => rfl)) pe_int (nomark _)) (pss_one (ps_ret (pe_tup (pa_cons (pv 2) (pa_cons (pe_op Z.op_sub (pe_un Z.un_neg pe_int) (pe_ix (Z.ix (K := K) rfl) (pv 0) pe_int (fun _ _ => rfl))) pa_nil))))) pss_nil)
      (pss_cons (ps_if (pt_cmpR (Z.op_eq (K := K) rfl hr.units) (pe_ix (Z.ix (K := K) rfl) (pv 0) pe_int (fun _ _ => rfl)) pe_int (nomark _)) (pss_one (ps_ret (pe_tup (pa_cons (pv 2) (pa_cons (pe_op Z.op_add (pv 1) (pe_ix (Z.ix (K := K) rfl) (pv 0) pe_int (fun _ _ => rfl))) pa_nil))))) pss_nil)
      (pss_cons (ps_if (pt_cmpR (Z.op_eq (K := K) rfl hr.units) (pe_ix (Z.ix (K := K) rfl) (pv 0) pe_int (fun _ _ => rfl)) pe_int (nomark _)) (pss_one (ps_ret (pe_tup (pa_cons (pe_op Z.op_sub (pe_un Z.un_neg pe_int) (pe_ix (Z.ix (K := K) rfl) (pv 0) pe_int (fun _ _ => rfl))) (pa_cons (pv 2) pa_nil))))) pss_nil)
      (pss_one (ps_ret (pe_tup (pa_cons (pv 2) (pa_cons (pv 2) pa_nil))))))))))))), ?_⟩
    try dsimp only [cxOf, Cx.nox, Cx.wish]
    try (show (_ : TS) _ [some _, some _, none] _)
    walk_at "go"
    refine Z.w_cut (fun σ G => ∃ t : Int, σ = [some (.ref f), some (.int (n : Int)), some (.int t)] ∧ Ex H G) ?_ ?_
    · walk_at "go"
      refine Z.w_dec (fun h => ?_) (fun h => ?_)
      · walk_at "go"
        exact ⟨_, rfl, Ex.refl _⟩
      · walk_at "go"
        exact ⟨_, rfl, Ex.refl _⟩
    rintro σ G ⟨t, rfl, eG⟩
    have hfG := eG.get hf
    clear hf
    walk_at "go"
    refine Z.w_dec (fun h => ?_) (fun h => ?_)
    · walk_at "go"
      rename_i p H2 hn he hp
      exact k p H2 _ _ (eG.back hn) (eG.trans he) hp
    walk_at "go"
    refine Z.w_dec (fun h => ?_) (fun h => ?_)
    · walk_at "go"
      rename_i p H2 hn he hp
      exact k p H2 _ _ (eG.back hn) (eG.trans he) hp
    walk_at "go"
    refine Z.w_dec (fun h => ?_) (fun h => ?_)
    · walk_at "go"
      rename_i p H2 hn he hp
      exact k p H2 _ _ (eG.back hn) (eG.trans he) hp
    walk_at "go"
    refine Z.w_dec (fun h => ?_) (fun h => ?_)
    · walk_at "go"
      rename_i p H2 hn he hp
      exact k p H2 _ _ (eG.back hn) (eG.trans he) hp
    walk_at "go"
    refine Z.w_dec (fun h => ?_) (fun h => ?_)
    · walk_at "go"
      rename_i p H2 hn he hp
      exact k p H2 _ _ (eG.back hn) (eG.trans he) hp
    walk_at "go"
    refine Z.w_dec (fun h => ?_) (fun h => ?_)
    · walk_at "go"
      rename_i p H2 hn he hp
      exact k p H2 _ _ (eG.back hn) (eG.trans he) hp
    walk_at "go"
    rename_i p H2 hn he hp
    exact k p H2 _ _ (eG.back hn) (eG.trans he) hp

def dPP (ps : List (Int × Int)) : List PyData := ps.map fun p => .tuple [.int p.1, .int p.2]
theorem PL.tail {H : Hp} {x : V} {xs : List V} {p : Int × Int} {ps : List (Int × Int)} (h : PL H (x :: xs) (p :: ps)) : PL H xs ps := ⟨by have := h.1; simpa using this, fun i hi => h.2 (i + 1) (by simpa using hi)⟩
theorem PL.dp {K : PySem.W.Frag} {H : Hp} : ∀ {ps : List (Int × Int)} {xs : List V}, PL H xs ps → DpAll K H xs (dPP ps)
  | [], xs, h => by
    cases xs with
    | nil => exact .nil
    | cons x xs => exact absurd h.1 (by simp)
  | p :: ps, xs, h => by
    cases xs with
    | nil => exact absurd h.1 (by simp)
    | cons x xs =>
      obtain ⟨a, h1, h2⟩ := h.2 0 (by simp)
      cases h1
      exact .cons (.tup (st_of h2) (.cons (.int _) (.cons (.int _) .nil))) (PL.dp h.tail)
theorem can_dPP : ∀ (ps : List (Int × Int)), PyData.canLayAll0 (dPP ps) = true ∧ PyData.depthAll (dPP ps) ≤ 1
  | [] => by simp [dPP, PyData.canLayAll0, PyData.depthAll]
  | p :: ps => by
    obtain ⟨h1, h2⟩ := can_dPP ps
    unfold dPP at *
    simp [PyData.canLayAll0, PyData.depthAll, PyData.canLay0, PyData.depth, h1, h2]
theorem eqv_dPP : ∀ (ps : List (Int × Int)), PyData.eqvAll (dPP ps) (dPP ps) = true
  | [] => by simp [dPP, PyData.eqvAll]
  | p :: ps => by
    have h := eqv_dPP ps
    unfold dPP at *
    simp [PyData.eqvAll, PyData.eqv, h]
theorem sh_dPP (ps : List (Int × Int)) : SeqAt.shaped (.list (dPP ps)) = true := by
  obtain ⟨h1, h2⟩ := can_dPP ps
  simp [SeqAt.shaped, PyData.canLay0, PyData.depth, h1]
  omega
/-- two lists of the same pairs -/
theorem w_nePP {K : PySem.W.Frag} {H : Hp} {Q : VK} {a b : Addr} {xs ys : List V} {ps : List (Int × Int)} (h1 : SqL K H a xs) (h2 : SqL K H b ys) (l1 : PL H xs ps) (l2 : PL H ys ps) (q : Q (.bl false) H) : rNeZ K (.ref a) (.ref b) H Q := .inr ⟨_, _, .lst h1 l1.dp, .lst h2 l2.dp, sh_dPP _, sh_dPP _, by unfold PyData.eqv; rw [eqv_dPP]; exact q⟩
/-- what comes of the needs -/
def DOut (n : Nat) (nd : List (Int × Int)) (us : List V) : Prop := (∃ i : Nat, NdRes n nd i ∧ us = [.str "need", .int (i : Nat)]) ∨ (NdGood n nd ∧ us = [.str "made"])
theorem DOut.det {n : Nat} {nd : List (Int × Int)} {us vs : List V} (h : DOut n nd us) (g : DOut n nd vs) : us = vs := by
  rcases h with ⟨i, h1, rfl⟩ | ⟨h1, rfl⟩ <;> rcases g with ⟨j, g1, rfl⟩ | ⟨g1, rfl⟩
  · rw [h1.det g1]
  · exact absurd g1 h1.bad
  · exact absurd h1 g1.bad
  · rfl
theorem DOut.fl {n : Nat} {nd : List (Int × Int)} {us : List V} (h : DOut n nd us) : ∃ ds, fls us = some ds ∧ okVs us = true := by
  rcases h with ⟨i, h1, rfl⟩ | ⟨h1, rfl⟩
  · exact ⟨_, rfl, show (PyData.strOk "need" && (true && true)) = true by decide +kernel⟩
  · exact ⟨_, rfl, show (PyData.strOk "made" && true) = true by decide +kernel⟩
def sp__law_due (K : PySem.W.Frag) : Sp := fun vs H Q _ => ∃ (p : Addr) (n : Nat) (xs : List V) (nd : List (Int × Int)), vs = [.ref p, .int (n : Int)] ∧ At H p (.lst xs) ∧ PL H xs nd ∧ nd.length ≤ 1000 ∧ ∀ q H' us, Fr H q → Ex H H' → At H' q (.lst us) → DOut n nd us → Q (.ref q) H'
theorem ok__law_due (T : Tx P K mg) : FnOk P w K mg base (L2.CX P w) 1 (He.ga K "_law_due") (Z.fdOf K (He.ga K "_law_due")) ["_law_pairs_here", "_law_many"] (sp__law_due K) := by
  refine T.F__law_due.ok sc__law_due (fun vs H Q E h => ?_) (fun cdv A outer s H vs Q E hr h => ?_)
  · obtain ⟨p, n, xs, nd, rfl, _⟩ := h
    rfl
  · obtain ⟨p, n, xs, nd, rfl, hp, hL, hnd, k⟩ := h
    have hxl := hL.1
    refine ⟨_, PSs.nox (pss_cons (ps_for PassesOwn.never rfl (pi_range1 (by rfl) T.n_range (pa_cons (pe_callB (Z.call_len (K := K) rfl) (by rfl) T.n_len (by decide +kernel) (pa_cons (pv 0) pa_nil)) pa_nil)) (pg_name (i := 2) sc__law_due.nd rfl (by first | exact Or.inl rfl | exact Or.inr rfl)) (pss_cons (ps_set (i := 3) sc__law_due.nd rfl (Or.inl rfl) (pe_ix (Z.ix (K := K) rfl) (pe_ix (Z.ix (K := K) rfl) (pv 0) (pv 2) (fun _ _ => rfl)) pe_int (fun _ _ => rfl)))
      (pss_cons (ps_set (i := 4) sc__law_due.nd rfl (Or.inl rfl) (pe_ix (Z.ix (K := K) rfl) (pe_ix (Z.ix (K := K) rfl) (pv 0) (pv 2) (fun _ _ => rfl)) pe_int (fun _ _ => rfl)))
      (pss_one (ps_if (PW.pt (pw_or (pt_cmpR (Z.op_eq (K := K) rfl hr.units) (pv 3) (pv 4) (nomark _)) (pw_or (pt_cmpR Z.op_lt (pv 3) pe_int (nomark _)) (pw_or (pt_cmpR Z.op_lt (pv 4) pe_int (nomark _)) (pw_or (pt_cmpR Z.op_ge (pv 3) (pv 1) (nomark _)) (pw_or1 (pt_cmpR Z.op_ge (pv 4) (pv 1) (nomark _)))))))) (pss_one (ps_ret (pe_lst (pa_cons pe_str (pa_cons (pv 2) pa_nil))))) pss_nil)))))
      (pss_one (ps_ret (pe_lst (pa_cons pe_str pa_nil))))), ?_⟩
    try dsimp only [cxOf, Cx.nox, Cx.wish]
    try (show (_ : TS) _ [some _, some _, none, none, none] _)
    walk_at "go"
    rename_i J S
    refine Z.fg S (fun i σ G => ∃ (v2 v3 v4 : Option V), σ = [some (.ref p), some (.int (n : Int)), v2, v3, v4] ∧ Ex H G ∧ ∀ j, j < i → NdOk n (nd.getD j (0, 0))) ⟨none, none, none, rfl, Ex.refl _, fun j hj => absurd hj (by omega)⟩ (fun i σ' G _ _ => trivial) ?_ ?_
    · rintro i y σ' G G2 hi ⟨v2, v3, v4, rfl, eG, hall⟩ e2 rfl
      have hi2 : i < nd.length := by omega
      have eG2 := eG.trans e2
      obtain ⟨q, g1, g2⟩ := (hL.ex eG2).2 i hi2
      have ix1 : atI xs (i : Int) = some (.ref q) := by unfold atI; rw [ixN_pos (by omega) (by omega), Int.toNat_natCast]; exact g1
      have hp2 := eG2.get hp
      have hyes : NdOk n (nd.getD i (0, 0)) → ∀ j, j < i + 1 → NdOk n (nd.getD j (0, 0)) := fun h j hj => by
        by_cases e : j = i
        · subst e; exact h
        · exact hall j (by omega)
      have hno : ¬ NdOk n (nd.getD i (0, 0)) → NdRes n nd i := fun h => ⟨hi2, h, hall⟩
      clear hall
      walk_at "go"
      rw [Int.toNat_natCast]
      generalize nd.getD i (0, 0) = z at *
      obtain ⟨u, v⟩ := z
      clear hp
      refine Z.w_dec (fun h1 => ?_) (fun h1 => ?_)
      · walk_at "go"
        rename_i q3 H3 hn3 he3 hq3
        exact k q3 H3 _ (eG2.back hn3) (eG2.trans he3) hq3 (.inl ⟨i, hno fun z => by unfold NdOk at z; dsimp only at z h1; omega, rfl⟩)
      walk_at "go"
      refine Z.w_dec (fun h2 => ?_) (fun h2 => ?_)
      · walk_at "go"
        rename_i q3 H3 hn3 he3 hq3
        exact k q3 H3 _ (eG2.back hn3) (eG2.trans he3) hq3 (.inl ⟨i, hno fun z => by unfold NdOk at z; dsimp only at z h2; omega, rfl⟩)
      walk_at "go"
      refine Z.w_dec (fun h3 => ?_) (fun h3 => ?_)
      · walk_at "go"
        rename_i q3 H3 hn3 he3 hq3
        exact k q3 H3 _ (eG2.back hn3) (eG2.trans he3) hq3 (.inl ⟨i, hno fun z => by unfold NdOk at z; dsimp only at z h3; omega, rfl⟩)
      walk_at "go"
      refine Z.w_dec (fun h4 => ?_) (fun h4 => ?_)
      · walk_at "go"
        rename_i q3 H3 hn3 he3 hq3
        exact k q3 H3 _ (eG2.back hn3) (eG2.trans he3) hq3 (.inl ⟨i, hno fun z => by unfold NdOk at z; dsimp only at z h4; omega, rfl⟩)
      walk_at "go"
      refine Z.w_dec (fun h5 => ?_) (fun h5 => ?_)
      · walk_at "go"
        rename_i q3 H3 hn3 he3 hq3
        exact k q3 H3 _ (eG2.back hn3) (eG2.trans he3) hq3 (.inl ⟨i, hno fun z => by unfold NdOk at z; dsimp only at z h5; omega, rfl⟩)
      walk_at "go"
      exact ⟨_, _, _, rfl, eG2, hyes (by unfold NdOk; dsimp only; omega)⟩
    · rintro σ' G ⟨v2, v3, v4, rfl, eG, hall⟩
      walk_at "go"
      rename_i q3 H3 hn3 he3 hq3
      exact k q3 H3 _ (eG.back hn3) (eG.trans he3) hq3 (.inr ⟨fun j hj => hall j (by omega), rfl⟩)

def sp_Closed_Choice___init__ (K : PySem.W.Frag) : Sp := fun vs H Q E => ∃ (H0 : Hp) (x dx r pl : Addr) (ws : List Int) (a : Int) (ps : List Int), vs = [.ref x, .ref r, .ref pl] ∧ At H x (.ins (He.ga K "Closed") dx []) ∧ Fr H0 x ∧ Ex H0 H ∧ WR K H0 r ws a ∧ SqL K H0 pl (ps.map V.int) ∧ PErr K ws.length ps E H0 ∧
  (PricesOk ws.length ps → ∀ H' t, Ex H0 H' → At H' x (.ins (He.ga K "Closed") dx [("rule", .ref r), ("prices", .ref t)]) → At H' t (.tup (ps.map V.int)) → ps.length = ws.length → Q .non H')
theorem ok_Closed_Choice___init__ (T : Tx P K mg) : FnOk P w K mg base (L2.CX P w) 4 (He.ma K (He.ga K "Choice") "__init__") (Z.fdOf K (He.ma K (He.ga K "Choice") "__init__")) ["self", "rule", "prices"] (sp_Closed_Choice___init__ K) := by
  refine T.F_Choice___init__.ok sc_Choice___init__ (fun vs H Q E h => ?_) (fun cdv A outer s H vs Q E hr h => ?_)
  · obtain ⟨H0, x, dx, r, pl, ws, a, ps, rfl, _⟩ := h
    rfl
  · obtain ⟨H0, x, dx, r, pl, ws, a, ps, rfl, hx, hf, e0, hr0, hp0, hE, k⟩ := h
    have hr1 := hr0.ex e0
    have hp1 := e0.l hp0
    have fx0 := T.o_Closed.cl
    have fx1 := T.na_Closed_prices
    have fx2 := T.na_Closed_rule
    have fx3 := T.o_Weighted.cl
    have fx4 := T.na_Weighted_many
    refine ⟨_, (pss_cons (ps_expr (Z.pe_callZ (ok_check_prices T) (hr.mono (by decide)) (by rfl) T.g_check_prices T.F_check_prices.kp T.b_check_prices .nil (fun σ => passAt (takes_of rfl rfl rfl rfl) σ) (pa_cons (pv 2) (pa_cons (Z.fld (K := K) rfl (pv 1) rfl) pa_nil))))
      (pss_cons (ps_fld (pv 0) (pv 1) rfl)
      (pss_one (ps_fld (pv 0) (pe_callTy (Z.call_tuple (K := K) rfl) (by rfl) T.n_tuple (by decide +kernel) (pa_cons (pv 2) pa_nil)) rfl)))), ?_⟩
    try dsimp only [cxOf, Cx.nox, Cx.wish]
    try (show (_ : TS) _ [some _, some _, some _] _)
    walk_at "go"
    refine ⟨pl, ps, _, rfl, hp1, hE.up e0, fun hok H1 e1 => ?_⟩
    have hx1 := e1.get hx
    have e01 := e0.trans e1
    walk_at "go"
    refine Z.w_putE hx1 fx0 (by with_reducible assumption) (by show 0 < 900; decide) (by decide +kernel) fun H2 g2 k2 o2 => ?_
    have e2 : Ex H0 H2 := k2 H0 e01 hf
    have hp2 := e2.l hp0
    walk_at "go"
    rename_i t H3 hn3 he3 hp3
    have n1 : t ≠ x := fun z => g2.ne hn3 z.symm
    refine Z.w_putE (he3.get g2) fx0 (by with_reducible assumption) (by show 1 < 900; decide) (by simp only [List.map_cons, List.map_nil, List.cons_append, List.nil_append]; decide +kernel) fun H4 g4 k4 o4 => ?_
    have e4 : Ex H0 H4 := k4 H0 (e2.trans he3) hf
    walk_at "go"
    exact k hok H4 t e4 g4 (o4 t _ n1 hp3) (by have := hok.1; omega)

theorem ok_BadNeed___init__ (T : Tx P K mg) : FnOk P w K mg base (L2.CX P w) 1 (He.ma K (He.ga K "BadNeed") "__init__") (Z.fdOf K (He.ma K (He.ga K "BadNeed") "__init__")) ["self", "at"] (Z.spX (He.ga K "BadNeed") ["at"]) := by
  refine Z.FunS.ok (x0 := "self") T.F_BadNeed___init__ sc_BadNeed___init__ (by decide +kernel) rfl rfl rfl (by decide +kernel) (by decide +kernel) T.p_top T.n_super T.c_BadNeed (fun vs H Q E h => ?_) (fun cc cda A outer s H vs Q E hr h S => ?_)
  · obtain ⟨a, ws, rfl, hl, _⟩ := h
    simpa using hl
  · obtain ⟨a, ws, rfl, hl, ha, k⟩ := h
    obtain ⟨v1, rfl⟩ : ∃ v1, ws = [v1] := by
      match ws, hl with
      | [v1], _ => exact ⟨v1, rfl⟩
    refine ⟨_, _, Z.ps_supE (Z.pe_supX S T.mro_BadNeed_BadNeed T.third T.si_BadNeed.1 T.si_BadNeed.2.1 (pa_cons pe_str pa_nil)), (pss_one (ps_ost (pv 0) (pv 1))), ?_⟩
    refine ⟨a, rfl, T.oe_BadNeed, ha, by decide, ha, ?_⟩
    refine ⟨_, rfl, _, rfl, a, He.ga K "BadNeed", rfl, T.oe_BadNeed, T.nf_BadNeed_at, .inl ⟨ha, fun dx hd hne => ?_⟩⟩
    exact k dx hd hne

def sp_Closed___init__ (K : PySem.W.Frag) : Sp := fun vs H Q E => ∃ (H0 : Hp) (x dx r pl gl : Addr) (ws : List Int) (a : Int) (ps : List Int) (xs : List V) (nd : List (Int × Int)), vs = [.ref x, .ref r, .ref pl, .ref gl] ∧ At H x (.ins (He.ga K "Closed") dx []) ∧ Fr H0 x ∧ Ex H0 H ∧ WR K H0 r ws a ∧ SqL K H0 pl (ps.map V.int) ∧ At H0 gl (.lst xs) ∧ PL H0 xs nd ∧ nd.length ≤ 1000 ∧ PErr K ws.length ps E H0 ∧ (PricesOk ws.length ps → NdErr K ws.length nd E H0) ∧
  (PricesOk ws.length ps → NdGood ws.length nd → ∀ H', Ex H0 H' → Rp_Closed K H' x ws a ps nd → Q .non H')
theorem ok_Closed___init__ (T : Tx P K mg) : FnOk P w K mg base (L2.CX P w) 6 (He.ma K (He.ga K "Closed") "__init__") (Z.fdOf K (He.ma K (He.ga K "Closed") "__init__")) ["self", "rule", "prices", "needs"] (sp_Closed___init__ K) := by
  refine Z.FunS.ok (x0 := "self") T.F_Closed___init__ sc_Closed___init__ (by decide +kernel) rfl rfl rfl (by decide +kernel) (by decide +kernel) T.p_top T.n_super T.c_Closed (fun vs H Q E h => ?_) (fun cc cda A outer s H vs Q E hr h S => ?_)
  · obtain ⟨H0, x, dx, r, pl, gl, ws, a, ps, xs, nd, rfl, _⟩ := h
    rfl
  · obtain ⟨H0, x, dx, r, pl, gl, ws, a, ps, xs, nd, rfl, hx, hf, e0, hr0, hp0, hg0, hL0, hnd, hE, hE2, k⟩ := h
    have fx0 := T.o_Closed.cl
    have fx1 := T.na_Closed_needs
    have fx2 := T.o_Weighted.cl
    have fx3 := T.na_Weighted_many
    refine ⟨_, _, (Z.ps_supE (Z.pe_sup S T.mro_Closed_Closed T.third T.sm_Closed_Closed___init__.1 T.sm_Closed_Closed___init__.2.1 T.sm_Closed_Closed___init__.2.2 (Z.rawOk (ok_Closed_Choice___init__ T) T.b_Choice___init__) (hr.mono (by decide)) (fun σ => passAt (takes_of rfl rfl rfl rfl) σ) (pa_cons (pv 1) (pa_cons (pv 2) pa_nil)))), (pss_cons (ps_for (passes_of rfl) rfl (pi_enum (by rfl) T.n_enumerate (pa_cons (pv 3) pa_nil)) (pg_tup (by rfl) (pgs_cons (pg_name (i := 5) sc_Closed___init__.nd rfl (by first | exact Or.inl rfl | exact Or.inr rfl)) (pgs_cons (pg_tup (by rfl) (pgs_cons (pg_name (i := 6) sc_Closed___init__.nd rfl (by first | exact Or.inl rfl | exact Or.inr rfl)) (pgs_cons (pg_name (i := 7) sc_Closed___init__.nd rfl (by first | exact Or.inl rfl | exact Or.inr rfl)) pgs_nil))) pgs_nil))) (pss_one (ps_if (PW.pt (pw_or (pt_cmpR Z.op_lt (pv 6) pe_int (nomark _)) (pw_or (pt_cmpR Z.op_ge (pv 6) (Z.fld (K := K) rfl (pv 1) rfl) (nomark _)) (pw_or (pt_cmpR Z.op_lt (pv 7) pe_int (nomark _)) (pw_or (pt_cmpR Z.op_ge (pv 7) (Z.fld (K := K) rfl (pv 1) rfl) (nomark _)) (pw_or1 (pt_cmpR (Z.op_eq (K := K) rfl hr.units) (pv 6) (pv 7) (nomark _)))))))) (pss_one (Z.ps_raiseZ rfl (takes_of rfl rfl rfl rfl) (pmk_oex T.oe_BadNeed T.si_BadNeed.2.2.1 T.si_BadNeed.2.2.2 (ok_BadNeed___init__ T) (hr.mono (by decide)) T.b_BadNeed___init__ .nil passL (by rfl) T.g_BadNeed (pa_cons (pv 5) pa_nil)))) pss_nil)))
      (pss_one (ps_fld (pv 0) (pe_callTy (Z.call_tuple (K := K) rfl) (by rfl) T.n_tuple (by decide +kernel) (pa_cons (pe_lc (own := [("a", 6), ("b", 7)]) (g := (gTup K 2 (gCons (gName 6) (gCons (gName 7) gNil)))) rfl sc_Closed___init__.nd (Z.piL (K := K) rfl (pv 3)) (blkOk_by (N := ["self", "rule", "prices", "needs", "__class__", "at", "a", "b"]) (sc := defScope s_Closed___init__) (by decide +kernel)) (fun _ _ _ _ _ => (pg_tup (by rfl) (pgs_cons (pg_name (i := 6) sc_Closed___init__.nd rfl (by first | exact Or.inl rfl | exact Or.inr rfl)) (pgs_cons (pg_name (i := 7) sc_Closed___init__.nd rfl (by first | exact Or.inl rfl | exact Or.inr rfl)) pgs_nil)))) (fun _ _ _ _ _ => pts_nil) (fun _ _ _ _ _ => (pe_tup (pa_cons (pv 6) (pa_cons (pv 7) pa_nil))))) pa_nil)) rfl))), ?_⟩
    change tSeq _ _ _ [some _, some _, some _, some _, none, none, none, none] _
    try dsimp only [Z.scx, NdefX.ncx]
    walk_at "go"
    refine ⟨H0, x, dx, r, pl, ws, a, ps, rfl, hx, hf, e0, hr0, hp0, hE, fun hok H1 t1 e1 g1 g3 g4 => ?_⟩
    have hr2 := hr0.ex e1
    have hg2 := e1.get hg0
    have hL2 := hL0.ex e1
    walk_at "go"
    rename_i J S
    have hxl := hL0.1
    refine Z.fg S (fun i σ G => ∃ (v5 v6 v7 : Option V), σ = [some (.ref x), some (.ref r), some (.ref pl), some (.ref gl), none, v5, v6, v7] ∧ Ex H1 G ∧ ∀ j, j < i → NdOk ws.length (nd.getD j (0, 0))) ⟨none, none, none, rfl, Ex.refl _, fun j hj => absurd hj (by omega)⟩ (fun i σ' G _ ⟨_, _, _, _, e, _⟩ => e.l (sq_of hg2)) ?_ ?_
    · rintro i y σ' G G2 hi ⟨v5, v6, v7, rfl, eG, hall⟩ e2 ⟨T2, y2, rfl, hT2, hy2⟩
      have hi2 : i < nd.length := by omega
      have eG2 := eG.trans e2
      obtain ⟨q, i1, i2⟩ := (hL2.ex eG2).2 i hi2
      rw [i1] at hy2
      cases hy2
      have hr3 := hr2.ex eG2
      have hyes : NdOk ws.length (nd.getD i (0, 0)) → ∀ j, j < i + 1 → NdOk ws.length (nd.getD j (0, 0)) := fun h j hj => by
        by_cases e : j = i
        · subst e; exact h
        · exact hall j (by omega)
      have hno : ¬ NdOk ws.length (nd.getD i (0, 0)) → NdRes ws.length nd i := fun h => ⟨hi2, h, hall⟩
      clear hall
      generalize nd.getD i (0, 0) = z at *
      obtain ⟨u, v⟩ := z
      walk_at "go"
      refine Z.w_dec (fun h1 => ?_) (fun h1 => ?_)
      · walk_at "go"
        rename_i d H5 hn5 he5 hp5
        exact hE2 hok i (hno fun z => by unfold NdOk at z; dsimp only at z h1; omega) d H5 ((e1.trans eG2).back hn5) ((e1.trans eG2).trans he5) hp5
      walk_at "go"
      refine Z.w_dec (fun h2 => ?_) (fun h2 => ?_)
      · walk_at "go"
        rename_i d H5 hn5 he5 hp5
        exact hE2 hok i (hno fun z => by unfold NdOk at z; dsimp only at z h2; omega) d H5 ((e1.trans eG2).back hn5) ((e1.trans eG2).trans he5) hp5
      walk_at "go"
      refine Z.w_dec (fun h3 => ?_) (fun h3 => ?_)
      · walk_at "go"
        rename_i d H5 hn5 he5 hp5
        exact hE2 hok i (hno fun z => by unfold NdOk at z; dsimp only at z h3; omega) d H5 ((e1.trans eG2).back hn5) ((e1.trans eG2).trans he5) hp5
      walk_at "go"
      refine Z.w_dec (fun h4 => ?_) (fun h4 => ?_)
      · walk_at "go"
        rename_i d H5 hn5 he5 hp5
        exact hE2 hok i (hno fun z => by unfold NdOk at z; dsimp only at z h4; omega) d H5 ((e1.trans eG2).back hn5) ((e1.trans eG2).trans he5) hp5
      walk_at "go"
      refine Z.w_dec (fun h5 => ?_) (fun h5 => ?_)
      · walk_at "go"
        rename_i d H5 hn5 he5 hp5
        exact hE2 hok i (hno fun z => by unfold NdOk at z; dsimp only at z h5; omega) d H5 ((e1.trans eG2).back hn5) ((e1.trans eG2).trans he5) hp5
      walk_at "go"
      exact ⟨_, _, _, rfl, eG2, hyes (by unfold NdOk; dsimp only at *; omega)⟩
    · rintro σ' G ⟨v5, v6, v7, rfl, eG, hall⟩
      have hgood : NdGood ws.length nd := fun j hj => hall j (by omega)
      have hgG := eG.get hg2
      have hLG := hL2.ex eG
      have g1G := eG.get g1
      have g3G := eG.get g3
      walk_at "go"
      rename_i J2 S2
      refine Z.cgX S2 (fun k acc G' => PL G' acc (nd.take k)) (fun H' e => PL.nil) (fun k acc Ga Gb h e => h.ex e) (fun H' e => e.l (sq_of hgG)) (by rw [hxl]; show _ ≤ 16777216; omega) (fun Dl kq z Gc acc hk ec cd hl hP hy => ?_) (fun p7 H7 acc hn7 he7 hp7 hl7 hP7 => ?_) rfl
      · obtain ⟨q, i1, i2⟩ := (hLG.ex ec).2 kq (by omega)
        have hy : xs[kq]? = some z := hy
        rw [i1] at hy
        cases hy
        walk_at "go"
        rename_i pz Gz hnz hez hpz
        refine Z.elx cd hl (by rw [hl]; show kq < 16777216; omega) hez fun H9 hnl => ?_
        rw [take_snoc (show kq < nd.length by omega) (0, 0)]
        exact ((hP.ex hez).nl hnl).snoc (hnl.get (fun l z => by cases z) hpz)
      rw [hxl, List.take_length] at hP7
      walk_at "go"
      rename_i p8 H8 hn8 he8 hp8
      have hx8 := he8.get (he7.get g1G)
      refine Z.w_putE hx8 fx0 (by with_reducible assumption) (by show 2 < 900; decide) (by simp only [List.map_cons, List.map_nil, List.cons_append, List.nil_append]; decide +kernel) fun H9 k1 k2 k3 => ?_
      walk_at "go"
      have e2 := k2 H0 (e1.trans (eG.trans (he7.trans he8))) hf
      have hL8 := hP7.ex he8
      have ne : ∀ {b : Addr} {ys : List V}, At H8 b (.tup ys) → b ≠ x := fun hb z => by subst z; cases hx8.inj hb
      have h38 := he8.get (he7.get g3G)
      refine k hok hgood H9 e2 ⟨p8, ⟨dx, r, t1, k1, hr0.ex e2, k3 t1 _ (ne h38) h38, g4⟩, acc, k3 p8 _ (ne hp8) hp8, hL8.1, fun i hi => ?_⟩
      obtain ⟨a, q1, q2⟩ := hL8.2 i hi
      exact ⟨a, q1, k3 a _ (ne q2) q2⟩
/-- Closed(r, pl, needs=gl) -/
theorem mkCl {H : Hp} {Q : VK} {E : XK} {r pl gl : Addr} {ws ps : List Int} {a : Int} {xs : List V} {nd : List (Int × Int)} (hr : WR K H r ws a) (hp : SqL K H pl (ps.map V.int)) (hg : At H gl (.lst xs)) (hL : PL H xs nd) (hnd : nd.length ≤ 1000) (hE : PErr K ws.length ps E H) (hE2 : PricesOk ws.length ps → NdErr K ws.length nd E H)
    (k : PricesOk ws.length ps → NdGood ws.length nd → ∀ x H', Fr H x → Ex H H' → Rp_Closed K H' x ws a ps nd → Q (.ref x) H') : dMk (He.ga K "Closed") (sp_Closed___init__ K) [] E Q [.ref r, .ref pl, .ref gl] H :=
  w_dMk fun x dx H2 nw => ⟨H, x, dx, r, pl, gl, ws, a, ps, xs, nd, rfl, nw.at_, nw.new, nw.ex, hr, hp, hg, hL, hnd, hE, hE2, fun h1 h2 H' e hs => ⟨rfl, k h1 h2 x H' nw.new e hs⟩⟩

def sp__law_asked (K : PySem.W.Frag) : Sp := fun vs H Q _ => ∃ (r pl gl : Addr) (ws : List Int) (a : Int) (ps : List Int) (xs : List V) (nd : List (Int × Int)), vs = [.ref r, .ref pl, .ref gl] ∧ WR K H r ws a ∧ SqL K H pl (ps.map V.int) ∧ At H gl (.lst xs) ∧ PL H xs nd ∧ nd.length ≤ 1000 ∧
  (∀ v i, PRes ws.length ps v i → ∀ p H', Fr H p → Ex H H' → At H' p (.lst [.str "number", .str "prices", v]) → Q (.ref p) H') ∧
  (PricesOk ws.length ps → ∀ p H' us, Fr H p → Ex H H' → At H' p (.lst us) → DOut ws.length nd us → Q (.ref p) H')
theorem ok__law_asked (T : Tx P K mg) : FnOk P w K mg base (L2.CX P w) 8 (He.ga K "_law_asked") (Z.fdOf K (He.ga K "_law_asked")) ["_law_rule", "_law_prices", "_law_pairs_here"] (sp__law_asked K) := by
  refine T.F__law_asked.ok sc__law_asked (fun vs H Q E h => ?_) (fun cdv A outer s H vs Q E hr h => ?_)
  · obtain ⟨r, pl, gl, ws, a, ps, xs, nd, rfl, _⟩ := h
    rfl
  · obtain ⟨r, pl, gl, ws, a, ps, xs, nd, rfl, hx, hp, hg, hL, hnd, k1, k2⟩ := h
    have fx0 := T.exm_ShelfError_BadNumber
    have fx1 := T.exm_ZeroBottom_BadNumber
    have fx2 := T.exm_BadText_BadNumber
    have fx3 := T.exm_BadLot_BadNumber
    have fx4 := T.exm_BadNumber_BadNumber
    have fx5 := T.exm_TooMany_BadNumber
    have fx6 := T.exm_BadWish_BadNumber
    have fx7 := T.exm_BadTable_BadNumber
    have fx8 := T.exm_BadNeed_BadNumber
    have fx9 := T.exm_ShelfError_BadNeed
    have fx10 := T.exm_ZeroBottom_BadNeed
    have fx11 := T.exm_BadText_BadNeed
    have fx12 := T.exm_BadLot_BadNeed
    have fx13 := T.exm_BadNumber_BadNeed
    have fx14 := T.exm_TooMany_BadNeed
    have fx15 := T.exm_BadWish_BadNeed
    have fx16 := T.exm_BadTable_BadNeed
    have fx17 := T.exm_BadNeed_BadNeed
    refine ⟨_, PSs.nox (pss_cons (Z.ps_tryM rfl rfl sc__law_asked.nd takes0 (fun W pn xe tk _ => (pss_one (ps_expr (Z.pe_mkK T.mk_Closed (Z.rk_ok (ok_Closed___init__ T) T.kb_Closed___init__) (hr.mono (by decide)) (by rfl) T.g_Closed (fun σ => passAt tk σ) (pa_cons (pv 0) (pa_cons (pv 1) pa_nil)) (pk_cons (pv 2) pk_nil))))) (.as (i := 3) ⟨rfl, by decide, .inl T.g_BadNeed⟩ rfl rfl (fun a oe cls d pn hz hf => (pss_one (ps_ret (pe_lst (pa_cons pe_str (pa_cons (pe_xf T.xf_BadNeed T.nf_BadNeed_at hz hf (pv 3)) pa_nil)))))) (.as (i := 3) ⟨rfl, by decide, .inl T.g_BadNumber⟩ rfl rfl (fun a oe cls d pn hz hf => (pss_one (ps_ret (pe_lst (pa_cons pe_str (pa_cons (pe_xf T.xf_BadNumber T.nf_BadNumber_what hz hf (pv 3)) (pa_cons (pe_xf T.xf_BadNumber T.nf_BadNumber_at hz hf (pv 3)) pa_nil))))))) .nil)))
      (pss_one (ps_ret (pe_lst (pa_cons pe_str pa_nil))))), ?_⟩
    try dsimp only [cxOf, Cx.nox, Cx.wish]
    try (show (_ : TS) _ [some _, some _, some _, none] _)
    walk_at "go"
    refine mkCl hx hp hg hL hnd ⟨fun h d H' hf e hd => ?_, fun h j hj hw hb d H' hf e hd => ?_⟩ (fun hok i hi d H' hf e hd => ?_) fun hok h0 x H' hf e hx2 => ?_
    · walk_at "go"
      rename_i p2 H2 hn2 he2 hp2
      exact k1 _ _ (.len h) p2 H2 (by walk_at "fr") (by walk_at "ex") hp2
    · walk_at "go"
      rename_i p2 H2 hn2 he2 hp2
      exact k1 _ _ (.neg h j hj hw hb) p2 H2 (by walk_at "fr") (by walk_at "ex") hp2
    · walk_at "go"
      rename_i p2 H2 hn2 he2 hp2
      exact k2 hok p2 H2 _ (by walk_at "fr") (by walk_at "ex") hp2 (.inl ⟨i, hi, rfl⟩)
    · walk_at "go"
      rename_i p2 H2 hn2 he2 hp2
      exact k2 hok p2 H2 _ (by walk_at "fr") (by walk_at "ex") hp2 (.inr ⟨h0, rfl⟩)

/-- what the classes say -/
def COut (n : Nat) (nd : List (Int × Int)) (cs : List V) : Prop := (∃ i : Nat, NdRes n nd i ∧ cs = [.bl true, .bl false, .bl false, .bl false, .bl false, .bl true]) ∨ (NdGood n nd ∧ cs = [])
def sp__law_classes (K : PySem.W.Frag) : Sp := fun vs H Q _ => ∃ (r pl gl : Addr) (ws : List Int) (a : Int) (ps : List Int) (xs : List V) (nd : List (Int × Int)), vs = [.ref r, .ref pl, .ref gl] ∧ WR K H r ws a ∧ SqL K H pl (ps.map V.int) ∧ At H gl (.lst xs) ∧ PL H xs nd ∧ nd.length ≤ 1000 ∧ PricesOk ws.length ps ∧
  ∀ p H' cs, Fr H p → Ex H H' → At H' p (.lst cs) → COut ws.length nd cs → Q (.ref p) H'
theorem ok__law_classes (T : Tx P K mg) : FnOk P w K mg base (L2.CX P w) 8 (He.ga K "_law_classes") (Z.fdOf K (He.ga K "_law_classes")) ["_law_rule", "_law_prices", "_law_pairs_here"] (sp__law_classes K) := by
  refine T.F__law_classes.ok sc__law_classes (fun vs H Q E h => ?_) (fun cdv A outer s H vs Q E hr h => ?_)
  · obtain ⟨r, pl, gl, ws, a, ps, xs, nd, rfl, _⟩ := h
    rfl
  · obtain ⟨r, pl, gl, ws, a, ps, xs, nd, rfl, hx, hp, hg, hL, hnd, hok, k2⟩ := h
    have fx0 := T.exm_ShelfError_ShelfError
    have fx1 := T.exm_ZeroBottom_ShelfError
    have fx2 := T.exm_BadText_ShelfError
    have fx3 := T.exm_BadLot_ShelfError
    have fx4 := T.exm_BadNumber_ShelfError
    have fx5 := T.exm_TooMany_ShelfError
    have fx6 := T.exm_BadWish_ShelfError
    have fx7 := T.exm_BadTable_ShelfError
    have fx8 := T.exm_BadNeed_ShelfError
    have fx9 := T.ki_ShelfError_ValueError
    have fx10 := T.ec_ShelfError
    have fx11 := T.ki_ZeroBottom_ValueError
    have fx12 := T.ec_ZeroBottom
    have fx13 := T.ki_BadText_ValueError
    have fx14 := T.ec_BadText
    have fx15 := T.ki_BadLot_ValueError
    have fx16 := T.ec_BadLot
    have fx17 := T.ki_BadNumber_ValueError
    have fx18 := T.ec_BadNumber
    have fx19 := T.ki_TooMany_ValueError
    have fx20 := T.ec_TooMany
    have fx21 := T.ki_BadWish_ValueError
    have fx22 := T.ec_BadWish
    have fx23 := T.ki_BadTable_ValueError
    have fx24 := T.ec_BadTable
    have fx25 := T.ki_BadNeed_ValueError
    have fx26 := T.ec_BadNeed
    have fx27 := T.ki_ShelfError_BadLot
    have fx28 := T.ki_ZeroBottom_BadLot
    have fx29 := T.ki_BadText_BadLot
    have fx30 := T.ki_BadLot_BadLot
    have fx31 := T.ki_BadNumber_BadLot
    have fx32 := T.ki_TooMany_BadLot
    have fx33 := T.ki_BadWish_BadLot
    have fx34 := T.ki_BadTable_BadLot
    have fx35 := T.ki_BadNeed_BadLot
    have fx36 := T.ki_ShelfError_BadTable
    have fx37 := T.ki_ZeroBottom_BadTable
    have fx38 := T.ki_BadText_BadTable
    have fx39 := T.ki_BadLot_BadTable
    have fx40 := T.ki_BadNumber_BadTable
    have fx41 := T.ki_TooMany_BadTable
    have fx42 := T.ki_BadWish_BadTable
    have fx43 := T.ki_BadTable_BadTable
    have fx44 := T.ki_BadNeed_BadTable
    have fx45 := T.ki_ShelfError_BadWish
    have fx46 := T.ki_ZeroBottom_BadWish
    have fx47 := T.ki_BadText_BadWish
    have fx48 := T.ki_BadLot_BadWish
    have fx49 := T.ki_BadNumber_BadWish
    have fx50 := T.ki_TooMany_BadWish
    have fx51 := T.ki_BadWish_BadWish
    have fx52 := T.ki_BadTable_BadWish
    have fx53 := T.ki_BadNeed_BadWish
    have fx54 := T.ki_ShelfError_BadNumber
    have fx55 := T.ki_ZeroBottom_BadNumber
    have fx56 := T.ki_BadText_BadNumber
    have fx57 := T.ki_BadLot_BadNumber
    have fx58 := T.ki_BadNumber_BadNumber
    have fx59 := T.ki_TooMany_BadNumber
    have fx60 := T.ki_BadWish_BadNumber
    have fx61 := T.ki_BadTable_BadNumber
    have fx62 := T.ki_BadNeed_BadNumber
    have fx63 := T.ki_ShelfError_BadNeed
    have fx64 := T.ki_ZeroBottom_BadNeed
    have fx65 := T.ki_BadText_BadNeed
    have fx66 := T.ki_BadLot_BadNeed
    have fx67 := T.ki_BadNumber_BadNeed
    have fx68 := T.ki_TooMany_BadNeed
    have fx69 := T.ki_BadWish_BadNeed
    have fx70 := T.ki_BadTable_BadNeed
    have fx71 := T.ki_BadNeed_BadNeed
    refine ⟨_, PSs.nox (pss_cons (Z.ps_tryA (i := 3) rfl rfl sc__law_classes.nd rfl rfl ⟨rfl, by decide, .inl T.g_ShelfError⟩ takes0 (fun W pn xe tk _ => (pss_one (ps_expr (Z.pe_mkK T.mk_Closed (Z.rk_ok (ok_Closed___init__ T) T.kb_Closed___init__) (hr.mono (by decide)) (by rfl) T.g_Closed (fun σ => passAt tk σ) (pa_cons (pv 0) (pa_cons (pv 1) pa_nil)) (pk_cons (pv 2) pk_nil))))) (fun a oe cls d pn hz hf => (pss_cons (ps_set (i := 4) sc__law_classes.nd rfl (Or.inl rfl) (pe_lst (pa_cons (pe_callB (Z.call_isY hz hf) (by rfl) T.n_isinstance (by decide +kernel) (pa_cons (pv 3) (pa_cons (pe_glob (v := .ref (He.ga K "BadNeed")) (by rfl) T.g_BadNeed rfl) pa_nil))) (pa_cons (pe_callB (Z.call_isY hz hf) (by rfl) T.n_isinstance (by decide +kernel) (pa_cons (pv 3) (pa_cons (pe_glob (v := .ref (He.ga K "BadNumber")) (by rfl) T.g_BadNumber rfl) pa_nil))) (pa_cons (pe_callB (Z.call_isY hz hf) (by rfl) T.n_isinstance (by decide +kernel) (pa_cons (pv 3) (pa_cons (pe_glob (v := .ref (He.ga K "BadWish")) (by rfl) T.g_BadWish rfl) pa_nil))) (pa_cons (pe_callB (Z.call_isY hz hf) (by rfl) T.n_isinstance (by decide +kernel) (pa_cons (pv 3) (pa_cons (pe_glob (v := .ref (He.ga K "BadTable")) (by rfl) T.g_BadTable rfl) pa_nil))) pa_nil))))))
      (pss_one (ps_ret (pe_op Z.op_add (pv 4) (pe_lst (pa_cons (pe_callB (Z.call_isY hz hf) (by rfl) T.n_isinstance (by decide +kernel) (pa_cons (pv 3) (pa_cons (pe_glob (v := .ref (He.ga K "BadLot")) (by rfl) T.g_BadLot rfl) pa_nil))) (pa_cons (pe_callB (Z.call_isY hz hf) (by rfl) T.n_isinstance (by decide +kernel) (pa_cons (pv 3) (pa_cons (pe_bltn (v := .ty "ValueError") (u := .type "ValueError") (by rfl) T.n_ValueError (by decide +kernel) rfl) pa_nil))) pa_nil)))))))))
      (pss_one (ps_ret (pe_lst pa_nil)))), ?_⟩
    try dsimp only [cxOf, Cx.nox, Cx.wish]
    try (show (_ : TS) _ [some _, some _, some _, none, none] _)
    walk_at "go"
    refine mkCl hx hp hg hL hnd (PErr.ok hok) (fun _ i hi d H' hf e hd => ?_) fun _ h0 x H' hf e hx2 => ?_
    · walk_at "run"
      rename_i p2 H2 hn2 he2 hp2
      exact k2 _ _ _ (by walk_at "fr") (by walk_at "ex") (by assumption) (.inl ⟨i, hi, rfl⟩)
    · walk_at "run"
      rename_i p2 H2 hn2 he2 hp2
      exact k2 p2 H2 _ (by walk_at "fr") (by walk_at "ex") hp2 (.inr ⟨h0, rfl⟩)

def sp_Closed_Choice_allowed (K : PySem.W.Frag) : Sp := fun vs H Q E => ∃ (x l : Addr) (ws : List Int) (a : Int) (ps lot : List Int) (nd : List (Int × Int)), vs = [.ref x, .ref l] ∧ Rp_Closed K H x ws a ps nd ∧ SqT K H l (lot.map V.int) ∧ (¬ IsLot ws.length lot → ∀ H', Ex H H' → E (.ref (He.ga K "BadLot")) none H') ∧ (IsLot ws.length lot → ∀ H', Ex H H' → Q (.bl true) H')
theorem ok_Closed_Choice_allowed (T : Tx P K mg) : FnOk P w K mg base (L2.CX P w) 2 (He.ma K (He.ga K "Choice") "allowed") (Z.fdOf K (He.ma K (He.ga K "Choice") "allowed")) ["self", "lot"] (sp_Closed_Choice_allowed K) := by
  refine T.F_Choice_allowed.ok sc_Choice_allowed (fun vs H Q E h => ?_) (fun cdv A outer s H vs Q E hr h => ?_)
  · obtain ⟨x, l, ws, a, ps, lot, nd, rfl, _⟩ := h
    rfl
  · obtain ⟨x, l, ws, a, ps, lot, nd, rfl, hx, hl, hE, k⟩ := h
    obtain ⟨g, ⟨dx, r, t, hx1, hr1, ht, hpl⟩, _⟩ := hx
    simp only [xf_Closed] at hx1
    have fx0 := T.o_Weighted.cl
    have fx1 := T.na_Weighted_many
    have fx2 := T.o_Closed.cl
    have fx3 := T.na_Closed_rule
    refine ⟨_, (pss_cons (ps_expr (Z.pe_callZ (ok_check_lot T) (hr.mono (by decide)) (by rfl) T.g_check_lot T.F_check_lot.kp T.b_check_lot .nil (fun σ => passAt (takes_of rfl rfl rfl rfl) σ) (pa_cons (pv 1) (pa_cons (Z.fld (K := K) rfl (Z.fld (K := K) rfl (pv 0) rfl) rfl) pa_nil))))
      (pss_one (ps_ret pe_bl))), ?_⟩
    try dsimp only [cxOf, Cx.nox, Cx.wish]
    try (show (_ : TS) _ [some _, some _] _)
    walk_at "go"
    refine ⟨l, lot, _, rfl, hl, hE, fun h1 H1 e1 => ?_⟩
    walk_at "go"
    exact k h1 H1 e1

def sp_Closed_allowed (K : PySem.W.Frag) : Sp := fun vs H Q E => ∃ (x l : Addr) (ws : List Int) (a : Int) (ps lot : List Int) (nd : List (Int × Int)), vs = [.ref x, .ref l] ∧ Rp_Closed K H x ws a ps nd ∧ SqT K H l (lot.map V.int) ∧ nd.length ≤ 1000 ∧ (¬ IsLot ws.length lot → ∀ H', Ex H H' → E (.ref (He.ga K "BadLot")) none H') ∧ (IsLot ws.length lot → ∀ H', Ex H H' → Q (.bl (ndB nd lot)) H')
theorem ok_Closed_allowed (T : Tx P K mg) : FnOk P w K mg base (L2.CX P w) 3 (He.ma K (He.ga K "Closed") "allowed") (Z.fdOf K (He.ma K (He.ga K "Closed") "allowed")) ["self", "lot"] (sp_Closed_allowed K) := by
  refine Z.FunS.okP (x0 := "self") T.F_Closed_allowed sc_Closed_allowed (by decide +kernel) rfl rfl rfl (.inl (by decide +kernel)) (by decide +kernel) T.p_top T.n_super T.c_Closed (by decide +kernel) (fun vs H Q E h => ?_) (fun cc cda A outer s H vs Q E hr h S => ?_)
  · obtain ⟨x, l, ws, a, ps, lot, nd, rfl, _⟩ := h
    rfl
  · obtain ⟨x, l, ws, a, ps, lot, nd, rfl, hx, hl, hnd, hE, k⟩ := h
    obtain ⟨g, ⟨dx, r, t, hx1, hr1, ht, hpl⟩, xs, hg1, hg2⟩ := id hx
    simp only [xf_Closed] at hx1
    have fx0 := T.o_Closed.cl
    have fx1 := T.na_Closed_needs
    refine ⟨_, (Z.pssat_cons (Z.ps_supR (Z.pe_andAt (Z.pe_sup S T.mro_Closed_Closed T.third T.sm_Closed_Closed_allowed.1 T.sm_Closed_Closed_allowed.2.1 T.sm_Closed_Closed_allowed.2.2 (Z.rawOk (ok_Closed_Choice_allowed T) T.b_Choice_allowed) (hr.mono (by decide)) (fun σ => passAt (takes_of rfl rfl rfl rfl) σ) (pa_cons (pv 1) pa_nil)) (pe_one (pe_callB (Z.call_all (K := K) rfl rfl) (by rfl) T.n_all (by decide +kernel) (pa_cons (pe_lc (own := [("a", 3), ("b", 4)]) (g := (gTup K 2 (gCons (gName 3) (gCons (gName 4) gNil)))) rfl sc_Closed_allowed.nd (Z.piT (K := K) rfl (Z.fld (K := K) rfl (pv 0) rfl)) (blkOk_by (N := ["self", "lot", "__class__", "a", "b"]) (sc := defScope s_Closed_allowed) (by decide +kernel)) (fun _ _ _ _ _ => (pg_tup (by rfl) (pgs_cons (pg_name (i := 3) sc_Closed_allowed.nd rfl (by first | exact Or.inl rfl | exact Or.inr rfl)) (pgs_cons (pg_name (i := 4) sc_Closed_allowed.nd rfl (by first | exact Or.inl rfl | exact Or.inr rfl)) pgs_nil)))) (fun _ _ _ _ _ => (pts_one (pt_cmpR (Z.op_in (K := K) rfl) (pv 3) (pv 1) (by rfl)))) (fun _ _ _ _ _ => (pe_cmpR (Z.op_in (K := K) rfl) (pv 4) (pv 1) (by rfl)))) pa_nil))))) (Z.pssat_of pss_nil)), ?_⟩
    change (_ : TS) _ [some _, some _, none, none, none] _
    try dsimp only [Z.scx, NdefX.ncx]
    walk_at "go"
    refine ⟨x, l, ws, a, ps, lot, nd, rfl, hx, hl, hE, fun h1 H1 e1 => ?_⟩
    walk_at "go"
    rename_i J S
    have hg11 := e1.get hg1
    have hg21 := hg2.ex e1
    have hl1 := e1.t hl
    have hxl := hg2.1
    refine Z.cgP S (fun i => decide ((nd.getD i (0, 0)).1 ∈ lot)) (fun i => V.bl (decide ((nd.getD i (0, 0)).2 ∈ lot))) (fun H' e => e.t (st_of hg11)) (by rw [hxl]; show _ ≤ 16777216; omega) (fun Dl i z G hi ec cd hz hy => ?_) (fun p3 H3 hn3 he3 hp3 => ?_)
    · obtain ⟨q, i1, i2⟩ := (hg21.ex ec).2 i (by omega)
      have hy : xs[i]? = some z := hy
      rw [i1] at hy
      cases hy
      have hl2 := ec.t hl1
      walk_at "go"
      by_cases h : (nd.getD i (0, 0)).1 ∈ lot
      · rw [if_pos (decide_eq_true h)]
        rw [Z.fr_T (decide_eq_true h)]
        walk_at "go"
      · rw [if_neg (by rw [decide_eq_false h]; decide)]
        rw [Z.fr_F (decide_eq_false h)]
        exact cd
    · have hp8 : SqL K H3 p3 ((((List.range nd.length).filter fun i => decide ((nd.getD i (0, 0)).1 ∈ lot)).map fun i => decide ((nd.getD i (0, 0)).2 ∈ lot)).map V.bl) := by
        rw [List.map_map]
        rw [hxl] at hp3
        exact sq_of hp3
      clear hp3
      walk_at "go"
      refine ⟨p3, _, rfl, hp8, ?_⟩
      rw [nd_all]
      walk_at "go"
      exact k h1 H3 (e1.trans he3)

def sp__law_refuses (K : PySem.W.Frag) : Sp := fun vs H Q _ => ∃ (x l : Addr) (ws : List Int) (a : Int) (ps lot : List Int) (nd : List (Int × Int)), vs = [.ref x, .ref l] ∧ Rp_Closed K H x ws a ps nd ∧ SqT K H l (lot.map V.int) ∧ nd.length ≤ 1000 ∧ ¬ IsLot ws.length lot ∧ ∀ H', Ex H H' → Q (.bl true) H'
theorem ok__law_refuses (T : Tx P K mg) : FnOk P w K mg base (L2.CX P w) 4 (He.ga K "_law_refuses") (Z.fdOf K (He.ga K "_law_refuses")) ["_law_choice", "_law_lot_here"] (sp__law_refuses K) := by
  refine T.F__law_refuses.ok sc__law_refuses (fun vs H Q E h => ?_) (fun cdv A outer s H vs Q E hr h => ?_)
  · obtain ⟨x, l, ws, a, ps, lot, nd, rfl, _⟩ := h
    rfl
  · obtain ⟨x, l, ws, a, ps, lot, nd, rfl, hx, hl, hnd, hlot, k⟩ := h
    obtain ⟨g, ⟨dx, r, t, hx1, hr1, ht, hpl⟩, xs, hg1, hg2⟩ := id hx
    simp only [xf_Closed] at hx1
    have fx0 := T.exm_ShelfError_BadLot
    have fx1 := T.exm_ZeroBottom_BadLot
    have fx2 := T.exm_BadText_BadLot
    have fx3 := T.exm_BadLot_BadLot
    have fx4 := T.exm_BadNumber_BadLot
    have fx5 := T.exm_TooMany_BadLot
    have fx6 := T.exm_BadWish_BadLot
    have fx7 := T.exm_BadTable_BadLot
    have fx8 := T.exm_BadNeed_BadLot
    refine ⟨_, PSs.nox (pss_cons (Z.ps_tryO rfl rfl ⟨rfl, by decide, .inl T.g_BadLot⟩ takes0 (fun W pn xe tk _ => (pss_one (ps_expr (Z.pe_methZ (pv 0) T.o_Closed.cl T.me_Closed_allowed (ok_Closed_allowed T) (hr.mono (by decide)) T.b_Closed_allowed .nil (fun σ => passAt tk σ) (pa_cons (pv 1) pa_nil))))) (fun a oe cls d pn hz hf => (pss_one (ps_ret pe_bl))))
      (pss_one (ps_ret pe_bl))), ?_⟩
    try dsimp only [cxOf, Cx.nox, Cx.wish]
    try (show (_ : TS) _ [some _, some _] _)
    walk_at "go"
    refine ⟨x, l, ws, a, ps, lot, nd, rfl, hx, hl, hnd, fun _ H' e => ?_, fun h => absurd h hlot⟩
    walk_at "go"
    exact k _ e

def sp__law_holds (K : PySem.W.Frag) : Sp := fun vs H Q _ => ∃ (l p : Addr) (lot : List Int) (xs : List V) (nd : List (Int × Int)), vs = [.ref l, .ref p] ∧ SqT K H l (lot.map V.int) ∧ At H p (.lst xs) ∧ PL H xs nd ∧ lot.length ≤ 100 ∧ ∀ H', Ex H H' → Q (.bl (ndB nd lot)) H'
theorem ok__law_holds (T : Tx P K mg) : FnOk P w K mg base (L2.CX P w) 1 (He.ga K "_law_holds") (Z.fdOf K (He.ga K "_law_holds")) ["_law_lot_here", "_law_pairs_here"] (sp__law_holds K) := by
  refine T.F__law_holds.ok sc__law_holds (fun vs H Q E h => ?_) (fun cdv A outer s H vs Q E hr h => ?_)
  · obtain ⟨l, p, lot, xs, nd, rfl, _⟩ := h
    rfl
  · obtain ⟨l, p, lot, xs, nd, rfl, hl, hp, hL, hll, k⟩ := h
    refine ⟨_, PSs.nox (pss_cons (ps_for PassesOwn.never rfl (Z.piL (K := K) rfl (pv 1)) (pg_name (i := 2) sc__law_holds.nd rfl (by first | exact Or.inl rfl | exact Or.inr rfl)) (pss_one (ps_if (PW.pt (pw_and (pt_cmpR (Z.op_in (K := K) rfl) (pe_ix (Z.ix (K := K) rfl) (pv 2) pe_int (fun _ _ => rfl)) (pv 0) (by rfl)) (pw_and1 (pt_cmpR (Z.op_notin (K := K) rfl) (pe_ix (Z.ix (K := K) rfl) (pv 2) pe_int (fun _ _ => rfl)) (pv 0) (by rfl))))) (pss_one (ps_ret pe_bl)) pss_nil)))
      (pss_one (ps_ret pe_bl))), ?_⟩
    try dsimp only [cxOf, Cx.nox, Cx.wish]
    try (show (_ : TS) _ [some _, some _, none] _)
    walk_at "go"
    rename_i J S
    have hxl := hL.1
    refine Z.fg S (fun i σ G => ∃ (v2 : Option V), σ = [some (.ref l), some (.ref p), v2] ∧ Ex H G ∧ ∀ j, j < i → ((nd.getD j (0, 0)).1 ∈ lot → (nd.getD j (0, 0)).2 ∈ lot)) ⟨none, rfl, Ex.refl _, fun j hj => absurd hj (by omega)⟩ (fun i σ' G _ ⟨_, _, e, _⟩ => e.l (sq_of hp)) ?_ ?_
    · rintro i y σ' G G2 hi ⟨v2, rfl, eG, hall⟩ e2 hy
      have hi2 : i < nd.length := by omega
      have eG2 := eG.trans e2
      obtain ⟨q, g1, g2⟩ := (hL.ex eG2).2 i hi2
      have e : y = .ref q := by
        have hy : xs[i]? = some y := hy
        rw [g1] at hy
        exact (Option.some.inj hy).symm
      subst e
      have hl2 := eG2.t hl
      have hyes : ((nd.getD i (0, 0)).1 ∈ lot → (nd.getD i (0, 0)).2 ∈ lot) → ∀ j, j < i + 1 → ((nd.getD j (0, 0)).1 ∈ lot → (nd.getD j (0, 0)).2 ∈ lot) := fun h j hj => by
        by_cases e : j = i
        · subst e; exact h
        · exact hall j (by omega)
      have hno : (nd.getD i (0, 0)).1 ∈ lot → (nd.getD i (0, 0)).2 ∉ lot → ndB nd lot = false := fun h1 h2 => by
        unfold ndB
        rw [List.all_eq_false]
        refine ⟨nd.getD i (0, 0), by rw [getD_get _ _ _ hi2]; exact List.getElem_mem _, ?_⟩
        rw [decide_eq_true h1, decide_eq_false h2]
        decide
      clear hall
      generalize nd.getD i (0, 0) = z at *
      obtain ⟨u, v⟩ := z
      walk_at "go"
      by_cases h1 : u ∈ lot
      · rw [if_pos (decide_eq_true h1)]
        walk_at "go"
        by_cases h2 : v ∈ lot
        · rw [if_neg (by rw [decide_eq_true (show (u, v).2 ∈ lot from h2)]; decide)]
          walk_at "go"
          exact ⟨_, rfl, eG2, hyes fun _ => h2⟩
        · rw [if_pos (by rw [decide_eq_false (show ¬ (u, v).2 ∈ lot from h2)]; rfl)]
          walk_at "go"
          rw [hno h1 h2] at k
          exact k _ eG2
      · rw [if_neg (by rw [decide_eq_false (show ¬ (u, v).1 ∈ lot from h1)]; decide)]
        walk_at "go"
        exact ⟨_, rfl, eG2, hyes fun z => absurd z h1⟩
    · rintro σ' G ⟨v2, rfl, eG, hall⟩
      walk_at "go"
      have k := k _ eG
      rw [show ndB nd lot = true from by
        unfold ndB
        rw [List.all_eq_true]
        intro z hz
        obtain ⟨j, hj, rfl⟩ := List.mem_iff_getElem.mp hz
        have := hall j (by omega)
        rw [getD_get _ _ _ hj] at this
        by_cases h : (nd[j]).1 ∈ lot
        · rw [decide_eq_true (this h)]; exact Bool.or_true _
        · rw [decide_eq_false h]; rfl] at k
      exact k

def sp__law_completed (K : PySem.W.Frag) : Sp := fun vs H Q _ => ∃ (l p : Addr) (lot : List Int) (xs : List V) (nd : List (Int × Int)) (n : Nat), vs = [.ref l, .ref p, .int (n : Int)] ∧ SqT K H l (lot.map V.int) ∧ At H p (.lst xs) ∧ PL H xs nd ∧ lot.length ≤ 100 ∧ n ≤ 24 ∧ NdGood n nd ∧ ∀ p H' (ms : List Int), Fr H p → Ex H H' → At H' p (.tup (ms.map V.int)) → IsLot n ms → Q (.ref p) H'
theorem ok__law_completed (T : Tx P K mg) : FnOk P w K mg base (L2.CX P w) 1 (He.ga K "_law_completed") (Z.fdOf K (He.ga K "_law_completed")) ["_law_lot_here", "_law_pairs_here", "_law_many"] (sp__law_completed K) := by
  refine T.F__law_completed.ok sc__law_completed (fun vs H Q E h => ?_) (fun cdv A outer s H vs Q E hr h => ?_)
  · obtain ⟨l, p, lot, xs, nd, n, rfl, _⟩ := h
    rfl
  · obtain ⟨l, p, lot, xs, nd, n, rfl, hl, hp, hL, hll, hn, hgd, k⟩ := h
    have hxl := hL.1
    refine ⟨_, PSs.nox (pss_cons (ps_set (i := 3) sc__law_completed.nd rfl (Or.inr rfl) (pe_lc (own := [("_law_thing", 6)]) rfl sc__law_completed.nd (pi_range1 (by rfl) T.n_range (pa_cons (pv 2) pa_nil)) (blkOk_by (N := ["_law_lot_here", "_law_pairs_here", "_law_many", "_law_held", "_law_k", "_law_pair", "_law_thing"]) (sc := defScope s__law_completed) (by decide +kernel)) (fun _ _ _ _ _ => (pg_name (i := 6) sc__law_completed.nd rfl (by first | exact Or.inl rfl | exact Or.inr rfl))) (fun _ _ _ _ _ => pts_nil) (fun _ _ _ _ _ => (pe_cmpR (Z.op_in (K := K) rfl) (pv 6) (pv 0) (by rfl)))))
      (pss_cons (ps_for PassesOwn.never rfl (pi_range1 (by rfl) T.n_range (pa_cons (pv 2) pa_nil)) (pg_name (i := 4) sc__law_completed.nd rfl (by first | exact Or.inl rfl | exact Or.inr rfl)) (pss_one (ps_for PassesOwn.never rfl (Z.piL (K := K) rfl (pv 1)) (pg_name (i := 5) sc__law_completed.nd rfl (by first | exact Or.inl rfl | exact Or.inr rfl)) (pss_one (ps_if (pt_val (pe_ix (Z.ix (K := K) rfl) (pv 3) (pe_ix (Z.ix (K := K) rfl) (pv 5) pe_int (fun _ _ => rfl)) (fun _ _ => rfl))) (pss_one (ps_asg pe_bl (pg_sub (pv 3) (pe_ix (Z.ix (K := K) rfl) (pv 5) pe_int (fun _ _ => rfl)) set_list))) pss_nil)))))
      (pss_one (ps_ret (pe_callTy (Z.call_tuple (K := K) rfl) (by rfl) T.n_tuple (by decide +kernel) (pa_cons (pe_lc (own := [("_law_thing", 6)]) rfl sc__law_completed.nd (pi_range1 (by rfl) T.n_range (pa_cons (pv 2) pa_nil)) (blkOk_by (N := ["_law_lot_here", "_law_pairs_here", "_law_many", "_law_held", "_law_k", "_law_pair", "_law_thing"]) (sc := defScope s__law_completed) (by decide +kernel)) (fun _ _ _ _ _ => (pg_name (i := 6) sc__law_completed.nd rfl (by first | exact Or.inl rfl | exact Or.inr rfl))) (fun _ _ _ _ _ => (pts_one (pt_val (pe_ix (Z.ix (K := K) rfl) (pv 3) (pv 6) (fun _ _ => rfl))))) (fun _ _ _ _ _ => (pv 6))) pa_nil)))))), ?_⟩
    try dsimp only [cxOf, Cx.nox, Cx.wish]
    try (show (_ : TS) _ [some _, some _, some _, none, none, none, none] _)
    walk_at "go"
    rename_i J S
    refine Z.cgF S (fun j => V.bl (decide ((j : Int) ∈ lot))) (fun H' e => trivial) (by show _ ≤ 16777216; omega) (fun Dl i y G hi ec cd hy => ?_) (fun p1 H1 hn1 he1 hp1 => ?_) rfl
    · cases hy
      have hl2 := ec.t hl
      walk_at "go"
    have hb0 : At H1 p1 (.lst (((List.range n).map fun j : Nat => decide ((j : Int) ∈ lot)).map V.bl)) := by
      rw [Int.toNat_natCast] at hp1
      rw [List.map_map]
      exact hp1
    have hbl : ((List.range n).map fun j : Nat => decide ((j : Int) ∈ lot)).length = n := by simp
    generalize ((List.range n).map fun j : Nat => decide ((j : Int) ∈ lot)) = bs at *
    clear hp1
    walk_at "go"
    rename_i J2 S2
    refine Z.fg S2 (fun i σ G => ∃ (bs : List Bool) (v4 v5 : Option V), σ = [some (.ref l), some (.ref p), some (.int (n : Int)), some (.ref p1), v4, v5, none] ∧ Ex H G ∧ At G p1 (.lst (bs.map V.bl)) ∧ bs.length = n) ⟨bs, none, none, rfl, he1, hb0, hbl⟩ (fun i σ' G _ _ => trivial) ?_ ?_
    · rintro i y σ' G G2 hi ⟨bs1, v4, v5, rfl, eG, hbG, hbl1⟩ e2 rfl
      have eG2 := eG.trans e2
      have hp2 := eG2.get hp
      have hb2 := e2.get hbG
      clear hbG hb0
      walk_at "go"
      rename_i J3 S3
      refine Z.fg S3 (fun j σ G' => ∃ (bs : List Bool) (v5 : Option V), σ = [some (.ref l), some (.ref p), some (.int (n : Int)), some (.ref p1), some (.int (i : Nat)), v5, none] ∧ Ex H G' ∧ At G' p1 (.lst (bs.map V.bl)) ∧ bs.length = n) ⟨bs1, _, rfl, eG2, hb2, hbl1⟩ (fun j σ' G' _ ⟨_, _, _, e, _⟩ => e.l (sq_of hp)) ?_ ?_
      · rintro j y σ' G' G3 hj ⟨bs2, v5', rfl, e3, hb3, hbl3⟩ e4 hy
        have hj2 : j < nd.length := by omega
        have e5 := e3.trans e4
        obtain ⟨q, g1, g2⟩ := (hL.ex e5).2 j hj2
        have hy : xs[j]? = some y := hy
        rw [g1] at hy
        cases hy
        have hok := hgd j hj2
        have hb4 := e4.get hb3
        clear hb3 hb2 hp2
        generalize nd.getD j (0, 0) = z at *
        obtain ⟨u, v⟩ := z
        obtain ⟨o1, o2, o3, o4, o5⟩ := hok
        dsimp only at o1 o2 o3 o4 o5
        have hlm : (bs2.map V.bl).length = n := by rw [List.length_map]; exact hbl3
        walk_at "go"
        refine w_ixL (sq_of hb4) (ix_bl o1 (by omega)) ?_
        walk_at "go"
        cases hbv : bs2.getD u.toNat false with
        | false =>
          walk_at "run"
          exact ⟨bs2, _, rfl, e5, hb4, hbl3⟩
        | true =>
          walk_at "run"
          rename_i H2 hp2' hnl ho hke
          exact ⟨bs2.set v.toNat true, _, rfl, hke, by rw [List.map_set]; exact hp2', by rw [List.length_set]; exact hbl3⟩
      · rintro σ' G' ⟨bs2, v5', rfl, e3, hb3, hbl3⟩
        walk_at "go"
        exact ⟨bs2, _, _, rfl, e3, hb3, hbl3⟩
    · rintro σ' G ⟨bs1, v4, v5, rfl, eG, hbG, hbl1⟩
      clear hb0
      walk_at "go"
      rename_i J4 S4
      refine Z.cgP S4 (fun i => bs1.getD i false) (fun i => V.int (i : Nat)) (fun H' e => trivial) (by show _ ≤ 16777216; omega) (fun Dl i z Gc hi ec cd hz hy => ?_) (fun p3 H3 hn3 he3 hp3 => ?_)
      · cases hy
        have hb5 := ec.get hbG
        walk_at "go"
        refine w_ixL (sq_of hb5) (ix_bl (by omega) (by omega)) ?_
        rw [Int.toNat_natCast]
        cases h : bs1.getD i false with
        | true =>
          walk_at "run"
          rw [Z.fr_T h]
          walk_at "go"
        | false =>
          walk_at "run"
          rw [Z.fr_F h]
          exact cd
      · have hp3' : At H3 p3 (.lst ((castL ((List.range n).filter fun i => bs1.getD i false)).map V.int)) := hp3.l (by rw [Int.toNat_natCast, List.map_map]; rfl)
        clear hp3
        walk_at "go"
        rename_i p4 H4 hn4 he4 hp4
        exact k p4 H4 _ (eG.back (he3.back hn4)) (eG.trans (he3.trans he4)) hp4 (filLot n _)

/-- lots, as tuples in a list -/
def LtL (H : Hp) (xs : List V) (n : Nat) : Prop := ∀ (i : Nat) (y : V), xs[i]? = some y → ∃ l lot, y = V.ref l ∧ At H l (.tup ((lot : List Int).map V.int)) ∧ IsLot (n : Int) lot
theorem LtL.ex {H H' : Hp} {xs : List V} {n : Nat} (h : LtL H xs n) (e : Ex H H') : LtL H' xs n := fun i y hy => by
  obtain ⟨l, lot, h1, h2, h3⟩ := h i y hy
  exact ⟨l, lot, h1, e.get h2, h3⟩
def sp__law_looks (K : PySem.W.Frag) : Sp := fun vs H Q _ => ∃ (x pl p ll : Addr) (ws : List Int) (a : Int) (ps : List Int) (xs : List V) (nd : List (Int × Int)) (ys : List V), vs = [.ref x, .ref pl, .ref p, .ref ll] ∧ Rp_Closed K H x ws a ps nd ∧ SqL K H pl (ps.map V.int) ∧ At H p (.lst xs) ∧ PL H xs nd ∧ nd.length ≤ 60 ∧ At H ll (.lst ys) ∧ LtL H ys ws.length ∧ 0 < ys.length ∧ ys.length ≤ 1000 ∧ ws.length ≤ 24 ∧ ∀ H', Ex H H' → Q (.bl true) H'
theorem ok__law_looks (T : Tx P K mg) : FnOk P w K mg base (L2.CX P w) 5 (He.ga K "_law_looks") (Z.fdOf K (He.ga K "_law_looks")) ["_law_choice", "_law_prices", "_law_pairs_here", "_law_lots"] (sp__law_looks K) := by
  refine T.F__law_looks.ok sc__law_looks (fun vs H Q E h => ?_) (fun cdv A outer s H vs Q E hr h => ?_)
  · obtain ⟨x, pl, p, ll, ws, a, ps, xs, nd, ys, rfl, _⟩ := h
    rfl
  · obtain ⟨x, pl, p, ll, ws, a, ps, xs, nd, ys, rfl, hx, hp, hg, hL, hnd, hll, hLt, hy0, hy1, hw, k⟩ := h
    obtain ⟨g, ⟨dx, r, t, hx1, hr1, ht, hpl⟩, ns, hg1, hg2⟩ := id hx
    simp only [xf_Closed] at hx1
    have hxl := hL.1
    have hnl := hg2.1
    have fx0 := T.o_Closed.cl
    have fx1 := T.na_Closed_needs
    have fx2 := T.na_Closed_prices
    have fx3 := T.o_Ratio
    have fx4 := T.ki_Ratio_Choice
    have fx5 := T.o_Choice
    have fx6 := T.o_Closed
    have fx7 := T.ki_Closed_Choice
    have fx8 := T.o_Rule
    have fx9 := T.ki_Rule_Choice
    have fx10 := T.o_Weighted
    have fx11 := T.ki_Weighted_Choice
    refine ⟨_, PSs.nox (pss_cons (ps_if (PW.pt (pw_or (pt_not (pt_val (pe_callB (Z.call_isi (K := K) rfl) (by rfl) T.n_isinstance (by decide +kernel) (pa_cons (pv 0) (pa_cons (pe_glob (v := .ref (He.ga K "Choice")) (by rfl) T.g_Choice rfl) pa_nil))))) (pw_or1 (pt_not (pt_val (pe_call (ok__law_same_lot T) (hr.mono (by decide)) (by rfl) T.g__law_same_lot T.F__law_same_lot.kp T.b__law_same_lot .nil passL (pa_cons (Z.fld (K := K) rfl (pv 0) rfl) (pa_cons (pv 1) pa_nil)))))))) (pss_one (ps_ret pe_bl)) pss_nil)
      (pss_cons (ps_set (i := 4) sc__law_looks.nd rfl (Or.inl rfl) (Z.fld (K := K) rfl (pv 0) rfl))
      (pss_cons (ps_if (PW.pt (pw_or (pt_not (pt_val (pe_callB (Z.call_isi (K := K) rfl) (by rfl) T.n_isinstance (by decide +kernel) (pa_cons (pv 4) (pa_cons (pe_bltn (v := .ty "tuple") (u := .type "tuple") (by rfl) T.n_tuple (by decide +kernel) rfl) pa_nil))))) (pw_or1 (pt_cmpR (Z.op_ne (K := K) rfl hr.units) (pe_callB (Z.call_len (K := K) rfl) (by rfl) T.n_len (by decide +kernel) (pa_cons (pv 4) pa_nil)) (pe_callB (Z.call_len (K := K) rfl) (by rfl) T.n_len (by decide +kernel) (pa_cons (pv 2) pa_nil)) (nomark _))))) (pss_one (ps_ret pe_bl)) pss_nil)
      (pss_cons (ps_for PassesOwn.never rfl (pi_range1 (by rfl) T.n_range (pa_cons (pe_callB (Z.call_len (K := K) rfl) (by rfl) T.n_len (by decide +kernel) (pa_cons (pv 2) pa_nil)) pa_nil)) (pg_name (i := 5) sc__law_looks.nd rfl (by first | exact Or.inl rfl | exact Or.inr rfl)) (pss_one (ps_if (pt_not (pt_val (pe_call (ok__law_same_lot T) (hr.mono (by decide)) (by rfl) T.g__law_same_lot T.F__law_same_lot.kp T.b__law_same_lot .nil passL (pa_cons (pe_ix (Z.ix (K := K) rfl) (pv 4) (pv 5) (fun _ _ => rfl)) (pa_cons (pe_ix (Z.ix (K := K) rfl) (pv 2) (pv 5) (fun _ _ => rfl)) pa_nil))))) (pss_one (ps_ret pe_bl)) pss_nil)))
      (pss_cons (ps_for PassesOwn.never rfl (Z.piL (K := K) rfl (pv 3)) (pg_name (i := 6) sc__law_looks.nd rfl (by first | exact Or.inl rfl | exact Or.inr rfl)) (pss_one (ps_if (PW.pt (pw_or (pt_not (pt_val (pe_callB (Z.call_isi (K := K) rfl) (by rfl) T.n_isinstance (by decide +kernel) (pa_cons (pe_meth (pv 0) T.o_Closed.cl T.me_Closed_allowed (ok_Closed_allowed T) (hr.mono (by decide)) T.b_Closed_allowed .nil passL (pa_cons (pv 6) pa_nil)) (pa_cons (pe_bltn (v := .ty "bool") (u := .type "bool") (by rfl) T.n_bool (by decide +kernel) rfl) pa_nil))))) (pw_or1 (pt_cmpR (Z.op_ne (K := K) rfl hr.units) (pe_meth (pv 0) T.o_Closed.cl T.me_Closed_allowed (ok_Closed_allowed T) (hr.mono (by decide)) T.b_Closed_allowed .nil passL (pa_cons (pv 6) pa_nil)) (pe_call (ok__law_holds T) (hr.mono (by decide)) (by rfl) T.g__law_holds T.F__law_holds.kp T.b__law_holds .nil passL (pa_cons (pv 6) (pa_cons (pv 2) pa_nil))) (nomark _))))) (pss_one (ps_ret pe_bl)) pss_nil)))
      (pss_cons (ps_for PassesOwn.never rfl (Z.piL (K := K) rfl (pe_lst (pa_cons (pe_op (Z.catA (K := K) rfl) (pe_ix (Z.ix (K := K) rfl) (pv 3) pe_int (fun _ _ => rfl)) (pe_tup (pa_cons (pe_callB (Z.call_len (K := K) rfl) (by rfl) T.n_len (by decide +kernel) (pa_cons (pv 1) pa_nil)) pa_nil))) (pa_cons (pe_op (Z.catA (K := K) rfl) (pe_tup (pa_cons (pe_un Z.un_neg pe_int) pa_nil)) (pe_ix (Z.ix (K := K) rfl) (pv 3) pe_int (fun _ _ => rfl))) (pa_cons (pe_tup (pa_cons pe_int (pa_cons pe_int pa_nil))) (pa_cons (pe_tup (pa_cons pe_int (pa_cons pe_int pa_nil))) pa_nil)))))) (pg_name (i := 7) sc__law_looks.nd rfl (by first | exact Or.inl rfl | exact Or.inr rfl)) (pss_one (ps_if (pt_not (pt_val (pe_call (ok__law_refuses T) (hr.mono (by decide)) (by rfl) T.g__law_refuses T.F__law_refuses.kp T.b__law_refuses .nil passL (pa_cons (pv 0) (pa_cons (pv 7) pa_nil))))) (pss_one (ps_ret pe_bl)) pss_nil)))
      (pss_one (ps_ret pe_bl)))))))), ?_⟩
    try dsimp only [cxOf, Cx.nox, Cx.wish]
    try (show (_ : TS) _ [some _, some _, some _, some _, none, none, none, none] _)
    walk_at "go"
    refine u_samelotA ht (.inl hp) (by omega) fun H1 e1 => ?_
    have hx11 := e1.get hx1
    have hxC := hx.ex e1
    have hp1 := e1.l hp
    have hgC := e1.get hg
    have hLC := hL.ex e1
    have hg11 := e1.get hg1
    have hg21 := hg2.ex e1
    have hllC := e1.get hll
    have hLtC := hLt.ex e1
    clear hx hp hg hL hg1 hg2 hll hLt hx1 hr1 ht
    walk_at "run"
    rename_i J S
    refine Z.fg S (fun i σ G => ∃ v5, σ = [some (.ref x), some (.ref pl), some (.ref p), some (.ref ll), some (.ref g), v5, none, none] ∧ Ex H1 G) ⟨none, rfl, Ex.refl _⟩ (fun i σ' G _ _ => trivial) ?_ ?_
    · rintro i y σ' G G2 hi ⟨v5, rfl, eG⟩ e2 rfl
      have hi2 : i < nd.length := by omega
      have eG2 := eG.trans e2
      have hgG := eG2.get hgC
      have hLG := hLC.ex eG2
      have hkG := eG2.get hg11
      obtain ⟨qa, i1, i2⟩ := (hg21.ex eG2).2 i hi2
      clear hgC hLC hg11 hg21 hllC hLtC hx11 hxC hp1 S
      walk_at "go"
      refine w_ixT (st_of hkG) (show atI ns (i : Int) = some (.ref qa) from by unfold atI; rw [ixN_pos (by omega) (by omega), Int.toNat_natCast]; exact i1) ?_
      walk_at "go"
      rename_i qb hqb
      rw [Int.toNat_natCast] at hqb
      refine u_samelotT (ns := [(nd.getD i (0, 0)).1, (nd.getD i (0, 0)).2]) (st_of i2) (st_of hqb) (by simp) fun G3 e3 => ?_
      walk_at "run"
      exact ⟨_, rfl, eG2.trans e3⟩
    rintro σ' G ⟨v5, rfl, eG⟩
    have hxG := hxC.ex eG
    have hpG := eG.l hp1
    have hgG := eG.get hgC
    have hLG := hLC.ex eG
    have hllG := eG.get hllC
    have hLtG := hLtC.ex eG
    have eHG := e1.trans eG
    clear hgC hLC hg11 hg21 hllC hLtC hx11 hxC hp1 S e1 eG
    walk_at "go"
    rename_i J2 S2
    refine Z.fg S2 (fun i σ G' => ∃ v6, σ = [some (.ref x), some (.ref pl), some (.ref p), some (.ref ll), some (.ref g), v5, v6, none] ∧ Ex G G') ⟨none, rfl, Ex.refl _⟩ (fun i σ' G' _ ⟨_, _, e⟩ => e.l (sq_of hllG)) ?_ ?_
    · rintro i y σ' G1 G2 hi ⟨v6, rfl, e1⟩ e2 hy
      have e3 := e1.trans e2
      obtain ⟨l, lot, rfl, hl, hlot⟩ := (hLtG.ex e3) i y hy
      have hll := hlot.len
      have hx3 := hxG.ex e3
      obtain ⟨g', ⟨dx', r', t', hx1', _⟩, _⟩ := id hx3
      simp only [xf_Closed] at hx1'
      have hg3 := e3.get hgG
      have hL3 := hLG.ex e3
      clear hgG hLG hllG hLtG hxG hpG S2
      walk_at "go"
      refine ⟨x, l, ws, a, ps, lot, nd, rfl, hx3, st_of hl, by omega, fun h => absurd hlot h, fun _ G4 e4 => ?_⟩
      have hl4 := e4.get hl
      have hx4 := hx3.ex e4
      have hx14 := e4.get hx1'
      have hg4 := e4.get hg3
      have hL4 := hL3.ex e4
      clear hl hx3 hx1' hg3 hL3
      walk_at "run"
      refine ⟨x, l, ws, a, ps, lot, nd, rfl, hx4, st_of hl4, by omega, fun h => absurd hlot h, fun _ G5 e5 => ?_⟩
      have hl5 := e5.get hl4
      have hg5 := e5.get hg4
      have hL5 := hL4.ex e5
      clear hl4 hx4 hx14 hg4 hL4
      walk_at "run"
      refine ⟨l, p, lot, xs, nd, rfl, st_of hl5, hg5, hL5, by omega, fun G6 e6 => ?_⟩
      walk_at "run"
      exact ⟨_, rfl, e3.trans (e4.trans (e5.trans e6))⟩
    rintro σ' G1 ⟨v6, rfl, e1⟩
    have hxG := hxG.ex e1
    have hpG := e1.l hpG
    have hllG := e1.get hllG
    obtain ⟨y0, hy0'⟩ : ∃ y0, ys[0]? = some y0 := ⟨ys[0], List.getElem?_eq_getElem hy0⟩
    obtain ⟨l, lot, rfl, hl, hlot⟩ := (hLtG.ex e1) 0 y0 hy0'
    have hll := hlot.len
    have ix0 : atI ys (0 : Int) = some (.ref l) := by unfold atI; rw [ixN_pos (by omega) (by omega)]; exact hy0'
    have eHG := eHG.trans e1
    have hlS : SqT K G1 l (lot.map V.int) := st_of hl
    clear hgG hLG hLtG S2 e1
    walk_at "go"
    refine w_ixL (sq_of hllG) ix0 ?_
    walk_at "go"
    refine w_ixL (by first | exact sq_of hllG | walk_at "fl") ix0 ?_
    walk_at "go"
    rename_i q1 K1 m1 f1 a1 q2 K2 f2 a2 q3 K3 m3 f3 a3 q4 K4 f4 a4 q5 K5 m5 f5 a5 q6 K6 m6 f6 a6 q7 K7 m7 f7 a7 J3 S3
    have b2 : SqT K K7 q2 _ := (f3.trans (f4.trans (f5.trans (f6.trans f7)))).t a2
    have b4 : SqT K K7 q4 _ := (f5.trans (f6.trans f7)).t a4
    have b5 : SqT K K7 q5 (([0, 0] : List Int).map V.int) := st_of ((f6.trans f7).get a5)
    have b6 : SqT K K7 q6 (([1, 0] : List Int).map V.int) := st_of (f7.get a6)
    have ff := f1.trans (f2.trans (f3.trans (f4.trans (f5.trans (f6.trans f7)))))
    have hx7 := hxG.ex ff
    clear a1 a2 a3 a4 a5 a6 m1 m3 m5 m6 m7 hxG hpG hllG hl hlS f1 f2 f3 f4 f5 f6 f7
    refine Z.fg S3 (fun i σ G' => ∃ v7, σ = [some (.ref x), some (.ref pl), some (.ref p), some (.ref ll), some (.ref g), v5, v6, v7] ∧ Ex K7 G') ⟨none, rfl, Ex.refl _⟩ (fun i σ' G' _ ⟨_, _, e⟩ => e.l (sq_of a7)) ?_ ?_
    · rintro i y σ' G2 G3 hi ⟨v7, rfl, e1⟩ e2 hy
      have e3 := e1.trans e2
      obtain ⟨c, lt, rfl, hc, hn⟩ : ∃ c lt, y = .ref c ∧ SqT K G3 c ((lt : List Int).map V.int) ∧ ¬ IsLot (ws.length : Int) lt := by
        match i, hi with
        | 0, _ => cases hy; exact ⟨_, _, rfl, e3.t b2, fun z => by have := z.2 _ (List.mem_append_right _ (List.mem_singleton.2 rfl)); omega⟩
        | 1, _ => cases hy; exact ⟨_, _, rfl, e3.t b4, fun z => by have := z.2 (-1) (by simp); omega⟩
        | 2, _ => cases hy; exact ⟨_, _, rfl, e3.t b5, fun z => by have := (List.pairwise_cons.1 z.1).1 0 (by simp); omega⟩
        | 3, _ => cases hy; exact ⟨_, _, rfl, e3.t b6, fun z => by have := (List.pairwise_cons.1 z.1).1 0 (by simp); omega⟩
        | n + 4, h => exact absurd h (by simp)
      have hx8 := hx7.ex e3
      clear a7 b2 b4 b5 b6 hx7 S3
      walk_at "go"
      refine ⟨x, c, ws, a, ps, lt, nd, rfl, hx8, hc, by omega, hn, fun G4 e4 => ?_⟩
      walk_at "run"
      exact ⟨_, rfl, e3.trans e4⟩
    rintro σ' G2 ⟨v7, rfl, e1⟩
    walk_at "go"
    exact k _ (eHG.trans (ff.trans e1))

theorem ok_TooMany___init__ (T : Tx P K mg) : FnOk P w K mg base (L2.CX P w) 1 (He.ma K (He.ga K "TooMany") "__init__") (Z.fdOf K (He.ma K (He.ga K "TooMany") "__init__")) ["self", "many", "most"] (Z.spX (He.ga K "TooMany") ["many", "most"]) := by
  refine Z.FunS.ok (x0 := "self") T.F_TooMany___init__ sc_TooMany___init__ (by decide +kernel) rfl rfl rfl (by decide +kernel) (by decide +kernel) T.p_top T.n_super T.c_TooMany (fun vs H Q E h => ?_) (fun cc cda A outer s H vs Q E hr h S => ?_)
  · obtain ⟨a, ws, rfl, hl, _⟩ := h
    simpa using hl
  · obtain ⟨a, ws, rfl, hl, ha, k⟩ := h
    obtain ⟨v1, v2, rfl⟩ : ∃ v1 v2, ws = [v1, v2] := by
      match ws, hl with
      | [v1, v2], _ => exact ⟨v1, v2, rfl⟩
    refine ⟨_, _, Z.ps_supE (Z.pe_supX S T.mro_TooMany_TooMany T.third T.si_TooMany.1 T.si_TooMany.2.1 (pa_cons pe_str pa_nil)), (pss_cons (ps_ost (pv 0) (pv 1)) (pss_one (ps_ost (pv 0) (pv 2)))), ?_⟩
    refine ⟨a, rfl, T.oe_TooMany, ha, by decide, ha, ?_⟩
    refine ⟨_, rfl, _, rfl, a, He.ga K "TooMany", rfl, T.oe_TooMany, T.nf_TooMany_many, .inl ⟨ha, fun dx hd hne => ?_⟩⟩
    refine ⟨_, rfl, _, rfl, a, He.ga K "TooMany", rfl, T.oe_TooMany, T.nf_TooMany_most, .inr ⟨dx, _, upd_same, by rw [upd_ne hne, upd_same], by simp, ?_⟩⟩
    rw [Z.upd_swap hne]
    exact k dx hd hne

/-- Rule.__init__ of an object of the class Weighted that is new -/
def sp_Weighted_Rule___init__ (K : PySem.W.Frag) : Sp := fun vs H Q E => ∃ (H0 : Hp) (x dx : Addr) (n : Int), vs = [.ref x, .int n] ∧ At H x (.ins (He.ga K "Weighted") dx []) ∧ Fr H0 x ∧ Ex H0 H ∧
  (24 < n → ∀ d H', Ex H0 H' → At H' d (.xd [("most", .int 24), ("many", .int n)]) → E (.ref (He.ga K "TooMany")) (some d) H') ∧ (n ≤ 24 → ∀ H', Ex H0 H' → At H' x (.ins (He.ga K "Weighted") dx [("many", .int n)]) → (∀ b o, b ≠ x → At H b o → At H' b o) → Q .non H')
theorem ok_Weighted_Rule___init__ (T : Tx P K mg) : FnOk P w K mg base (L2.CX P w) 3 (He.ma K (He.ga K "Rule") "__init__") (Z.fdOf K (He.ma K (He.ga K "Rule") "__init__")) ["self", "many"] (sp_Weighted_Rule___init__ K) := by
  refine T.F_Rule___init__.ok sc_Rule___init__ (fun vs H Q E h => ?_) (fun cdv A outer s H vs Q E hr h => ?_)
  · obtain ⟨H0, x, dx, n, rfl, _⟩ := h
    rfl
  · obtain ⟨H0, x, dx, n, rfl, hx, hf, e0, hE, k⟩ := h
    have cl := T.o_Weighted.cl
    have kM := T.k_Weighted_MOST
    have na := T.na_Weighted_many
    have fx0 := T.o_Weighted.cl
    have fx1 := T.na_Weighted_many
    have fx2 := T.k_Weighted_MOST
    refine ⟨_, (pss_cons (ps_if (pt_cmpR Z.op_gt (pv 1) (Z.con (K := K) rfl (pv 0) rfl) (nomark _)) (pss_one (Z.ps_raiseZ rfl (takes_of rfl rfl rfl rfl) (pmk_oex T.oe_TooMany T.si_TooMany.2.2.1 T.si_TooMany.2.2.2 (ok_TooMany___init__ T) (hr.mono (by decide)) T.b_TooMany___init__ .nil passL (by rfl) T.g_TooMany (pa_cons (pv 1) (pa_cons (Z.con (K := K) rfl (pv 0) rfl) pa_nil))))) pss_nil)
      (pss_one (ps_fld (pv 0) (pv 1) rfl))), ?_⟩
    try dsimp only [cxOf, Cx.nox, Cx.wish]
    try (show (_ : TS) _ [some _, some _] _)
    walk_at "go"
    refine Z.w_dec (fun h1 => ?_) (fun h1 => ?_)
    · walk_at "go"
      rename_i d H2 hn he hp
      exact hE h1 d H2 (e0.trans he) hp
    · walk_at "go"
      refine Z.w_put hx cl na (by decide) fun H2 h2 hk ho => ?_
      walk_at "go"
      exact k (by omega) H2 (hk H0 e0 hf) h2 ho

/-- the first weight below 1 -/
def spW_err (K : PySem.W.Frag) (ws : List Int) (a : Int) (E : XK) (H0 : Hp) : Prop :=
  (24 < ws.length → ∀ d H', Ex H0 H' → At H' d (.xd [("most", .int 24), ("many", .int ws.length)]) → E (.ref (He.ga K "TooMany")) (some d) H') ∧
  (ws.length ≤ 24 → ∀ i, i < ws.length → ws.getD i 0 < 1 → (∀ j, j < i → 1 ≤ ws.getD j 0) → ∀ d H', Ex H0 H' → At H' d (.xd [("at", .int (i : Nat)), ("what", .str "weights")]) → E (.ref (He.ga K "BadNumber")) (some d) H') ∧
  (ws.length ≤ 24 → (∀ j, j < ws.length → 1 ≤ ws.getD j 0) → a < 1 → ∀ d H', Ex H0 H' → At H' d (.xd [("at", .non), ("what", .str "aside")]) → E (.ref (He.ga K "BadNumber")) (some d) H')
def sp_Weighted___init__ (K : PySem.W.Frag) : Sp := fun vs H Q E => ∃ (H0 : Hp) (x dx l : Addr) (ws : List Int) (a : Int), vs = [.ref x, .ref l, .int a] ∧ At H x (.ins (He.ga K "Weighted") dx []) ∧ Fr H0 x ∧ Ex H0 H ∧ (SqL K H0 l (ws.map V.int) ∨ At H0 l (.tup (ws.map V.int))) ∧ ws.length ≤ 100 ∧
  spW_err K ws a E H0 ∧
  (ws.length ≤ 24 → (∀ j, j < ws.length → 1 ≤ ws.getD j 0) → 1 ≤ a → ∀ H' t, Ex H0 H' → At H' x (.ins (He.ga K "Weighted") dx (wF ws.length t a)) → At H' t (.tup (ws.map V.int)) → Q .non H')
theorem ok_Weighted___init__ (T : Tx P K mg) : FnOk P w K mg base (L2.CX P w) 5 (He.ma K (He.ga K "Weighted") "__init__") (Z.fdOf K (He.ma K (He.ga K "Weighted") "__init__")) ["self", "weights", "aside"] (sp_Weighted___init__ K) := by
  refine Z.FunS.ok (x0 := "self") T.F_Weighted___init__ sc_Weighted___init__ (by decide +kernel) rfl rfl rfl (by decide +kernel) (by decide +kernel) T.p_top T.n_super T.c_Weighted (fun vs H Q E h => ?_) (fun cc cda A outer s H vs Q E hr h S => ?_)
  · obtain ⟨H0, x, dx, l, ws, a, rfl, _⟩ := h
    rfl
  · obtain ⟨H0, x, dx, l, ws, a, rfl, hx, hf, e0, hl, hw, hE, k⟩ := h
    rcases hl with hl | hl
    · skip
      have cl := T.o_Weighted.cl
      have na1 := T.na_Weighted_weights
      have na2 := T.na_Weighted_aside
      have fx0 := T.o_Weighted.cl
      have fx1 := T.na_Weighted_aside
      have fx2 := T.na_Weighted_weights
      refine ⟨_, _, (Z.ps_supE (Z.pe_sup S T.mro_Weighted_Weighted T.third T.sm_Weighted_Weighted___init__.1 T.sm_Weighted_Weighted___init__.2.1 T.sm_Weighted_Weighted___init__.2.2 (Z.rawOk (ok_Weighted_Rule___init__ T) T.b_Rule___init__) (hr.mono (by decide)) (fun σ => passAt (takes_of rfl rfl rfl rfl) σ) (pa_cons (pe_callB (Z.call_len (K := K) rfl) (by rfl) T.n_len (by decide +kernel) (pa_cons (pv 1) pa_nil)) pa_nil))), (pss_cons (ps_for (passes_of rfl) rfl (Z.pi_enumA (K := K) rfl (by rfl) T.n_enumerate (pa_cons (pv 1) pa_nil)) (pg_tup (by rfl) (pgs_cons (pg_name (i := 4) sc_Weighted___init__.nd rfl (by first | exact Or.inl rfl | exact Or.inr rfl)) (pgs_cons (pg_name (i := 5) sc_Weighted___init__.nd rfl (by first | exact Or.inl rfl | exact Or.inr rfl)) pgs_nil))) (pss_one (ps_if (pt_cmpR Z.op_lt (pv 5) pe_int (nomark _)) (pss_one (Z.ps_raiseZ rfl (takes_of rfl rfl rfl rfl) (pmk_oex T.oe_BadNumber T.si_BadNumber.2.2.1 T.si_BadNumber.2.2.2 (ok_BadNumber___init__ T) (hr.mono (by decide)) T.b_BadNumber___init__ .nil passL (by rfl) T.g_BadNumber (pa_cons pe_str (pa_cons (pv 4) pa_nil))))) pss_nil)))
      (pss_cons (ps_if (pt_cmpR Z.op_lt (pv 2) pe_int (nomark _)) (pss_one (Z.ps_raiseZ rfl (takes_of rfl rfl rfl rfl) (pmk_oex T.oe_BadNumber T.si_BadNumber.2.2.1 T.si_BadNumber.2.2.2 (ok_BadNumber___init__ T) (hr.mono (by decide)) T.b_BadNumber___init__ .nil passL (by rfl) T.g_BadNumber (pa_cons pe_str (pa_cons pe_non pa_nil))))) pss_nil)
      (pss_cons (ps_fld (pv 0) (pe_callTy (Z.call_tuple (K := K) rfl) (by rfl) T.n_tuple (by decide +kernel) (pa_cons (pv 1) pa_nil)) rfl)
      (pss_one (ps_fld (pv 0) (pv 2) rfl))))), ?_⟩
      change tSeq _ _ _ [some _, some _, some _, none, none, none] _
      try dsimp only [Z.scx, NdefX.ncx]
      walk_at "go"
      refine ⟨H0, x, dx, _, rfl, hx, hf, e0, fun h d H' e hp => hE.1 (by omega) d H' e hp, fun h24 H1 e1 h1 ho1 => ?_⟩
      have hA1 : SqA K H1 l (ws.map V.int) := .inl (e1.l hl)
      have h24 : ws.length ≤ 24 := by omega
      walk_at "go"
      rename_i J S
      refine Z.fg S (fun i σ G => ∃ (v4 v5 : Option V), σ = [some (.ref x), some (.ref l), some (.int a), none, v4, v5] ∧ Ex H1 G ∧ At G x (.ins (He.ga K "Weighted") dx [("many", .int ws.length)]) ∧ ∀ j, j < i → 1 ≤ ws.getD j 0)
        ⟨none, none, rfl, Ex.refl _, h1, fun j hj => absurd hj (by omega)⟩ (fun i σ' G _ ⟨_, _, _, e, _⟩ => aOk hA1 e) ?_ ?_
      · rintro i y σ' G G2 hi ⟨v4, v5, rfl, eG, hG, hall⟩ e2 ⟨t, z, rfl, ht, hz⟩
        obtain ⟨hi2, rfl⟩ := get_int hz
        have hG2 := e2.get hG
        walk_at "go"
        refine Z.w_dec (fun h => ?_) (fun h => ?_)
        · walk_at "go"
          rename_i d H5 hn5 he5 hp5
          exact hE.2.1 h24 i hi2 h hall d H5 (e1.trans ((eG.trans e2).trans he5)) hp5
        · walk_at "go"
          refine ⟨_, _, rfl, eG.trans e2, hG2, fun j hj => ?_⟩
          by_cases e : j = i
          · subst e; omega
          · exact hall j (by omega)
      · rintro σ' G ⟨v4, v5, rfl, eG, hG, hall⟩
        rw [List.length_map] at hall
        walk_at "go"
        refine Z.w_dec (fun h => ?_) (fun h => ?_)
        · walk_at "go"
          rename_i d H5 hn5 he5 hp5
          exact hE.2.2 h24 hall h d H5 (e1.trans (eG.trans he5)) hp5
        · have hl2 := eG.l (e1.l hl)
          walk_at "go"
          rename_i t H5 hn5 he5 hp5
          have hG5 := he5.get hG
          refine Z.w_putE hG5 cl na1 (by show 1 < 900; decide) (by simp only [List.map_cons, List.map_nil]; decide +kernel) fun H6 h6 hk6 ho6 => ?_
          have ht6 := ho6 t _ (fun z => hG.ne hn5 z.symm) hp5
          walk_at "go"
          refine Z.w_putE h6 cl na2 (by show 2 < 900; decide) (by simp only [List.map_cons, List.map_nil, List.cons_append, List.nil_append]; decide +kernel) fun H7 h7 hk7 ho7 => ?_
          walk_at "go"
          refine k h24 hall (by omega) H7 t (hk7 H0 (hk6 H0 (e1.trans (eG.trans he5)) hf) hf) ?_ (ho7 t _ (fun z => hG.ne hn5 z.symm) ht6)
          exact h7
    · skip
      have cl := T.o_Weighted.cl
      have na1 := T.na_Weighted_weights
      have na2 := T.na_Weighted_aside
      have fx0 := T.o_Weighted.cl
      have fx1 := T.na_Weighted_aside
      have fx2 := T.na_Weighted_weights
      refine ⟨_, _, (Z.ps_supE (Z.pe_sup S T.mro_Weighted_Weighted T.third T.sm_Weighted_Weighted___init__.1 T.sm_Weighted_Weighted___init__.2.1 T.sm_Weighted_Weighted___init__.2.2 (Z.rawOk (ok_Weighted_Rule___init__ T) T.b_Rule___init__) (hr.mono (by decide)) (fun σ => passAt (takes_of rfl rfl rfl rfl) σ) (pa_cons (pe_callB (Z.call_len (K := K) rfl) (by rfl) T.n_len (by decide +kernel) (pa_cons (pv 1) pa_nil)) pa_nil))), (pss_cons (ps_for (passes_of rfl) rfl (Z.pi_enumA (K := K) rfl (by rfl) T.n_enumerate (pa_cons (pv 1) pa_nil)) (pg_tup (by rfl) (pgs_cons (pg_name (i := 4) sc_Weighted___init__.nd rfl (by first | exact Or.inl rfl | exact Or.inr rfl)) (pgs_cons (pg_name (i := 5) sc_Weighted___init__.nd rfl (by first | exact Or.inl rfl | exact Or.inr rfl)) pgs_nil))) (pss_one (ps_if (pt_cmpR Z.op_lt (pv 5) pe_int (nomark _)) (pss_one (Z.ps_raiseZ rfl (takes_of rfl rfl rfl rfl) (pmk_oex T.oe_BadNumber T.si_BadNumber.2.2.1 T.si_BadNumber.2.2.2 (ok_BadNumber___init__ T) (hr.mono (by decide)) T.b_BadNumber___init__ .nil passL (by rfl) T.g_BadNumber (pa_cons pe_str (pa_cons (pv 4) pa_nil))))) pss_nil)))
      (pss_cons (ps_if (pt_cmpR Z.op_lt (pv 2) pe_int (nomark _)) (pss_one (Z.ps_raiseZ rfl (takes_of rfl rfl rfl rfl) (pmk_oex T.oe_BadNumber T.si_BadNumber.2.2.1 T.si_BadNumber.2.2.2 (ok_BadNumber___init__ T) (hr.mono (by decide)) T.b_BadNumber___init__ .nil passL (by rfl) T.g_BadNumber (pa_cons pe_str (pa_cons pe_non pa_nil))))) pss_nil)
      (pss_cons (ps_fld (pv 0) (pe_callTy (Z.call_tuple (K := K) rfl) (by rfl) T.n_tuple (by decide +kernel) (pa_cons (pv 1) pa_nil)) rfl)
      (pss_one (ps_fld (pv 0) (pv 2) rfl))))), ?_⟩
      change tSeq _ _ _ [some _, some _, some _, none, none, none] _
      try dsimp only [Z.scx, NdefX.ncx]
      walk_at "go"
      refine ⟨H0, x, dx, _, rfl, hx, hf, e0, fun h d H' e hp => hE.1 (by omega) d H' e hp, fun h24 H1 e1 h1 ho1 => ?_⟩
      have hA1 : SqA K H1 l (ws.map V.int) := .inr (st_of (e1.get hl))
      have h24 : ws.length ≤ 24 := by omega
      walk_at "go"
      rename_i J S
      refine Z.fg S (fun i σ G => ∃ (v4 v5 : Option V), σ = [some (.ref x), some (.ref l), some (.int a), none, v4, v5] ∧ Ex H1 G ∧ At G x (.ins (He.ga K "Weighted") dx [("many", .int ws.length)]) ∧ ∀ j, j < i → 1 ≤ ws.getD j 0)
        ⟨none, none, rfl, Ex.refl _, h1, fun j hj => absurd hj (by omega)⟩ (fun i σ' G _ ⟨_, _, _, e, _⟩ => aOk hA1 e) ?_ ?_
      · rintro i y σ' G G2 hi ⟨v4, v5, rfl, eG, hG, hall⟩ e2 ⟨t, z, rfl, ht, hz⟩
        obtain ⟨hi2, rfl⟩ := get_int hz
        have hG2 := e2.get hG
        walk_at "go"
        refine Z.w_dec (fun h => ?_) (fun h => ?_)
        · walk_at "go"
          rename_i d H5 hn5 he5 hp5
          exact hE.2.1 h24 i hi2 h hall d H5 (e1.trans ((eG.trans e2).trans he5)) hp5
        · walk_at "go"
          refine ⟨_, _, rfl, eG.trans e2, hG2, fun j hj => ?_⟩
          by_cases e : j = i
          · subst e; omega
          · exact hall j (by omega)
      · rintro σ' G ⟨v4, v5, rfl, eG, hG, hall⟩
        rw [List.length_map] at hall
        walk_at "go"
        refine Z.w_dec (fun h => ?_) (fun h => ?_)
        · walk_at "go"
          rename_i d H5 hn5 he5 hp5
          exact hE.2.2 h24 hall h d H5 (e1.trans (eG.trans he5)) hp5
        · have hl2 := eG.get (e1.get hl)
          walk_at "go"
          have hne : l ≠ x := fun z => hl.ne hf z
          refine Z.w_putE hG cl na1 (by show 1 < 900; decide) (by simp only [List.map_cons, List.map_nil]; decide +kernel) fun H6 h6 hk6 ho6 => ?_
          have ht6 := ho6 l _ hne hl2
          walk_at "go"
          refine Z.w_putE h6 cl na2 (by show 2 < 900; decide) (by simp only [List.map_cons, List.map_nil, List.cons_append, List.nil_append]; decide +kernel) fun H7 h7 hk7 ho7 => ?_
          walk_at "go"
          refine k h24 hall (by omega) H7 l (hk7 H0 (hk6 H0 (e1.trans eG) hf) hf) ?_ (ho7 l _ hne ht6)
          exact h7
/-- Weighted(l, a) as a new object -/
theorem mk_Weighted___init__ {H : Hp} {Q : VK} {E : XK} {l : Addr} {ws : List Int} {a : Int} (hl : SqL K H l (ws.map V.int) ∨ At H l (.tup (ws.map V.int))) (hw : ws.length ≤ 100) (hE : spW_err K ws a E H)
    (k : ws.length ≤ 24 → (∀ j, j < ws.length → 1 ≤ ws.getD j 0) → 1 ≤ a → ∀ x dx t H', Fr H x → Ex H H' → At H' x (.ins (He.ga K "Weighted") dx (wF ws.length t a)) → At H' t (.tup (ws.map V.int)) → Q (.ref x) H') :
    dMk (He.ga K "Weighted") (sp_Weighted___init__ K) [] E Q [.ref l, .int a] H :=
  w_dMk fun p dx H2 nw => ⟨H, p, dx, l, ws, a, rfl, nw.at_, nw.new, nw.ex, hl, hw, hE, fun h1 h2 h3 H' t e hx ht => ⟨rfl, k h1 h2 h3 p dx t H' nw.new e hx ht⟩⟩
theorem pos_of {ws : List Int} (h : ∀ j, j < ws.length → 1 ≤ ws.getD j 0) : ∀ w ∈ ws, 1 ≤ w := fun w hw => by
  obtain ⟨i, hi, rfl⟩ := List.mem_iff_getElem.mp hw
  have := h i hi
  rwa [getD_get _ _ _ hi] at this
/-- .. of right numbers -/
theorem mkW {H : Hp} {Q : VK} {E : XK} {l : Addr} {ws : List Int} {a : Int} (hl : SqL K H l (ws.map V.int)) (hw : ws.length ≤ 24) (hp : ∀ w ∈ ws, 1 ≤ w) (ha : 1 ≤ a) (k : ∀ x H', Fr H x → Ex H H' → WR K H' x ws a → Q (.ref x) H') :
    dMk (He.ga K "Weighted") (sp_Weighted___init__ K) [] E Q [.ref l, .int a] H :=
  mk_Weighted___init__ (.inl hl) (by omega) ⟨fun h => by omega, fun h i hi hi2 => by have := hp _ (List.getElem_mem hi); rw [getD_get _ _ _ hi] at hi2; omega, fun _ _ h => by omega⟩ fun h1 h2 h3 x dx t H' hf e hx ht => k x H' hf e ⟨⟨dx, t, hx, ht⟩, hw, hp, ha⟩
/-- .. of a tuple -/
theorem mkWT {H : Hp} {Q : VK} {E : XK} {l : Addr} {ws : List Int} {a : Int} (hl : At H l (.tup (ws.map V.int))) (hw : ws.length ≤ 24) (hp : ∀ w ∈ ws, 1 ≤ w) (ha : 1 ≤ a) (k : ∀ x H', Fr H x → Ex H H' → WR K H' x ws a → Q (.ref x) H') :
    dMk (He.ga K "Weighted") (sp_Weighted___init__ K) [] E Q [.ref l, .int a] H :=
  mk_Weighted___init__ (.inr hl) (by omega) ⟨fun h => by omega, fun h i hi hi2 => by have := hp _ (List.getElem_mem hi); rw [getD_get _ _ _ hi] at hi2; omega, fun _ _ h => by omega⟩ fun h1 h2 h3 x dx t H' hf e hx ht => k x H' hf e ⟨⟨dx, t, hx, ht⟩, hw, hp, ha⟩
local macro_rules | `(tactic| walk_at "call") => `(tactic| ((with_reducible apply R.mkW); (walk_at "fi"); (walk_at "num"); (with_reducible assumption); (with_reducible assumption); (intro p H2 hn he hr)))

theorem getD_set {α : Type} (l : List α) (q i : Nat) (d p : α) (hq : q < l.length) : (l.set q p).getD i d = if i = q then p else l.getD i d := by
  rw [List.getD_eq_getElem?_getD]
  by_cases e : i = q
  · subst e
    rw [if_pos rfl, List.getElem?_set_self hq]
    rfl
  · rw [if_neg e, List.getElem?_set_ne (fun z => e z.symm), ← List.getD_eq_getElem?_getD]
theorem PL.set {H : Hp} {xs : List V} {ps : List (Int × Int)} {a : Addr} {p : Int × Int} {q : Nat} (h : PL H xs ps) (hq : q < ps.length) (r : At H a (.tup [.int p.1, .int p.2])) : PL H (xs.set q (.ref a)) (ps.set q p) := by
  refine ⟨by rw [List.length_set, List.length_set, h.1], fun i hi => ?_⟩
  rw [List.length_set] at hi
  rw [getD_set _ _ _ _ _ hq]
  by_cases e : i = q
  · subst e
    rw [if_pos rfl]
    exact ⟨a, List.getElem?_set_self (by rw [h.1]; exact hq), r⟩
  · rw [if_neg e]
    obtain ⟨b, h1, h2⟩ := h.2 i hi
    exact ⟨b, by rw [List.getElem?_set_ne (fun z => e z.symm)]; exact h1, h2⟩
def sp_law (K : PySem.W.Frag) : Sp := fun vs H Q _ => ∃ (a : Addr) (ns : List Int), vs = [.ref a] ∧ SqL K H a (ns.map V.int) ∧ ∀ H', Q (.bl true) H'
theorem ok_law (T : Tx P K mg) : FnOk P w K mg base CX0 9 (He.ga K "law") (Z.fdOf K (He.ga K "law")) ["_law_script"] (sp_law K) := by
  refine T.F_law.ok sc_law (fun vs H Q E h => ?_) (fun cdv A outer s H vs Q E hr h => ?_)
  · obtain ⟨a, ns, rfl, _⟩ := h
    rfl
  · obtain ⟨a, ns, rfl, hS, k⟩ := h
    refine ⟨_, PSs.nox (pss_cons (ps_set (i := 1) sc_law.nd rfl (Or.inl rfl) (pe_call (ok__law_draws T) (hr.mono (by decide)) (by rfl) T.g__law_draws T.F__law_draws.kp T.b__law_draws .nil passL (pa_cons (pe_call (ok__law_cell T) (hr.mono (by decide)) (by rfl) T.g__law_cell T.F__law_cell.kp T.b__law_cell .nil passL (pa_cons (pv 0) (pa_cons pe_int pa_nil))) (pa_cons (pe_lst (pa_cons pe_int (pa_cons pe_int (pa_cons pe_int (pa_cons pe_int pa_nil))))) pa_nil))))
      (pss_cons (ps_set (i := 2) sc_law.nd rfl (Or.inr rfl) (pe_ix (Z.ix (K := K) rfl) (pv 1) pe_int (fun _ _ => rfl)))
      (pss_cons (ps_set (i := 3) sc_law.nd rfl (Or.inl rfl) (pe_ix (Z.ix (K := K) rfl) (pv 1) pe_int (fun _ _ => rfl)))
      (C8.pss_cut (ps_if (pt_cmpR Z.op_lt (pe_ix (Z.ix (K := K) rfl) (pv 1) pe_int (fun _ _ => rfl)) pe_int (nomark _)) (pss_cons (ps_set (i := 2) sc_law.nd rfl (Or.inr rfl) (pe_op Z.op_mod (pe_callTy Z.call_int (by rfl) T.n_int (by decide +kernel) (pa_cons (pv 2) pa_nil)) pe_int))
      (pss_one (ps_set (i := 3) sc_law.nd rfl (Or.inl rfl) (pe_op Z.op_mod (pe_callTy Z.call_int (by rfl) T.n_int (by decide +kernel) (pa_cons (pv 3) pa_nil)) pe_int)))) pss_nil)
      (pss_cons (ps_set (i := 4) sc_law.nd rfl (Or.inl rfl) (pe_call (ok__law_pairs T) (hr.mono (by decide)) (by rfl) T.g__law_pairs T.F__law_pairs.kp T.b__law_pairs .nil passL (pa_cons (pv 0) (pa_cons (pv 2) (pa_cons (pv 3) pa_nil)))))
      (pss_cons (ps_set (i := 5) sc_law.nd rfl (Or.inl rfl) (pe_callTy (Z.call_list (K := K) rfl) (by rfl) T.n_list (by decide +kernel) (pa_cons (pv 4) pa_nil)))
      (pss_cons (ps_set (i := 6) sc_law.nd rfl (Or.inl rfl) (pe_call (ok__law_draws T) (hr.mono (by decide)) (by rfl) T.g__law_draws T.F__law_draws.kp T.b__law_draws .nil passL (pa_cons (pe_call (ok__law_cell T) (hr.mono (by decide)) (by rfl) T.g__law_cell T.F__law_cell.kp T.b__law_cell .nil passL (pa_cons (pv 0) (pa_cons pe_int pa_nil))) (pa_cons (pe_op Z.op_add (pe_lst (pa_cons pe_int pa_nil)) (pe_op op_rep (pe_lst (pa_cons pe_int (pa_cons pe_int (pa_cons pe_int (pa_cons (pe_op op_pow pe_int pe_int) pa_nil))))) pe_int)) pa_nil))))
      (pss_cons (ps_for PassesOwn.never rfl (pi_range1 (by rfl) T.n_range (pa_cons (pe_ix (Z.ix (K := K) rfl) (pv 6) pe_int (fun _ _ => rfl)) pa_nil)) (pg_name (i := 7) sc_law.nd rfl (by first | exact Or.inl rfl | exact Or.inr rfl)) (pss_cons (ps_set (i := 8) sc_law.nd rfl (Or.inl rfl) (pe_slice (Z.slL (K := K) rfl) (pv 6) (po_some (pe_op Z.op_add pe_int (pe_op Z.op_mul pe_int (pv 7)))) (po_some (pe_op Z.op_add pe_int (pe_op Z.op_mul pe_int (pv 7))))))
      (pss_one (ps_if (pt_cmpR (Z.op_eq (K := K) rfl hr.units) (pe_callB (Z.call_len (K := K) rfl) (by rfl) T.n_len (by decide +kernel) (pa_cons (pv 5) pa_nil)) pe_int (nomark _)) (pss_one (ps_expr (pe_bm PySem.F.plainAttrs_list PySem.F.slot_list_append PySem.F.type_list_append mt_append (pv 5) (pa_cons (pe_call (ok__law_wrong T) (hr.mono (by decide)) (by rfl) T.g__law_wrong T.F__law_wrong.kp T.b__law_wrong .nil passL (pa_cons (pv 8) (pa_cons (pv 2) pa_nil))) pa_nil)))) (pss_one (ps_asg (pe_call (ok__law_wrong T) (hr.mono (by decide)) (by rfl) T.g__law_wrong T.F__law_wrong.kp T.b__law_wrong .nil passL (pa_cons (pv 8) (pa_cons (pv 2) pa_nil))) (pg_sub (pv 5) (pe_op Z.op_mod (pe_callTy Z.call_int (by rfl) T.n_int (by decide +kernel) (pa_cons (pe_ix (Z.ix (K := K) rfl) (pv 8) pe_int (fun _ _ => rfl)) pa_nil)) (pe_callB (Z.call_len (K := K) rfl) (by rfl) T.n_len (by decide +kernel) (pa_cons (pv 5) pa_nil))) set_list)))))))
      (pss_cons (ps_set (i := 9) sc_law.nd rfl (Or.inl rfl) (pe_call (ok__law_ups T) (hr.mono (by decide)) (by rfl) T.g__law_ups T.F__law_ups.kp T.b__law_ups .nil passL (pa_cons (pe_call (ok__law_row T) (hr.mono (by decide)) (by rfl) T.g__law_row T.F__law_row.kp T.b__law_row .nil passL (pa_cons (pe_call (ok__law_cell T) (hr.mono (by decide)) (by rfl) T.g__law_cell T.F__law_cell.kp T.b__law_cell .nil passL (pa_cons (pv 0) (pa_cons pe_int pa_nil))) (pa_cons (pe_op Z.op_add (pv 2) pe_int) pa_nil))) pa_nil)))
      (pss_cons (ps_set (i := 10) sc_law.nd rfl (Or.inl rfl) (pe_call (ok__law_row T) (hr.mono (by decide)) (by rfl) T.g__law_row T.F__law_row.kp T.b__law_row .nil passL (pa_cons (pe_call (ok__law_cell T) (hr.mono (by decide)) (by rfl) T.g__law_cell T.F__law_cell.kp T.b__law_cell .nil passL (pa_cons (pv 0) (pa_cons pe_int pa_nil))) (pa_cons (pv 2) pa_nil))))
      (pss_cons (ps_set (i := 11) sc_law.nd rfl (Or.inl rfl) (pe_make T.mk_Weighted (ok_Weighted___init__ T) (hr.mono (by decide)) (by rfl) T.g_Weighted T.b_Weighted___init__ .nil passL (pa_cons (pe_slice (Z.slL (K := K) rfl) (pv 9) po_none (po_some (pv 2))) (pa_cons (pe_ix (Z.ix (K := K) rfl) (pv 9) (pv 2) (fun _ _ => rfl)) pa_nil))))
      (pss_cons (ps_set (i := 12) sc_law.nd rfl (Or.inl rfl) (pe_call (ok__law_due T) (hr.mono (by decide)) (by rfl) T.g__law_due T.F__law_due.kp T.b__law_due .nil passL (pa_cons (pv 5) (pa_cons (pv 2) pa_nil))))
      (pss_cons (ps_set (i := 13) sc_law.nd rfl (Or.inl rfl) (pe_callTy (Z.call_list (K := K) rfl) (by rfl) T.n_list (by decide +kernel) (pa_cons (pv 5) pa_nil)))
      (pss_cons (ps_set (i := 14) sc_law.nd rfl (Or.inl rfl) (pe_call (ok__law_asked T) (hr.mono (by decide)) (by rfl) T.g__law_asked T.F__law_asked.kp T.b__law_asked .nil passL (pa_cons (pv 11) (pa_cons (pe_callTy (Z.call_list (K := K) rfl) (by rfl) T.n_list (by decide +kernel) (pa_cons (pv 10) pa_nil)) (pa_cons (pv 13) pa_nil)))))
      (C8.pss_cut (ps_if (PW.pt (pw_or (pt_cmpR (Z.op_ne (K := K) rfl hr.units) (pv 14) (pv 12) (nomark _)) (pw_or (pt_cmpR (Z.op_ne (K := K) rfl hr.units) (pv 13) (pv 5) (nomark _)) (pw_or1 (PW.pt (pw_and (pt_cmpR (Z.op_eq (K := K) rfl hr.units) (pe_callB (Z.call_len (K := K) rfl) (by rfl) T.n_len (by decide +kernel) (pa_cons (pv 14) pa_nil)) pe_int (nomark _)) (pw_and1 (pt_not (pt_val (pe_call (ok__law_is_int T) (hr.mono (by decide)) (by rfl) T.g__law_is_int T.F__law_is_int.kp T.b__law_is_int .nil passL (pa_cons (pe_ix (Z.ix (K := K) rfl) (pv 14) pe_int (fun _ _ => rfl)) pa_nil))))))))))) (pss_one (ps_ret pe_bl)) pss_nil)
      (pss_cons (ps_set (i := 15) sc_law.nd rfl (Or.inl rfl) (pe_call (ok__law_classes T) (hr.mono (by decide)) (by rfl) T.g__law_classes T.F__law_classes.kp T.b__law_classes .nil passL (pa_cons (pv 11) (pa_cons (pe_callTy (Z.call_list (K := K) rfl) (by rfl) T.n_list (by decide +kernel) (pa_cons (pv 10) pa_nil)) (pa_cons (pv 13) pa_nil)))))
      (C8.pss_cut (ps_if (PW.pt (pw_or (PW.pt (pw_and (pt_cmpR (Z.op_eq (K := K) rfl hr.units) (pe_callB (Z.call_len (K := K) rfl) (by rfl) T.n_len (by decide +kernel) (pa_cons (pv 12) pa_nil)) pe_int (nomark _)) (pw_and1 (pt_cmpR (Z.op_ne (K := K) rfl hr.units) (pv 15) (pe_lst (pa_cons pe_bl (pa_cons pe_bl (pa_cons pe_bl (pa_cons pe_bl (pa_cons pe_bl (pa_cons pe_bl pa_nil))))))) (nomark _))))) (pw_or1 (PW.pt (pw_and (pt_cmpR (Z.op_eq (K := K) rfl hr.units) (pe_callB (Z.call_len (K := K) rfl) (by rfl) T.n_len (by decide +kernel) (pa_cons (pv 12) pa_nil)) pe_int (nomark _)) (pw_and1 (pt_cmpR (Z.op_ne (K := K) rfl hr.units) (pv 15) (pe_lst pa_nil) (nomark _)))))))) (pss_one (ps_ret pe_bl)) pss_nil)
      (pss_cons (ps_if (pt_cmpR (Z.op_ne (K := K) rfl hr.units) (pe_call (ok__law_asked T) (hr.mono (by decide)) (by rfl) T.g__law_asked T.F__law_asked.kp T.b__law_asked .nil passL (pa_cons (pv 11) (pa_cons (pe_op Z.op_add (pv 10) (pe_lst (pa_cons pe_int pa_nil))) (pa_cons (pv 13) pa_nil)))) (pe_lst (pa_cons pe_str (pa_cons pe_str (pa_cons pe_non pa_nil)))) (nomark _)) (pss_one (ps_ret pe_bl)) pss_nil)
      (C8.pss_cut (ps_if (pt_cmpR Z.op_gt (pv 2) pe_int (nomark _)) (pss_cons (ps_set (i := 16) sc_law.nd rfl (Or.inl rfl) (pe_op Z.op_mod (pe_callTy Z.call_int (by rfl) T.n_int (by decide +kernel) (pa_cons (pe_ix (Z.ix (K := K) rfl) (pv 1) pe_int (fun _ _ => rfl)) pa_nil)) (pv 2)))
      (pss_cons (ps_set (i := 14) sc_law.nd rfl (Or.inl rfl) (pe_call (ok__law_asked T) (hr.mono (by decide)) (by rfl) T.g__law_asked T.F__law_asked.kp T.b__law_asked .nil passL (pa_cons (pv 11) (pa_cons (pe_op Z.op_add (pe_op Z.op_add (pe_slice (Z.slL (K := K) rfl) (pv 10) po_none (po_some (pv 16))) (pe_lst (pa_cons (pe_un Z.un_neg pe_int) pa_nil))) (pe_slice (Z.slL (K := K) rfl) (pv 10) (po_some (pe_op Z.op_add (pv 16) pe_int)) po_none)) (pa_cons (pv 13) pa_nil)))))
      (pss_one (ps_if (PW.pt (pw_or (pt_cmpR (Z.op_ne (K := K) rfl hr.units) (pe_slice (Z.slL (K := K) rfl) (pv 14) po_none (po_some pe_int)) (pe_lst (pa_cons pe_str (pa_cons pe_str pa_nil))) (nomark _)) (pw_or (pt_cmpR (Z.op_ne (K := K) rfl hr.units) (pe_callB (Z.call_len (K := K) rfl) (by rfl) T.n_len (by decide +kernel) (pa_cons (pv 14) pa_nil)) pe_int (nomark _)) (pw_or (pt_not (pt_val (pe_call (ok__law_is_int T) (hr.mono (by decide)) (by rfl) T.g__law_is_int T.F__law_is_int.kp T.b__law_is_int .nil passL (pa_cons (pe_ix (Z.ix (K := K) rfl) (pv 14) pe_int (fun _ _ => rfl)) pa_nil)))) (pw_or1 (pt_cmpR (Z.op_ne (K := K) rfl hr.units) (pe_ix (Z.ix (K := K) rfl) (pv 14) pe_int (fun _ _ => rfl)) (pv 16) (nomark _))))))) (pss_one (ps_ret pe_bl)) pss_nil)))) pss_nil)
      (pss_cons (ps_set (i := 13) sc_law.nd rfl (Or.inl rfl) (pe_callTy (Z.call_list (K := K) rfl) (by rfl) T.n_list (by decide +kernel) (pa_cons (pv 4) pa_nil)))
      (pss_cons (ps_if (pt_cmpR (Z.op_ne (K := K) rfl hr.units) (pe_call (ok__law_asked T) (hr.mono (by decide)) (by rfl) T.g__law_asked T.F__law_asked.kp T.b__law_asked .nil passL (pa_cons (pv 11) (pa_cons (pe_callTy (Z.call_list (K := K) rfl) (by rfl) T.n_list (by decide +kernel) (pa_cons (pv 10) pa_nil)) (pa_cons (pv 13) pa_nil)))) (pe_lst (pa_cons pe_str pa_nil)) (nomark _)) (pss_one (ps_ret pe_bl)) pss_nil)
      (pss_cons (ps_set (i := 17) sc_law.nd rfl (Or.inl rfl) (Z.pe_mkK0 T.mk_Closed (Z.rk_ok (ok_Closed___init__ T) T.kb_Closed___init__) (hr.mono (by decide)) (by rfl) T.g_Closed passL (pa_cons (pv 11) (pa_cons (pe_callTy (Z.call_list (K := K) rfl) (by rfl) T.n_list (by decide +kernel) (pa_cons (pv 10) pa_nil)) pa_nil)) (pk_cons (pv 13) pk_nil)))
      (pss_cons (ps_expr (pe_bm PySem.F.plainAttrs_list PySem.F.slot_list_append PySem.F.type_list_append mt_append (pv 13) (pa_cons (pe_tup (pa_cons pe_int (pa_cons pe_int pa_nil))) pa_nil)))
      (pss_cons (ps_asg (pe_tup (pa_cons pe_int (pa_cons pe_int pa_nil))) (pg_sub (pv 13) pe_int set_list))
      (pss_cons (ps_set (i := 18) sc_law.nd rfl (Or.inl rfl) (pe_call (ok__law_lot T) (hr.mono (by decide)) (by rfl) T.g__law_lot T.F__law_lot.kp T.b__law_lot .nil passL (pa_cons (pe_ix (Z.ix (K := K) rfl) (pv 1) pe_int (fun _ _ => rfl)) (pa_cons (pv 2) pa_nil))))
      (pss_cons (ps_set (i := 19) sc_law.nd rfl (Or.inl rfl) (pe_lst (pa_cons (pv 18) (pa_cons (pe_call (ok__law_completed T) (hr.mono (by decide)) (by rfl) T.g__law_completed T.F__law_completed.kp T.b__law_completed .nil passL (pa_cons (pv 18) (pa_cons (pv 4) (pa_cons (pv 2) pa_nil)))) (pa_cons (pe_callTy (Z.call_tuple (K := K) rfl) (by rfl) T.n_tuple (by decide +kernel) (pa_cons (pe_lc (own := [("_law_thing", 20)]) rfl sc_law.nd (pi_range1 (by rfl) T.n_range (pa_cons (pv 2) pa_nil)) (blkOk_by (N := ["_law_script", "_law_drawn", "_law_many", "_law_count", "_law_good", "_law_pairs_here", "_law_faults", "_law_k", "_law_fault", "_law_row_here", "_law_prices", "_law_rule", "_law_due_here", "_law_handed", "_law_told", "_law_classes_here", "_law_place", "_law_choice", "_law_lot_here", "_law_lots", "_law_thing", "_law_bits"]) (sc := defScope s_law) (by decide +kernel)) (fun _ _ _ _ _ => (pg_name (i := 20) sc_law.nd rfl (by first | exact Or.inl rfl | exact Or.inr rfl))) (fun _ _ _ _ _ => pts_nil) (fun _ _ _ _ _ => (pv 20))) pa_nil)) (pa_cons (pe_tup pa_nil) pa_nil))))))
      (C8.pss_cut (ps_if (pt_cmpR Z.op_le (pv 2) pe_int (nomark _)) (pss_one (ps_setLc (i := 19) (own := [("_law_bits", 21)]) rfl sc_law.nd rfl rfl (sw_true rfl rfl rfl (by decide +kernel)) (pi_range1 (by rfl) T.n_range (pa_cons (pe_call (ok__law_power T) (hr.mono (by decide)) (by rfl) T.g__law_power T.F__law_power.kp T.b__law_power .nil passL (pa_cons (pv 2) pa_nil)) pa_nil)) (blkOk_by (N := ["_law_script", "_law_drawn", "_law_many", "_law_count", "_law_good", "_law_pairs_here", "_law_faults", "_law_k", "_law_fault", "_law_row_here", "_law_prices", "_law_rule", "_law_due_here", "_law_handed", "_law_told", "_law_classes_here", "_law_place", "_law_choice", "_law_lot_here", "_law_lots", "_law_thing", "_law_bits"]) (sc := defScope s_law) (by decide +kernel)) (fun _ _ _ _ _ => (pg_name (i := 21) sc_law.nd rfl (by first | exact Or.inl rfl | exact Or.inr rfl))) (fun _ _ _ _ _ => pts_nil) (fun _ _ _ _ _ => (pe_call (ok__law_lot T) (hr.mono (by decide)) (by rfl) T.g__law_lot T.F__law_lot.kp T.b__law_lot .nil passL (pa_cons (pv 21) (pa_cons (pv 2) pa_nil)))))) pss_nil)
      (pss_one (ps_ret (pe_call (ok__law_looks T) (hr.mono (by decide)) (by rfl) T.g__law_looks T.F__law_looks.kp T.b__law_looks .nil passL (pa_cons (pv 17) (pa_cons (pv 10) (pa_cons (pv 4) (pa_cons (pv 19) pa_nil)))))))))))))))))))))))))))))))))), ?_⟩
    try dsimp only [cxOf, Cx.nox, Cx.wish]
    try (show (_ : TS) _ [some _, none, none, none, none, none, none, none, none, none, none, none, none, none, none, none, none, none, none, none, none, none] _)
    walk_at "go"
    rename_i c0 p1 H1 hn1 he1 hp1 p2 H2 ds hn2 he2 hp2 hd hb
    obtain ⟨hdl, hb0, hb1, hb2, hb3⟩ := hb
    have e02 := he1.trans he2
    clear hp1 hn1 hn2 hd he1 he2
    walk_at "go"
    refine Z.w_cut (fun σ G => ∃ (n c : Nat), σ = [some (.ref a), some (.ref p2), some (.int (n : Int)), some (.int (c : Int)), none, none, none, none, none, none, none, none, none, none, none, none, none, none, none, none, none, none] ∧ Ex H2 G ∧ n ≤ 24 ∧ c ≤ 60) ?_ ?_
    · walk_at "go"
      refine Z.w_dec (fun h => ?_) (fun h => ?_)
      · walk_at "go"
        exact ⟨(ds.getD 1 0 % 7).toNat, (ds.getD 2 0 % 9).toNat, by rw [Int.toNat_of_nonneg (by omega), Int.toNat_of_nonneg (by omega)], Ex.refl _, by omega, by omega⟩
      · walk_at "go"
        exact ⟨(ds.getD 1 0).toNat, (ds.getD 2 0).toNat, by rw [Int.toNat_of_nonneg (by omega), Int.toNat_of_nonneg (by omega)], Ex.refl _, by omega, by omega⟩
    rintro σ G ⟨n, c, rfl, eG, hn24, hc60⟩
    have hp2G := eG.get hp2
    have hSG := (e02.trans eG).l hS
    have e0G := e02.trans eG
    clear hp2 hS e02 eG
    walk_at "go"
    refine ⟨a, ns, n, c, rfl, hSG, hn24, hc60, fun p3 H3 xs nd hn3 he3 hp3 hL3 hnd hgd => ?_⟩
    have hp23 := he3.get hp2G
    have hS3 := he3.l hSG
    have e03 := e0G.trans he3
    clear hp2G hSG e0G he3 hn3
    walk_at "go"
    rename_i q4 K4 m4 f4 a4 c5 q5 K5 m5 f5 a5 q6 K6 m6 f6 a6 q7 K7 m7 f7 a7 q8 K8 m8 f8 a8 q9 K9 fs m9 f9 a9 hd9 hb9 J9 S9
    have f49 := f5.trans (f6.trans (f7.trans (f8.trans f9)))
    have g4 := f49.get a4
    have hqne : q9 ≠ q4 := (ne_of_none (f5.get a4 |> (f6.trans (f7.trans f8)).get) m9).symm
    have hfl : fs.length = 9 := hb9.1
    have hf0 : (fs.getD 0 0).toNat ≤ 2 := by omega
    have fQ : Fr H3 q4 := m4
    have f39 := f4.trans f49
    have hL9 : PL K9 xs nd := hL3.ex f39
    clear a5 a6 a7 a8 m4 m5 m6 m7 m8 m9 a4 hd9 hb9 f4 f5 f6 f7 f8 f9 f49
    refine Z.fg S9 (fun i σ G => ∃ (v7 v8 : Option V) (xs' : List V) (qs : List (Int × Int)), σ = [some (.ref a), some (.ref p2), some (.int (n : Int)), some (.int (c : Int)), some (.ref p3), some (.ref q4), some (.ref q9), v7, v8, none, none, none, none, none, none, none, none, none, none, none, none, none] ∧ Ex H3 G ∧ At G q4 (.lst xs') ∧ PL G xs' qs ∧ At G q9 (.lst (fs.map V.int)) ∧ qs.length ≤ 60) ⟨none, none, xs, nd, rfl, f39, g4, hL9, a9, by omega⟩ (fun i σ' G _ _ => trivial) ?_ ?_
    · rintro i y σ' G G2 hi ⟨v7, v8, xs', qs, rfl, eG, hG, hLG, hfG, hq⟩ e2 rfl
      have eG2 := eG.trans e2
      have hG2 := e2.get hG
      have hfG2 := e2.get hfG
      have hLG2 := hLG.ex e2
      have hxl2 := hLG.1
      clear hG hfG hLG a9 g4 hL9 S9 hp23 hS3 hp3 hL3
      have hi1 : i ≤ 1 := by omega
      walk_at "go"
      rename_i p10 H10 hn10 he10 hp10
      have hsl : ((fs.drop (1 + 4 * (i : Int)).toNat).take ((5 + 4 * (i : Int)).toNat - (1 + 4 * (i : Int)).toNat)).length = 4 := by
        rw [List.length_take, List.length_drop]
        omega
      generalize (fs.drop (1 + 4 * (i : Int)).toNat).take ((5 + 4 * (i : Int)).toNat - (1 + 4 * (i : Int)).toNat) = ft at *
      have hG10 := he10.get hG2
      have hf10 := he10.get hfG2
      have hL10 := hLG2.ex he10
      have e10 := eG2.trans he10
      clear hG2 hfG2 hLG2 he10 hn10
      refine Z.w_dec (fun h => ?_) (fun h => ?_)
      · walk_at "go"
        refine ⟨p10, ft, n, rfl, hp10, hsl, fun pp H11 u v hn11 he11 hpp => ?_⟩
        have hG11 := he11.get hG10
        have hf11 := he11.get hf10
        have hL11 := hL10.ex he11
        have e11 := e10.trans he11
        clear hG10 hf10 hL10 hp10
        have fQ : Fr H3 q4 := fQ
        walk_at "go"
        rename_i G5 hp5 hnl5 ho5 he5'
        exact ⟨_, _, _, qs ++ [(u, v)], rfl, he5', hp5, (hL11.nl hnl5).snoc (hnl5.get (fun l z => by cases z) hpp), ho5 q9 _ hqne hf11, by rw [List.length_append]; simp; omega⟩
      · walk_at "go"
        refine ⟨p10, ft, n, rfl, hp10, hsl, fun pp H11 u v hn11 he11 hpp => ?_⟩
        have hG11 := he11.get hG10
        have hf11 := he11.get hf10
        have hL11 := hL10.ex he11
        have hp11 := he11.get hp10
        have e11 := e10.trans he11
        have hz0 := Int.emod_nonneg (ft.getD 0 0) (show (xs'.length : Int) ≠ 0 by omega)
        have hz1 := Int.emod_lt_of_pos (ft.getD 0 0) (show (0 : Int) < xs'.length by omega)
        clear hG10 hf10 hL10 hp10
        have fQ : Fr H3 q4 := fQ
        walk_at "go"
        rename_i G5 hp5 hnl5 ho5 he5'
        exact ⟨_, _, _, qs.set (ft.getD 0 0 % (xs'.length : Int)).toNat (u, v), rfl, he5', hp5, (hL11.nl hnl5).set (by omega) (hnl5.get (fun l z => by cases z) hpp), ho5 q9 _ hqne hf11, by rw [List.length_set]; omega⟩
    rintro σ' G ⟨v7, v8, xs', qs, rfl, eG, hG, hLG, hfG, hq⟩
    have hp2C := eG.get hp23
    have hSC := eG.l hS3
    have hp3C := eG.get hp3
    have hL3C := hL3.ex eG
    have e0C := e03.trans eG
    clear hfG a9 g4 hL9 S9 hp23 hS3 hp3 hL3 eG f39 fQ e03
    walk_at "go"
    rename_i c1 pA HA ns3 hnA heA hpA hlA hxA pB HB hnB heB hpB c6 pC HC ps hnC heC hpC hlC hxC pD HD hnD heD hpD
    have hrl : (ns3.map fun x => 1 + x).length = n + 1 := by rw [List.length_map]; omega
    have hrb : ∀ x ∈ ns3.map fun x => 1 + x, 1 ≤ x ∧ x < 2 ^ 60 := fun x hx => by
      obtain ⟨z, hz, rfl⟩ := List.mem_map.mp hx
      have := hxA z hz
      omega
    rw [Int.toNat_natCast] at hpD
    generalize (ns3.map fun x => 1 + x) = rs at *
    have hpb : ∀ p ∈ ps, 0 ≤ p ∧ p < 2 ^ 60 := fun p hp => by have := hxC p hp; omega
    have hwl : (rs.take n).length = n := by rw [List.length_take]; omega
    have hwb : ∀ x ∈ rs.take n, 1 ≤ x ∧ x < 2 ^ 60 := fun x hx => hrb x (List.mem_of_mem_take hx)
    have hab : 1 ≤ rs.getD n 0 ∧ rs.getD n 0 < 2 ^ 60 := by rw [getD_get _ _ _ (show n < rs.length by omega)]; exact hrb _ (List.getElem_mem _)
    generalize rs.take n = ws at *
    generalize rs.getD n 0 = aw at *
    have eAD := (heA.trans heB).trans (heC.trans heD)
    have hpCD := heD.get hpC
    have hp2D := eAD.get hp2C
    have hp3D := eAD.get hp3C
    have hL3D := hL3C.ex eAD
    have hGD := eAD.get hG
    have hLD := hLG.ex eAD
    have e0D := e0C.trans eAD
    have hSD := eAD.l hSC
    clear hpA hpB hpC hnA hnB hnC heA heB heC heD hlA hxA hxC hrl hrb hp2C hp3C hL3C hG hLG e0C hSC eAD
    refine mkW (sq_of hpD) (by omega) (fun w hw => (hwb w hw).1) hab.1 fun W HW hnW heW hW => ?_
    have hpCW := heW.get hpCD
    have hp2W := heW.get hp2D
    have hp3W := heW.get hp3D
    have hL3W := hL3D.ex heW
    have hGW := heW.get hGD
    have hLW := hLD.ex heW
    have e0W := e0D.trans heW
    clear hpD hnD hpCD hp2D hp3D hL3D hGD hLD e0D hSD heW hnW
    walk_at "go"
    have hok : PricesOk ws.length ps := ⟨by omega, fun p hp => (hpb p hp).1⟩
    refine ⟨q4, n, xs', qs, rfl, hGW, hLW, by omega, fun pd Hd us hnd' hed hpd hD => ?_⟩
    have hWd := hW.ex hed
    have hpCd := hed.get hpCW
    have hp2d := hed.get hp2W
    have hp3d := hed.get hp3W
    have hL3d := hL3W.ex hed
    have hGd := hed.get hGW
    have hLd := hLW.ex hed
    have e0d := e0W.trans hed
    clear hW hpCW hp2W hp3W hL3W hGW hLW e0W hed hnd'
    walk_at "go"
    rename_i pE HE hnE heE hpE pF HF hnF heF hpF
    have e1 := heE.trans heF
    refine ⟨W, pF, pE, ws, aw, ps, xs', qs, rfl, hWd.ex e1, sq_of hpF, heF.get hpE, hLd.ex e1, by omega, fun v i hR => (hR.no hok).elim, fun _ pt Ht us2 hnt het hpt hD2 => ?_⟩
    rw [hwl] at hD2
    have eu := hD2.det hD
    subst eu
    have e2 := e1.trans het
    have hWt := hWd.ex e2
    have hpCt := e2.get hpCd
    have hp2t := e2.get hp2d
    have hp3t := e2.get hp3d
    have hL3t := hL3d.ex e2
    have hGt := e2.get hGd
    have hLt := hLd.ex e2
    have e0t := e0d.trans e2
    have hpdt := e2.get hpd
    have hpEt := (heF.trans het).get hpE
    clear hWd hpCd hp2d hp3d hL3d hGd hLd e0d hpd hpE hpF heE heF het hnE hnF hnt e1 e2 hD2
    walk_at "go"
    refine Z.w_cut (fun σ G => σ = [some (.ref a), some (.ref p2), some (.int (n : Int)), some (.int (c : Int)), some (.ref p3), some (.ref q4), some (.ref q9), v7, v8, some (.ref pB), some (.ref pC), some (.ref W), some (.ref pd), some (.ref pE), some (.ref pt), none, none, none, none, none, none, none] ∧ Ex Ht G) ?_ ?_
    · obtain ⟨ds', hf1, hf2⟩ := hD.fl
      walk_at "go"
      refine w_neLFr (sq_of hpt) (sq_of hpdt) hf1 hf2 ?_
      walk_at "run"
      refine w_nePP (sq_of hpEt) (sq_of hGt) hLt hLt ?_
      walk_at "run"
      rcases hD with ⟨i, hi, rfl⟩ | ⟨hg, rfl⟩
      · walk_at "run"
        exact ⟨rfl, Ex.refl _⟩
      · walk_at "run"
        exact ⟨rfl, Ex.refl _⟩
    rintro σ G3 ⟨rfl, e3⟩
    walk_at "go"
    rename_i pF HF hnF heF hpF
    have e4 := e3.trans heF
    refine ⟨W, pF, pE, ws, aw, ps, xs', qs, rfl, hWt.ex e4, sq_of hpF, e4.get hpEt, hLt.ex e4, by omega, hok, fun pc Hc cs hnc hec hpc hC => ?_⟩
    rw [hwl] at hC
    have e5 := e4.trans hec
    have hWc := hWt.ex e5
    have hpCc := e5.get hpCt
    have hp2c := e5.get hp2t
    have hp3c := e5.get hp3t
    have hL3c := hL3t.ex e5
    have hGc := e5.get hGt
    have hLc := hLt.ex e5
    have e0c := e0t.trans e5
    have hpdc := e5.get hpdt
    have hpEc := e5.get hpEt
    clear hWt hpCt hp2t hp3t hL3t hGt hLt e0t hpdt hpEt hpF heF e3 e4 hec hnc hnF hpt e5
    walk_at "go"
    refine Z.w_cut (fun σ G => σ = [some (.ref a), some (.ref p2), some (.int (n : Int)), some (.int (c : Int)), some (.ref p3), some (.ref q4), some (.ref q9), v7, v8, some (.ref pB), some (.ref pC), some (.ref W), some (.ref pd), some (.ref pE), some (.ref pt), some (.ref pc), none, none, none, none, none, none] ∧ Ex Hc G) ?_ ?_
    · rcases hD with ⟨i, hi, rfl⟩ | ⟨hg, rfl⟩ <;> rcases hC with ⟨j, hj, rfl⟩ | ⟨hg2, rfl⟩
      · walk_at "run"
        exact ⟨rfl, by walk_at "ex"⟩
      · exact absurd hg2 hi.bad
      · exact absurd hg hj.bad
      · walk_at "run"
        exact ⟨rfl, by walk_at "ex"⟩
    rintro σ G4 ⟨rfl, e6⟩
    have hW4 := hWc.ex e6
    have hpC4 := e6.get hpCc
    have hp24 := e6.get hp2c
    have hp34 := e6.get hp3c
    have hL34 := hL3c.ex e6
    have hL4 := hLc.ex e6
    have e04 := e0c.trans e6
    have hpE4 := e6.get hpEc
    clear hWc hpCc hp2c hp3c hL3c hGc hLc e0c hpdc hpEc e6 hpc hC hD
    walk_at "go"
    rename_i pG HG hnG heG hpG pH HH hnH heH hpH
    have e7 := heG.trans heH
    have hpH2 : At HH pH (.lst ((ps ++ [0]).map V.int)) := by rw [List.map_append]; exact hpH
    refine ⟨W, pH, pE, ws, aw, ps ++ [0], xs', qs, rfl, hW4.ex e7, sq_of hpH2, e7.get hpE4, hL4.ex e7, by omega, fun v i hR pq Hq hnq heq hpq => ?_, fun hok2 => absurd hok2.1 (by rw [List.length_append]; simp; omega)⟩
    have hv : v = .non := by
      cases hR with
      | len h => rfl
      | neg h => exact absurd h (by rw [List.length_append]; simp; omega)
    subst hv
    have e8 := e7.trans heq
    have hW5 := hW4.ex e8
    have hpC5 := e8.get hpC4
    have hp25 := e8.get hp24
    have hp35 := e8.get hp34
    have hL35 := hL34.ex e8
    have hL5 := hL4.ex e8
    have e05 := e04.trans e8
    have hpE5 := e8.get hpE4
    clear hW4 hpC4 hp24 hp34 hL34 hL4 e04 hpE4 e7 e8 heq hnq hnG hnH heG heH hpG hpH hpH2 hR
    walk_at "run"
    rename_i pI HI hnI heI hpI
    clear hpq hpI hnI
    refine Z.w_cut (fun σ G => ∃ (v14 v16 : Option V), σ = [some (.ref a), some (.ref p2), some (.int (n : Int)), some (.int (c : Int)), some (.ref p3), some (.ref q4), some (.ref q9), v7, v8, some (.ref pB), some (.ref pC), some (.ref W), some (.ref pd), some (.ref pE), v14, some (.ref pc), v16, none, none, none, none, none] ∧ Ex Hq G) ?_ ?_
    · have hWI := hW5.ex heI
      have hpCI := heI.get hpC5
      have hp2I := heI.get hp25
      have hpEI := heI.get hpE5
      have hLI := hL5.ex heI
      clear hW5 hpC5 hp25 hp35 hL35 hL5 hpE5
      walk_at "go"
      refine Z.w_dec (fun h => ?_) (fun h => ?_)
      · have z1 := Int.emod_nonneg (ds.getD 3 0) (show (n : Int) ≠ 0 by omega)
        have z2 := Int.emod_lt_of_pos (ds.getD 3 0) (show (0 : Int) < n by omega)
        walk_at "go"
        rename_i r1 R1 n1 g1 b1 r2 R2 n2 g2 b2 r3 R3 n3 g3 b3 r4 R4 n4 g4 b4 r5 R5 n5 g5 b5
        obtain ⟨kq, hk⟩ := Int.eq_ofNat_of_zero_le z1
        rw [hk] at b5 z2
        rw [hk]
        have hkl : kq < ps.length := by omega
        have hb5 : At R5 r5 (.lst ((ps.set kq (-1)).map V.int)) := by
          rw [Int.toNat_natCast, show ((kq : Int) + 1).toNat = kq + 1 by omega] at b5
          rw [List.set_eq_take_append_cons_drop, if_pos hkl, List.map_append, List.map_cons]
          rw [List.append_assoc] at b5
          exact b5
        have hres : PRes ws.length (ps.set kq (-1)) (.int (kq : Nat)) (kq : Nat) := pres_set hok hkl (by decide)
        have ge := g1.trans (g2.trans (g3.trans (g4.trans g5)))
        refine ⟨W, r5, pE, ws, aw, ps.set kq (-1), xs', qs, rfl, hWI.ex ge, sq_of hb5, ge.get hpEI, hLI.ex ge, by omega, fun v i hR pt3 Ht3 hnt het hpt3 => ?_, fun hok2 => (hres.no hok2).elim⟩
        have hv := (hR.det hres).1
        subst hv
        clear b1 b2 b3 b4 b5 hb5
        walk_at "run"
        rename_i u1 U1 un1 ue1 up1 u2 U2 un2 ue2 up2
        have ev : PyData.eqvAll [PyData.str "number", PyData.str "prices"] [PyData.str "number", PyData.str "prices"] = true := by first | decide +kernel | simp [PyData.eqvAll, PyData.eqv]
        rw [ev]
        have hpt4 := (ue1.trans ue2).get hpt3
        clear up1 up2 un1 un2 hpt3
        walk_at "run"
        exact ⟨_, _, rfl, heI.trans (ge.trans (het.trans (ue1.trans ue2)))⟩
      · walk_at "go"
        exact ⟨_, _, rfl, heI⟩
    rintro σ G5 ⟨v14, v16, rfl, e9⟩
    have hW6 := hW5.ex e9
    have hpC6 := e9.get hpC5
    have hp26 := e9.get hp25
    have hp36 := e9.get hp35
    have hL36 := hL35.ex e9
    have e06 := e05.trans e9
    clear hW5 hpC5 hp25 hp35 hL35 hL5 e05 hpE5 heI e9
    walk_at "go"
    rename_i pJ HJ hnJ heJ hpJ pK HK hnK heK hpK
    have e10 := heJ.trans heK
    refine ⟨W, pK, pJ, ws, aw, ps, xs, nd, rfl, hW6.ex e10, sq_of hpK, heK.get hpJ, hL36.ex e10, by omega, fun v i hR => (hR.no hok).elim, fun _ pq2 Hq2 us3 hnq heq hpq hD3 => ?_⟩
    rw [hwl] at hD3
    have hu : us3 = [.str "made"] := by
      rcases hD3 with ⟨i, hi, rfl⟩ | ⟨_, rfl⟩
      · exact absurd hgd hi.bad
      · rfl
    subst hu
    have e11 := e10.trans heq
    have hW7 := hW6.ex e11
    have hpC7 := e11.get hpC6
    have hp27 := e11.get hp26
    have hp37 := e11.get hp36
    have hL37 := hL36.ex e11
    have hpJ7 := (heK.trans heq).get hpJ
    have e07 := e06.trans e11
    have fJ : Fr G5 pJ := hnJ
    clear e10 hpJ hpK hnK hnq heK heq hD3
    walk_at "run"
    rename_i pM HM hnM heM hpM pN HN hnN heN hpN
    have e12 := heM.trans heN
    refine mkCl (hW7.ex e12) (sq_of hpN) (e12.get hpJ7) (hL37.ex e12) (by omega) (PErr.ok hok) (fun _ i hi => absurd hgd (by have := hi.bad; rw [hwl] at this; exact this)) fun _ _ x Hx hnx hex hx => ?_
    have e13 := e12.trans hex
    have hpC8 := e13.get hpC7
    have hp28 := e13.get hp27
    have hp38 := e13.get hp37
    have hL38 := hL37.ex e13
    have hpJ8 := e13.get hpJ7
    have e08 := e07.trans e13
    have eJ : Ex G5 Hx := e11.trans e13
    have hxl3 : xs.length ≤ 60 := by have := hL38.1; omega
    clear hW7 hpC7 hp27 hp37 hL37 hpJ7 e07 e12 e13 e11 heJ hpM hpN hnM hnN heM heN hex hnx hnJ hpq
    have fJ : Fr G5 pJ := fJ
    walk_at "go"
    rename_i t1 T1 tn1 te1 tp1 M1 mp1 mn1 mo1 mk1 t2 T2 tn2 te2 tp2 M2 mp2 mn2 mo2 mk2
    have hxM := (((hx.ex te1).nl mn1).ex te2).nl mn2
    have hp2M := mk2.get hp26
    have hpCM := mk2.get hpC6
    have hp3M := mk2.get hp36
    have hL3M := hL36.ex mk2
    have e0M := e06.trans mk2
    clear hp26 hpC6 hp36 hL36 e06 hW6 hpC8 hp28 hp38 hL38 hpJ8 e08 eJ mp1 mn1 mo1 mk1 mp2 mn2 mo2 mk2 te1 te2 tp1 tp2 tn1 tn2 hx fJ
    walk_at "go"
    rename_i pL HL lot hnL heL hpL hlotE
    have hlot : IsLot (n : Int) lot := by
      have := lotOf_isLot (ds.getD 3 0).toNat n
      rw [Int.toNat_natCast] at hlotE
      rw [← hlotE] at this
      exact this
    clear hlotE
    have hll := hlot.len
    refine ⟨pL, p3, lot, xs, nd, n, rfl, st_of hpL, heL.get hp3M, hL3M.ex heL, by omega, hn24, hgd, fun pK HK ml hnK heK hpK hmlL => ?_⟩
    walk_at "go"
    rename_i J9 S9
    refine Z.cgI S9 (fun j => (j : Int)) (fun H' e => trivial) (by show _ ≤ 16777216; omega) (fun Dl j x H' hj ec c y => ?_) (fun pR HR hnR heR hpR => ?_) rfl
    · cases y
      walk_at "go"
    have hall := allLot (n := (n : Int)) (by omega)
    generalize ((List.range ((n : Nat) : Int).toNat).map fun j : Nat => (j : Int)) = ms0 at *
    have hpLR := (heK.trans heR).get hpL
    have hpKR := heR.get hpK
    have e1R := heL.trans (heK.trans heR)
    have hxR := hxM.ex e1R
    have hpCR := e1R.get hpCM
    have hp3R := e1R.get hp3M
    have hL3R := hL3M.ex e1R
    clear hxM hp2M hpCM hp3M hL3M e0M e1R heL heK heR hpL hpK hnL hnK hnR S9
    walk_at "go"
    rename_i pT HT hnT heT hpT pX HX hnX heX hpX pS HS hnS heS hpS
    have eRS := heT.trans (heX.trans heS)
    have hL0 : LtL HS [V.ref pL, V.ref pK, V.ref pT, V.ref pX] n := by
      intro i y hy
      rcases i with _ | _ | _ | _ | i
      · cases hy; exact ⟨pL, lot, rfl, eRS.get hpLR, hlot⟩
      · cases hy; exact ⟨pK, ml, rfl, eRS.get hpKR, hmlL⟩
      · cases hy; exact ⟨pT, ms0, rfl, (heX.trans heS).get hpT, hall⟩
      · cases hy; exact ⟨pX, [], rfl, heS.get hpX, ⟨List.Pairwise.nil, fun z hz => absurd hz (by simp)⟩⟩
      · cases hy
    have hxS := hxR.ex eRS
    have hpCS := eRS.get hpCR
    have hp3S := eRS.get hp3R
    have hL3S := hL3R.ex eRS
    clear hxR hpCR hp3R hL3R eRS heT heX heS hpT hpX hnT hnX hnS hpLR hpKR hpR
    refine Z.w_cut (fun σ G => ∃ (ll : Addr) (ys : List V) (v20 v21 : Option V), σ = [some (.ref a), some (.ref p2), some (.int (n : Int)), some (.int (c : Int)), some (.ref p3), some (.ref q4), some (.ref q9), v7, v8, some (.ref pB), some (.ref pC), some (.ref W), some (.ref pd), some (.ref pJ), v14, some (.ref pc), v16, some (.ref x), some (.ref pL), some (.ref ll), v20, v21] ∧ Ex HS G ∧ At G ll (.lst ys) ∧ LtL G ys n ∧ 0 < ys.length ∧ ys.length ≤ 1000) ?_ ?_
    · walk_at "go"
      refine Z.w_dec (fun h5 => ?_) (fun h5 => ?_)
      · have hpw : (2 ^ n : Nat) ≤ 64 := Nat.pow_le_pow_right (n := 2) (by decide) (show n ≤ 6 by omega)
        have hpos : 0 < (2 ^ n : Nat) := Nat.pow_pos (by decide)
        walk_at "go"
        refine ⟨n, rfl, by omega, fun H17 he17 => ?_⟩
        generalize (2 ^ n : Nat) = u at *
        walk_at "go"
        rename_i J3 S3
        refine Z.cgX S3 (fun k acc G => LtL G acc n ∧ acc.length = k) (fun H' e => ⟨(fun i y hy => nomatch hy), rfl⟩) (fun k acc Ga Gb h e => ⟨h.1.ex e, h.2⟩) (fun H' e => trivial) (by show _ ≤ 16777216; omega) (fun Dl kq z G acc hk ec cd hl hP hy => ?_) (fun p18 H18 acc hn18 he18 hp18 hl18 hP18 => ?_) rfl
        · subst hy
          walk_at "go"
          refine u_lot (K := K) (E := E0) (by omega) (by omega) (by omega) fun pq Hl lt hnl hel hpq hlt => ?_
          have hlL : IsLot (n : Int) lt := by
            have := lotOf_isLot kq n
            simp only [Int.toNat_natCast] at hlt
            rw [← hlt] at this
            exact this
          refine Z.elx cd hl (by rw [hl]; show kq < 16777216; omega) hel fun H5 hn5 => ⟨fun i y hy => ?_, by simp [hP.2]⟩
          by_cases hi : i < acc.length
          · rw [List.getElem?_append_left hi] at hy
            obtain ⟨l, lo, h1, h2, h3⟩ := (hP.1.ex hel) i y hy
            exact ⟨l, lo, h1, hn5.get (fun l z => by cases z) h2, h3⟩
          · rw [List.getElem?_append_right (by omega)] at hy
            rcases hz : i - acc.length with _ | j
            · rw [hz] at hy
              cases hy
              exact ⟨pq, lt, rfl, hn5.get (fun l z => by cases z) hpq, hlL⟩
            · rw [hz] at hy
              cases hy
        walk_at "go"
        exact ⟨p18, acc, _, _, rfl, he17.trans he18, hp18, hP18.1, by omega, by omega⟩
      · walk_at "go"
        exact ⟨pS, _, _, _, rfl, Ex.refl _, hpS, hL0, by simp, by simp⟩
    clear hpS hL0
    rintro σ G9 ⟨ll, ys, v20, v21, rfl, e9, hll9, hL9, hy0, hy1⟩
    walk_at "go"
    exact ⟨x, pC, p3, ll, ws, aw, ps, xs, nd, ys, rfl, hxS.ex e9, sq_of (e9.get hpCS), e9.get hp3S, hL3S.ex e9, by omega, hll9, by rw [hwl]; exact hL9, hy0, hy1, by omega, fun H' e => k _⟩

end R
theorem PySem.Challenge.cw_dearestshelf_k35_closed_refusals_holds : PySem.Challenge.rw_dearestshelf_k35_closed_refusals.Holds := by
  exact R.fin fun T => R.ok_law T
